import PyProof.Rows.All
import HandS.ForMost
import HandS.IsInst
import HandS.Flow
import HandS.Style
import HandS.Deep
import HandS.Zip
import HandS.TupAny
import HandS.TupMul
import HandS.Walk
import KE.KDictKeyed
import HandS.Conv
import KE.GoesEnum
import PySem.Challenge.RW_placehues_k15_whole_books_that_go_by_wor
import KE.KRevSl
import HandS.TupSets
import Wide.All
import OpenK.AllK
import Wide.FinOn
set_option Elab.async false
set_option linter.all false
set_option maxRecDepth 100000
set_option maxHeartbeats 4000000
namespace Ph
open PySem L2

/-! ## what a slot holds -/
inductive Sl where
  | no
  | d (x : PyData)
  | l (xs : List PyData)
  | k (kvs : List (NestedKey × PyData))
  | i (kvs : List (Int × PyData))
  | s (kvs : List (Str × PyData))
  | t

/-! ### Same, Dp -/
theorem same_t {K : PySem.W.Frag} {H H' : Hp} {a : Addr} {xs : List V} (e : Same H H') (h : SqT K H a xs) : SqT K H' a xs := by
  rcases h with (h | ⟨o, h⟩) | h
  · exact .inl (.inl (e _ _ h))
  · exact .inl (.inr ⟨o, e _ _ h⟩)
  · exact .inr h
mutual
theorem dp_mono {K : PySem.W.Frag} {S S' : Hp} (e : Same S S') : ∀ (d : PyData) (v : V), Dp K S v d → Dp K S' v d
  | .none, _, h => by cases h; exact .non
  | .bool _, _, h => by cases h; exact .bl _
  | .int _, _, h => by cases h; exact .int _
  | .str _, _, h => by cases h; exact .str _
  | .list ds, _, h => by
    cases h with
    | lst a b => exact .lst (e.seq a) (dps_mono e ds _ b)
  | .tuple ds, _, h => by
    cases h with
    | tup a b => exact .tup (same_t e a) (dps_mono e ds _ b)
  | .dict _, _, h => by cases h
theorem dps_mono {K : PySem.W.Frag} {S S' : Hp} (e : Same S S') : ∀ (ds : List PyData) (vs : List V), DpAll K S vs ds → DpAll K S' vs ds
  | [], _, h => by cases h; exact .nil
  | d :: ds, _, h => by
    cases h with
    | cons a b => exact .cons (dp_mono e d _ a) (dps_mono e ds _ b)
end
theorem dps_len {K : PySem.W.Frag} {S : Hp} : ∀ {ds : List PyData} {vs : List V}, DpAll K S vs ds → vs.length = ds.length
  | [], _, h => by cases h; rfl
  | d :: ds, _, h => by
    cases h with
    | cons a b => rw [List.length_cons, List.length_cons, dps_len b]
theorem dps_get {K : PySem.W.Frag} {S : Hp} : ∀ {ds : List PyData} {vs : List V} {i : Nat} {d : PyData}, DpAll K S vs ds → ds[i]? = some d → ∃ v, vs[i]? = some v ∧ Dp K S v d
  | [], _, _, _, _, e => by simp at e
  | d :: ds, _, 0, x, h, e => by
    cases h with
    | cons a b =>
      have e1 : d = x := by simpa using e
      subst e1
      exact ⟨_, rfl, a⟩
  | d :: ds, _, i + 1, x, h, e => by
    cases h with
    | cons a b =>
      obtain ⟨v, h1, h2⟩ := dps_get (i := i) b (by simpa using e)
      exact ⟨v, by simpa using h1, h2⟩
theorem dps_app {K : PySem.W.Frag} {S : Hp} : ∀ {ds es : List PyData} {vs ws : List V}, DpAll K S vs ds → DpAll K S ws es → DpAll K S (vs ++ ws) (ds ++ es)
  | [], _, _, _, h, h' => by cases h; exact h'
  | d :: ds, es, _, ws, h, h' => by
    cases h with
    | cons a b => exact .cons a (dps_app b h')
theorem dps_one {K : PySem.W.Frag} {S : Hp} {v : V} {d : PyData} (h : Dp K S v d) : DpAll K S [v] [d] := .cons h .nil
theorem dps_set {K : PySem.W.Frag} {S : Hp} {v : V} {d : PyData} (h : Dp K S v d) : ∀ {ds : List PyData} {vs : List V} (i : Nat), DpAll K S vs ds → DpAll K S (vs.set i v) (ds.set i d)
  | [], _, i, h' => by cases h'; exact .nil
  | e :: ds, _, 0, h' => by
    cases h' with
    | cons a b => exact .cons h b
  | e :: ds, _, i + 1, h' => by
    cases h' with
    | cons a b => exact .cons a (dps_set h i b)
theorem dps_take {K : PySem.W.Frag} {S : Hp} : ∀ {ds : List PyData} {vs : List V} (n : Nat), DpAll K S vs ds → DpAll K S (vs.take n) (ds.take n)
  | _, _, 0, _ => by simp only [List.take_zero]; exact .nil
  | [], _, n + 1, h => by cases h; exact .nil
  | d :: ds, _, n + 1, h => by
    cases h with
    | cons a b => exact .cons a (dps_take n b)
theorem dps_drop {K : PySem.W.Frag} {S : Hp} : ∀ {ds : List PyData} {vs : List V} (n : Nat), DpAll K S vs ds → DpAll K S (vs.drop n) (ds.drop n)
  | _, _, 0, h => h
  | [], _, n + 1, h => by cases h; exact .nil
  | d :: ds, _, n + 1, h => by
    cases h with
    | cons a b => exact dps_drop n b
theorem dps_rev {K : PySem.W.Frag} {S : Hp} : ∀ {ds : List PyData} {vs : List V}, DpAll K S vs ds → DpAll K S vs.reverse ds.reverse
  | [], _, h => by cases h; exact .nil
  | d :: ds, _, h => by
    cases h with
    | cons a b =>
      rw [List.reverse_cons, List.reverse_cons]
      exact dps_app (dps_rev b) (dps_one a)
theorem dps_rep {K : PySem.W.Frag} {S : Hp} {ds : List PyData} {vs : List V} (h : DpAll K S vs ds) : ∀ n : Nat, DpAll K S (List.replicate n vs).flatten (List.replicate n ds).flatten
  | 0 => .nil
  | n + 1 => by
    rw [List.replicate_succ, List.replicate_succ, List.flatten_cons, List.flatten_cons]
    exact dps_app h (dps_rep h n)

/-! ### the own things -/
/-- a dict whose keys are tuples: its entries, each key's tuple at an address -/
def DcO (P : Program) (w : World) (a : Addr) (E : List (NestedKey × Addr × Value)) : HO :=
  .ext fun h => ∃ o es ep, h.get? a = some o ∧ o.ExactDict ∧ o.data = .dict es ep ∧ es.toList = E.map (entryOfKey (nestedKind P w)) ∧ (E.map (·.1)).Nodup
def KvAt (K : PySem.W.Frag) (S : Hp) (p : NestedKey × PyData) (q : NestedKey × Addr × Value) : Prop :=
  p.1 = q.1 ∧ Dp K S (.ref q.2.1) p.1.data ∧ p.1.depth ≤ 8 ∧ ∃ v, RelV v q.2.2 ∧ Dp K S v p.2
def IvAt (K : PySem.W.Frag) (S : Hp) (p : Int × PyData) (q : Key × V) : Prop := q.1 = .inl p.1 ∧ Dp K S q.2 p.2
def SvAt (K : PySem.W.Frag) (S : Hp) (p : Str × PyData) (q : Key × V) : Prop := q.1 = .inr p.1 ∧ Dp K S q.2 p.2
theorem paired_mono {α β : Type} {F G : α → β → Prop} : ∀ {l : List α} {m : List β}, (∀ a b, F a b → G a b) → Paired F l m → Paired G l m
  | _, _, _, .nil => .nil
  | _, _, f, .cons r t => .cons (f _ _ r) (paired_mono f t)
/-- what the slot's kind says of its value: S holds what never changes -/
def SlOk (P : Program) (w : World) (K : PySem.W.Frag) (ta : Addr) (S H : Hp) : Sl → V → Prop
  | .no, _ => True
  | .d x, v => Dp K S v x
  | .l xs, v => ∃ a vs, v = .ref a ∧ S a = none ∧ H a = some (.lst vs) ∧ DpAll K S vs xs
  | .k kvs, v => ∃ a E, v = .ref a ∧ S a = none ∧ H a = some (DcO P w a E) ∧ (a == sysModules) = false ∧ Paired (KvAt K S) kvs E
  | .i kvs, v => ∃ a vs, v = .ref a ∧ S a = none ∧ H a = some (.dK vs) ∧ Paired (IvAt K S) kvs vs
  | .s kvs, v => ∃ a vs, v = .ref a ∧ S a = none ∧ H a = some (.dK vs) ∧ Paired (SvAt K S) kvs vs
  | .t, v => v = .ref ta
/-- the own object's address -/
def ownA : Sl × V → Option Addr
  | (.l _, .ref a) => some a
  | (.k _, .ref a) => some a
  | (.i _, .ref a) => some a
  | (.s _, .ref a) => some a
  | _ => none
abbrev Ent := Sl × V
def owns (L : List Ent) : List Addr := L.filterMap ownA
/-- all that is known: S is immutable and part of H; the entries' values are as their kinds say; own objects lie apart; the draws' list at ta -/
structure Sat (P : Program) (w : World) (K : PySem.W.Frag) (ta : Addr) (q : Option Nat) (S H : Hp) (L : List Ent) : Prop where
  ex : Same S H
  ok : ∀ p ∈ L, SlOk P w K ta S H p.1 p.2
  nd : (owns L).Nodup
  tin : ∀ n, q = some n → ∃ g s k : Int, H ta = some (.lst [.int g, .int s, .int k]) ∧ S ta = none ∧ ta ∉ owns L ∧ 0 ≤ g ∧ 0 ≤ s ∧ s < 4611686018427387904 ∧ 0 ≤ k ∧ k ≤ (n : Int)

/-- some of the entries, in any order -/
def Sub (L' L : List Ent) : Prop := ∃ M, L'.Perm M ∧ M.Sublist L
theorem Sub.refl (L : List Ent) : Sub L L := ⟨L, .refl _, .refl _⟩
theorem Sub.perm {L' L : List Ent} (h : L'.Perm L) : Sub L' L := ⟨L, h, .refl _⟩
theorem Sub.of {L' L : List Ent} (h : L'.Sublist L) : Sub L' L := ⟨L', .refl _, h⟩
theorem sublist_perm {α : Type} : ∀ {L M N : List α}, L.Sublist M → M.Perm N → ∃ L', L.Perm L' ∧ L'.Sublist N := by
  intro L M N h p
  induction p generalizing L with
  | nil =>
    cases h
    exact ⟨[], .refl _, .refl _⟩
  | @cons x l1 l2 _ ih =>
    cases h with
    | cons _ h =>
      obtain ⟨L', a, b⟩ := ih h
      exact ⟨L', a, .cons _ b⟩
    | cons_cons _ h =>
      obtain ⟨L', a, b⟩ := ih h
      exact ⟨x :: L', .cons x a, .cons_cons _ b⟩
  | @swap x y l =>
    cases h with
    | cons _ h =>
      cases h with
      | cons _ h => exact ⟨_, .refl _, .cons _ (.cons _ h)⟩
      | cons_cons _ h => exact ⟨_, .refl _, .cons_cons _ (.cons _ h)⟩
    | cons_cons _ h =>
      cases h with
      | cons _ h => exact ⟨_, .refl _, .cons _ (.cons_cons _ h)⟩
      | cons_cons _ h => exact ⟨_, .swap _ _ _, .cons_cons _ (.cons_cons _ h)⟩
  | trans _ _ ih1 ih2 =>
    obtain ⟨L1, a1, b1⟩ := ih1 h
    obtain ⟨L2, a2, b2⟩ := ih2 b1
    exact ⟨L2, a1.trans a2, b2⟩
theorem Sub.trans {A B C : List Ent} (h : Sub A B) (g : Sub B C) : Sub A C := by
  obtain ⟨M, p, s⟩ := h
  obtain ⟨N, p2, s2⟩ := g
  obtain ⟨L', a, b⟩ := sublist_perm s p2
  exact ⟨L', p.trans a, b.trans s2⟩
theorem Sub.mem {A B : List Ent} (h : Sub A B) {p : Ent} (hp : p ∈ A) : p ∈ B := by
  obtain ⟨M, q, s⟩ := h
  exact s.subset (q.mem_iff.mp hp)
theorem Sub.cons {A B : List Ent} (h : Sub A B) (p : Ent) : Sub (p :: A) (p :: B) := by
  obtain ⟨M, q, s⟩ := h
  exact ⟨p :: M, .cons p q, .cons_cons _ s⟩
theorem Sub.app {A B : List Ent} (h : Sub A B) (C : List Ent) : Sub (A ++ C) (B ++ C) := by
  obtain ⟨M, q, s⟩ := h
  exact ⟨M ++ C, q.append_right C, s.append_right C⟩
theorem Sub.tail {A : List Ent} (p : Ent) : Sub A (p :: A) := .of (.cons _ (.refl _))
section
variable {P : Program} {w : World} {K : PySem.W.Frag} {ta : Addr} {q : Option Nat} {S H S' H' : Hp} {L M : List Ent}
theorem Sat.sub (h : Sat P w K ta q S H L) (s : Sub M L) : Sat P w K ta q S H M := by
  have ho : ∀ a, a ∈ owns M → a ∈ owns L := fun a ha => by
    obtain ⟨p, hp, e⟩ := List.mem_filterMap.mp ha
    exact List.mem_filterMap.mpr ⟨p, s.mem hp, e⟩
  refine ⟨h.ex, fun p hp => h.ok p (s.mem hp), ?_, fun n e => ?_⟩
  · obtain ⟨N, p, sl⟩ := s
    exact ((p.filterMap ownA).nodup_iff).mpr (h.nd.sublist (sl.filterMap ownA))
  · obtain ⟨g, s1, k, a, b, c, d⟩ := h.tin n e
    exact ⟨g, s1, k, a, b, fun z => c (ho _ z), d⟩
theorem Sat.perm (h : Sat P w K ta q S H L) (p : M.Perm L) : Sat P w K ta q S H M := h.sub (.perm p)
theorem own_of {k : Sl} {v : V} (h : SlOk P w K ta S H k v) {a : Addr} (e : ownA (k, v) = some a) : v = .ref a ∧ S a = none ∧ ∃ o, H a = some o := by
  cases k with
  | no => cases v <;> cases e
  | d x => cases v <;> cases e
  | t => cases v <;> cases e
  | l xs =>
    obtain ⟨b, vs, rfl, h1, h2, _⟩ := h
    cases e
    exact ⟨rfl, h1, _, h2⟩
  | k kvs =>
    obtain ⟨b, vs, rfl, h1, h2, _⟩ := h
    cases e
    exact ⟨rfl, h1, _, h2⟩
  | i kvs =>
    obtain ⟨b, vs, rfl, h1, h2, _⟩ := h
    cases e
    exact ⟨rfl, h1, _, h2⟩
  | s kvs =>
    obtain ⟨b, vs, rfl, h1, h2, _⟩ := h
    cases e
    exact ⟨rfl, h1, _, h2⟩
theorem Sat.own (h : Sat P w K ta q S H L) {a : Addr} (ha : a ∈ owns L) : S a = none ∧ ∃ o, H a = some o := by
  obtain ⟨p, hp, e⟩ := List.mem_filterMap.mp ha
  obtain ⟨_, h1, h2⟩ := own_of (h.ok p hp) e
  exact ⟨h1, h2⟩
/-- the heap of what never changes grows, the own objects stay -/
theorem slOk_grow {k : Sl} {v : V} (h : SlOk P w K ta S H k v) (e : Same S S') (eo : ∀ a, ownA (k, v) = some a → S' a = none ∧ H' a = H a) : SlOk P w K ta S' H' k v := by
  cases k with
  | no => trivial
  | d x => exact dp_mono e x v h
  | t => exact h
  | l xs =>
    obtain ⟨b, vs, rfl, h1, h2, h3⟩ := h
    obtain ⟨z1, z2⟩ := eo b rfl
    exact ⟨b, vs, rfl, z1, z2.trans h2, dps_mono e _ _ h3⟩
  | k kvs =>
    obtain ⟨b, vs, rfl, h1, h2, h3, h4⟩ := h
    obtain ⟨z1, z2⟩ := eo b rfl
    exact ⟨b, vs, rfl, z1, z2.trans h2, h3, paired_mono (fun p q z => ⟨z.1, dp_mono e _ _ z.2.1, z.2.2.1, let ⟨v, r, dv⟩ := z.2.2.2; ⟨v, r, dp_mono e _ _ dv⟩⟩) h4⟩
  | i kvs =>
    obtain ⟨b, vs, rfl, h1, h2, h3⟩ := h
    obtain ⟨z1, z2⟩ := eo b rfl
    exact ⟨b, vs, rfl, z1, z2.trans h2, paired_mono (fun p q z => ⟨z.1, dp_mono e _ _ z.2⟩) h3⟩
  | s kvs =>
    obtain ⟨b, vs, rfl, h1, h2, h3⟩ := h
    obtain ⟨z1, z2⟩ := eo b rfl
    exact ⟨b, vs, rfl, z1, z2.trans h2, paired_mono (fun p q z => ⟨z.1, dp_mono e _ _ z.2⟩) h3⟩
/-- S and H grow by new addresses -/
theorem Sat.grow (h : Sat P w K ta q S H L) (e : Same S S') (e' : Same S' H') (eh : Same H H') (fr : ∀ a o, H a = some o → S a = none → S' a = none) : Sat P w K ta q S' H' L := by
  refine ⟨e', fun p hp => slOk_grow (h.ok p hp) e fun a ea => ?_, h.nd, fun n en => ?_⟩
  · obtain ⟨_, h1, o, h2⟩ := own_of (h.ok p hp) ea
    exact ⟨fr a o h2 h1, (eh a o h2).trans h2.symm⟩
  · obtain ⟨g, s, k, a, b, c, d⟩ := h.tin n en
    exact ⟨g, s, k, eh _ _ a, fr _ _ a b, c, d⟩
theorem same_new {o : HO} {p : Addr} (hp : H p = none) : Same H (upd H p o) := fun b u e => by
  rw [upd_ne (ne_of_none e hp)]
  exact e
theorem same_free {p : Addr} (e : Same S H) (hp : H p = none) : S p = none := e.free hp
/-- a new object that never changes -/
theorem Sat.fresh {o : HO} {p : Addr} (h : Sat P w K ta q S H L) (hp : H p = none) : Sat P w K ta q (upd S p o) (upd H p o) L := by
  have hs := h.ex.free hp
  refine h.grow (same_new hs) (fun b u e => ?_) (same_new hp) fun a u ha hn => ?_
  · by_cases hb : b = p
    · subst hb
      rw [upd_same] at e ⊢
      exact e
    · rw [upd_ne hb] at e ⊢
      exact h.ex b u e
  · rw [upd_ne (ne_of_none ha hp)]
    exact hn
theorem Sat.push {v : V} {x : PyData} (h : Sat P w K ta q S H L) (hd : Dp K S v x) : Sat P w K ta q S H ((.d x, v) :: L) := by
  have e : owns ((Sl.d x, v) :: L) = owns L := by cases v <;> rfl
  refine ⟨h.ex, fun p hp => ?_, by rw [e]; exact h.nd, fun n en => ?_⟩
  · rcases List.mem_cons.mp hp with rfl | hp
    · exact hd
    · exact h.ok p hp
  · obtain ⟨g, s, k, a, b, c, d⟩ := h.tin n en
    exact ⟨g, s, k, a, b, by rw [e]; exact c, d⟩
theorem Sat.pushT (h : Sat P w K ta q S H L) : Sat P w K ta q S H ((.t, .ref ta) :: L) := by
  have e : owns ((Sl.t, V.ref ta) :: L) = owns L := rfl
  refine ⟨h.ex, fun p hp => ?_, by rw [e]; exact h.nd, fun n en => ?_⟩
  · rcases List.mem_cons.mp hp with rfl | hp
    · rfl
    · exact h.ok p hp
  · obtain ⟨g, s, k, a, b, c, d⟩ := h.tin n en
    exact ⟨g, s, k, a, b, by rw [e]; exact c, d⟩
theorem Sat.pop {p : Ent} (h : Sat P w K ta q S H (p :: L)) : Sat P w K ta q S H L := h.sub (.tail p)
/-- a new tuple, a new list, immutable from now on -/
theorem Sat.tup {p : Addr} {vs : List V} {xs : List PyData} (h : Sat P w K ta q S H L) (hp : H p = none) (hd : DpAll K S vs xs) : Sat P w K ta q (upd S p (.tup vs)) (upd H p (.tup vs)) ((.d (.tuple xs), .ref p) :: L) :=
  (h.fresh hp).push (.tup (.of upd_same) (dps_mono (same_new (h.ex.free hp)) _ _ hd))
theorem Sat.lst {p : Addr} {vs : List V} {xs : List PyData} (h : Sat P w K ta q S H L) (hp : H p = none) (hd : DpAll K S vs xs) : Sat P w K ta q (upd S p (.lst vs)) (upd H p (.lst vs)) ((.d (.list xs), .ref p) :: L) :=
  (h.fresh hp).push (.lst (.of upd_same) (dps_mono (same_new (h.ex.free hp)) _ _ hd))
/-- a new own object -/
theorem Sat.mine {p : Addr} {o : HO} {k : Sl} (h : Sat P w K ta q S H L) (hp : H p = none) (hk : ownA (k, .ref p) = some p) (ok : SlOk P w K ta S (upd H p o) k (.ref p)) : Sat P w K ta q S (upd H p o) ((k, .ref p) :: L) := by
  have e : owns ((k, V.ref p) :: L) = p :: owns L := by
    unfold owns
    rw [List.filterMap_cons, hk]
  have no : p ∉ owns L := fun z => by
    obtain ⟨_, o', h2⟩ := h.own z
    rw [hp] at h2
    cases h2
  refine ⟨h.ex.trans (same_new hp), fun r hr => ?_, by rw [e]; exact List.nodup_cons.mpr ⟨no, h.nd⟩, fun n en => ?_⟩
  · rcases List.mem_cons.mp hr with rfl | hr
    · exact ok
    · refine slOk_grow (h.ok r hr) (Same.refl S) fun a ea => ?_
      obtain ⟨_, h1, u, h2⟩ := own_of (h.ok r hr) ea
      exact ⟨h1, upd_ne (ne_of_none h2 hp)⟩
  · obtain ⟨g, s, kk, a, b, c, d⟩ := h.tin n en
    refine ⟨g, s, kk, (upd_ne (ne_of_none a hp)).trans a, b, ?_, d⟩
    rw [e]
    intro z
    rcases List.mem_cons.mp z with z | z
    · exact ne_of_none a hp z
    · exact c z
/-- an own object is changed -/
theorem Sat.mut {a : Addr} {k k' : Sl} {o : HO} (h : Sat P w K ta q S H ((k, .ref a) :: L)) (hk : ownA (k, .ref a) = some a) (hk' : ownA (k', .ref a) = some a) (ok : SlOk P w K ta S (upd H a o) k' (.ref a)) : Sat P w K ta q S (upd H a o) ((k', .ref a) :: L) := by
  have e : owns ((k, V.ref a) :: L) = a :: owns L := by
    unfold owns
    rw [List.filterMap_cons, hk]
  have e' : owns ((k', V.ref a) :: L) = a :: owns L := by
    unfold owns
    rw [List.filterMap_cons, hk']
  have nd := h.nd
  rw [e] at nd
  obtain ⟨no, nd⟩ := List.nodup_cons.mp nd
  obtain ⟨_, hs, _⟩ := own_of (h.ok _ List.mem_cons_self) hk
  refine ⟨fun b u eb => ?_, fun r hr => ?_, by rw [e']; exact List.nodup_cons.mpr ⟨no, nd⟩, fun n en => ?_⟩
  · rw [upd_ne (ne_of_none eb hs)]
    exact h.ex b u eb
  · rcases List.mem_cons.mp hr with rfl | hr
    · exact ok
    · refine slOk_grow (h.ok r (List.mem_cons_of_mem _ hr)) (Same.refl S) fun b eb => ?_
      obtain ⟨_, h1, u, h2⟩ := own_of (h.ok r (List.mem_cons_of_mem _ hr)) eb
      refine ⟨h1, upd_ne fun z => no ?_⟩
      rw [← z]
      exact List.mem_filterMap.mpr ⟨r, hr, eb⟩
  · obtain ⟨g, s, kk, x, y, z, d⟩ := h.tin n en
    rw [e] at z
    refine ⟨g, s, kk, (upd_ne fun c => z (by rw [c]; exact List.mem_cons_self)).trans x, y, by rw [e']; exact z, d⟩
/-- an own list becomes data -/
theorem Sat.freeze {a : Addr} {xs : List PyData} (h : Sat P w K ta q S H ((.l xs, .ref a) :: L)) : ∃ S', Sat P w K ta q S' H ((.d (.list xs), .ref a) :: L) := by
  obtain ⟨b, vs, e1, h1, h2, h3⟩ : SlOk P w K ta S H (.l xs) (.ref a) := h.ok (.l xs, .ref a) List.mem_cons_self
  cases e1
  have nd : (a :: owns L).Nodup := h.nd
  obtain ⟨no, _⟩ := List.nodup_cons.mp nd
  have g : Sat P w K ta q (upd S a (.lst vs)) H L := by
    refine ⟨fun b u e => ?_, fun p hp => slOk_grow (h.ok p (List.mem_cons_of_mem _ hp)) (same_new h1) fun b eb => ?_, h.nd.sublist (List.sublist_cons_self _ _), fun n en => ?_⟩
    · by_cases hb : b = a
      · subst hb
        rw [upd_same] at e
        rw [h2]
        exact e
      · rw [upd_ne hb] at e
        exact h.ex b u e
    · obtain ⟨_, z1, _⟩ := own_of (h.ok p (List.mem_cons_of_mem _ hp)) eb
      refine ⟨?_, rfl⟩
      rw [upd_ne fun z => no ?_]
      · exact z1
      · rw [← z]
        exact List.mem_filterMap.mpr ⟨p, hp, eb⟩
    · obtain ⟨g, s, kk, x, y, z, d⟩ := h.tin n en
      have z' : ta ∉ a :: owns L := z
      refine ⟨g, s, kk, x, ?_, fun c => z' (List.mem_cons_of_mem _ c), d⟩
      rw [upd_ne fun c => z' (by rw [c]; exact List.mem_cons_self)]
      exact y
  exact ⟨_, g.push (.lst (.of upd_same) (dps_mono (same_new h1) _ _ h3))⟩
end

/-! ### the slots' entries -/
inductive SlotsE : List Sl → L2.St → List Ent → Prop
  | nil : SlotsE [] [] []
  | skip {G : List Sl} {σ : L2.St} {L : List Ent} (o : Option V) : SlotsE G σ L → SlotsE (.no :: G) (o :: σ) L
  | cons {G : List Sl} {σ : L2.St} {L : List Ent} (k : Sl) (v : V) : SlotsE G σ L → SlotsE (k :: G) (some v :: σ) ((k, v) :: L)
theorem SlotsE.len {G : List Sl} {σ : L2.St} {L : List Ent} (h : SlotsE G σ L) : G.length = σ.length := by
  induction h with
  | nil => rfl
  | skip o _ ih => simp [ih]
  | cons k v _ ih => simp [ih]
/-- a slot that is known -/
theorem SlotsE.get {G : List Sl} {σ : L2.St} {L : List Ent} (h : SlotsE G σ L) : ∀ {i : Nat} {k : Sl}, G[i]? = some k → k ≠ .no →
    ∃ v L1 L2, σ[i]? = some (some v) ∧ L = L1 ++ (k, v) :: L2 ∧ ∀ k', SlotsE (G.set i k') σ (L1 ++ (k', v) :: L2) := by
  induction h with
  | nil => intro i k e _; simp at e
  | @skip G σ L o h ih =>
    intro i k e hk
    cases i with
    | zero => simp at e; exact absurd e.symm hk
    | succ i =>
      obtain ⟨v, L1, L2, a, b, c⟩ := ih (i := i) (by simpa using e) hk
      exact ⟨v, L1, L2, by simpa using a, b, fun k' => .skip o (c k')⟩
  | @cons G σ L k0 v0 h ih =>
    intro i k e hk
    cases i with
    | zero =>
      have e1 : k0 = k := by simpa using e
      subst e1
      exact ⟨v0, [], L, rfl, rfl, fun k' => .cons k' v0 h⟩
    | succ i =>
      obtain ⟨v, L1, L2, a, b, c⟩ := ih (i := i) (by simpa using e) hk
      exact ⟨v, (k0, v0) :: L1, L2, by simpa using a, by rw [b]; rfl, fun k' => .cons k0 v0 (c k')⟩
/-- a slot is stored anew -/
theorem SlotsE.set {G : List Sl} {σ : L2.St} {L : List Ent} (h : SlotsE G σ L) (k' : Sl) (v' : V) : ∀ {i : Nat}, i < G.length →
    ∃ L1 L2, SlotsE (G.set i k') (σ.set i (some v')) (L1 ++ (k', v') :: L2) ∧ (L1 ++ L2).Sublist L := by
  induction h with
  | nil => intro i hi; exact absurd hi (Nat.not_lt_zero _)
  | @skip G σ L o h ih =>
    intro i hi
    cases i with
    | zero => exact ⟨[], L, .cons k' v' h, .refl _⟩
    | succ i =>
      obtain ⟨L1, L2, a, b⟩ := ih (i := i) (by simpa using hi)
      exact ⟨L1, L2, .skip o a, b⟩
  | @cons G σ L k0 v0 h ih =>
    intro i hi
    cases i with
    | zero => exact ⟨[], L, .cons k' v' h, .cons _ (.refl _)⟩
    | succ i =>
      obtain ⟨L1, L2, a, b⟩ := ih (i := i) (by simpa using hi)
      exact ⟨(k0, v0) :: L1, L2, .cons k0 v0 a, .cons_cons _ b⟩
/-- a slot is forgotten -/
theorem SlotsE.drop {G : List Sl} {σ : L2.St} {L : List Ent} (h : SlotsE G σ L) (o' : Option V) : ∀ (i : Nat), ∃ L', SlotsE (G.set i .no) (σ.set i o') L' ∧ L'.Sublist L := by
  induction h with
  | nil => intro i; exact ⟨[], .nil, .refl _⟩
  | @skip G σ L o h ih =>
    intro i
    cases i with
    | zero => exact ⟨L, .skip o' h, .refl _⟩
    | succ i =>
      obtain ⟨L', a, b⟩ := ih i
      exact ⟨L', .skip o a, b⟩
  | @cons G σ L k0 v0 h ih =>
    intro i
    cases i with
    | zero => exact ⟨L, .skip o' h, .cons _ (.refl _)⟩
    | succ i =>
      obtain ⟨L', a, b⟩ := ih i
      exact ⟨(k0, v0) :: L', .cons k0 v0 a, .cons_cons _ b⟩
/-- .. with its value left -/
theorem SlotsE.forget {G : List Sl} {σ : L2.St} {L : List Ent} (h : SlotsE G σ L) : ∀ (i : Nat), ∃ L', SlotsE (G.set i .no) σ L' ∧ L'.Sublist L := by
  induction h with
  | nil => intro i; exact ⟨[], .nil, .refl _⟩
  | @skip G σ L o h ih =>
    intro i
    cases i with
    | zero => exact ⟨L, .skip o h, .refl _⟩
    | succ i =>
      obtain ⟨L', a, b⟩ := ih i
      exact ⟨L', .skip o a, b⟩
  | @cons G σ L k0 v0 h ih =>
    intro i
    cases i with
    | zero => exact ⟨L, .skip (some v0) h, .cons _ (.refl _)⟩
    | succ i =>
      obtain ⟨L', a, b⟩ := ih i
      exact ⟨(k0, v0) :: L', .cons k0 v0 a, .cons_cons _ b⟩
def wipeG (G : List Sl) : List Nat → List Sl
  | [] => G
  | v :: vs => (wipeG G vs).set v .no
theorem SlotsE.wipe {G : List Sl} {σ : L2.St} {L : List Ent} (h : SlotsE G σ L) : ∀ vs : List Nat, ∃ L', SlotsE (wipeG G vs) (L2.wipe σ vs) L' ∧ L'.Sublist L
  | [] => ⟨L, h, .refl _⟩
  | v :: vs => by
    obtain ⟨L', a, b⟩ := h.wipe vs
    obtain ⟨L'', c, d⟩ := a.drop none v
    exact ⟨L'', c, d.trans b⟩
/-- what is known of wiped slots is known of the slots -/
theorem SlotsE.unwipe {G : List Sl} {σ : L2.St} {L : List Ent} (h : SlotsE G σ L) : ∀ {τ : L2.St}, τ.length = σ.length → (∀ (i : Nat) v, σ[i]? = some (some v) → τ[i]? = some (some v)) → SlotsE G τ L := by
  induction h with
  | nil =>
    intro τ hl _
    cases τ with
    | nil => exact .nil
    | cons a b => simp at hl
  | @skip G σ L o h ih =>
    intro τ hl hv
    cases τ with
    | nil => simp at hl
    | cons a b => exact .skip a (ih (by simpa using hl) fun i v e => by simpa using hv (i + 1) v (by simpa using e))
  | @cons G σ L k0 v0 h ih =>
    intro τ hl hv
    cases τ with
    | nil => simp at hl
    | cons a b =>
      have e0 : a = some v0 := by simpa using hv 0 v0 rfl
      subst e0
      exact .cons k0 v0 (ih (by simpa using hl) fun i v e => by simpa using hv (i + 1) v (by simpa using e))
theorem SlotsE.params : ∀ {ks : List Sl} {vs : List V} (n : Nat), ks.length = vs.length → SlotsE (ks ++ List.replicate n .no) (vs.map some ++ List.replicate n none) (ks.zip vs)
  | [], [], n, _ => by
    induction n with
    | zero => exact .nil
    | succ n ih => exact .skip none ih
  | k :: ks, v :: vs, n, h => .cons k v (SlotsE.params n (by simpa using h))
  | [], _ :: _, _, h => by simp at h
  | _ :: _, [], _, h => by simp at h
end Ph

set_option Elab.async false
set_option linter.all false
set_option maxRecDepth 100000
set_option maxHeartbeats 4000000
namespace Ph
open PySem L2

abbrev Nn := Option Nat
abbrev ATE := List Sl → Nn → (Sl → List Sl → Nn → Prop) → Prop
abbrev ATT := List Sl → Nn → (Bool → List Sl → Nn → Prop) → Prop
abbrev ATA := List Sl → Nn → (List Sl → List Sl → Nn → Prop) → Prop
structure ADs where
  nx : List Sl → Nn → Prop
  rt : Sl → Nn → Prop
abbrev ATS := ADs → List Sl → Nn → Prop

/-! ### HandS's judgements with the weakest readings -/
def teOf (X : Cx) (e : Expr) : TE := fun σ H Q => ∀ pins s, Inv X pins σ H s → wpAny (model X.prog X.w) X.A (eval e X.env) (EP X pins σ Q) X.xe s
theorem pe_self {X : Cx} {e : Expr} : PE X e (teOf X e) := ⟨fun pins s _ _ _ I h => h pins s I⟩
theorem pe_to {X : Cx} {e : Expr} {t : TE} {σ : L2.St} {H : Hp} {Q : VK} (h : PE X e t) (x : t σ H Q) : teOf X e σ H Q := fun pins s I => h.run pins s σ H Q I x
def ttOf (X : Cx) (e : Expr) : TT := fun σ H Q => ∀ pins s, Inv X pins σ H s → wpAny (model X.prog X.w) X.A (isTrue e X.env (eval e X.env)) (TP X pins σ Q) X.xe s
theorem pt_self {X : Cx} {e : Expr} : PT X e (ttOf X e) := ⟨fun pins s _ _ _ I h => h pins s I⟩
theorem pt_to {X : Cx} {e : Expr} {t : TT} {σ : L2.St} {H : Hp} {Q : Bool → Hp → Prop} (h : PT X e t) (x : t σ H Q) : ttOf X e σ H Q := fun pins s I => h.run pins s σ H Q I x
def twOf (X : Cx) (e : Expr) : TT := fun σ H Q => ∀ whole pins s, Inv X pins σ H s → wpAny (model X.prog X.w) X.A (isTrue e X.env whole) (TP X pins σ Q) X.xe s
theorem pw_self {X : Cx} {e : Expr} : PW X e (twOf X e) := ⟨fun whole pins s _ _ _ I h => h whole pins s I⟩
theorem pw_to {X : Cx} {e : Expr} {t : TT} {σ : L2.St} {H : Hp} {Q : Bool → Hp → Prop} (h : PW X e t) (x : t σ H Q) : twOf X e σ H Q := fun whole pins s I => h.run whole pins s σ H Q I x
def taOf (X : Cx) (es : List Expr) : TA := fun σ H Q => ∀ pos pins s, Inv X pins σ H s → wpAny (model X.prog X.w) X.A (spliced (backTo pos (starEach es X.env))) (AP X pins σ Q) X.xe s
theorem pa_self {X : Cx} {es : List Expr} : PA X es (taOf X es) := ⟨fun pos pins s _ _ _ I h => h pos pins s I⟩
theorem pa_to {X : Cx} {es : List Expr} {t : TA} {σ : L2.St} {H : Hp} {Q : List V → Hp → Prop} (h : PA X es t) (x : t σ H Q) : taOf X es σ H Q := fun pos pins s I => h.run pos pins s σ H Q I x

/-! ### the judgements over what is known -/
def Lk (X : Cx) (ta : Addr) (σ : L2.St) (st : List Ent) (Q : Sl → List Sl → Nn → Prop) (Q' : VK) : Prop :=
  ∀ r G q v S H L, Q r G q → SlotsE G σ L → Sat X.prog X.w X.K ta q S H ((r, v) :: (L ++ st)) → Q' v H
def LkT (X : Cx) (ta : Addr) (σ : L2.St) (st : List Ent) (Q : Bool → List Sl → Nn → Prop) (Q' : Bool → Hp → Prop) : Prop :=
  ∀ b G q S H L, Q b G q → SlotsE G σ L → Sat X.prog X.w X.K ta q S H (L ++ st) → Q' b H
def LkA (X : Cx) (ta : Addr) (σ : L2.St) (st : List Ent) (Q : List Sl → List Sl → Nn → Prop) (Q' : List V → Hp → Prop) : Prop :=
  ∀ rs G q vs S H L, Q rs G q → rs.length = vs.length → SlotsE G σ L → Sat X.prog X.w X.K ta q S H (rs.zip vs ++ (L ++ st)) → Q' vs H
structure AE (X : Cx) (e : Expr) (t : ATE) : Prop where
  run : ∀ {ta : Addr} {q : Nn} {S H : Hp} {σ : L2.St} {G : List Sl} {L st : List Ent} {Q : Sl → List Sl → Nn → Prop} {Q' : VK},
    SlotsE G σ L → Sat X.prog X.w X.K ta q S H (L ++ st) → t G q Q → Lk X ta σ st Q Q' → teOf X e σ H Q'
structure AT (X : Cx) (e : Expr) (t : ATT) : Prop where
  run : ∀ {ta : Addr} {q : Nn} {S H : Hp} {σ : L2.St} {G : List Sl} {L st : List Ent} {Q : Bool → List Sl → Nn → Prop} {Q' : Bool → Hp → Prop},
    SlotsE G σ L → Sat X.prog X.w X.K ta q S H (L ++ st) → t G q Q → LkT X ta σ st Q Q' → ttOf X e σ H Q'
structure AW (X : Cx) (e : Expr) (t : ATT) : Prop where
  run : ∀ {ta : Addr} {q : Nn} {S H : Hp} {σ : L2.St} {G : List Sl} {L st : List Ent} {Q : Bool → List Sl → Nn → Prop} {Q' : Bool → Hp → Prop},
    SlotsE G σ L → Sat X.prog X.w X.K ta q S H (L ++ st) → t G q Q → LkT X ta σ st Q Q' → twOf X e σ H Q'
structure AA (X : Cx) (es : List Expr) (t : ATA) : Prop where
  run : ∀ {ta : Addr} {q : Nn} {S H : Hp} {σ : L2.St} {G : List Sl} {L st : List Ent} {Q : List Sl → List Sl → Nn → Prop} {Q' : List V → Hp → Prop},
    SlotsE G σ L → Sat X.prog X.w X.K ta q S H (L ++ st) → t G q Q → LkA X ta σ st Q Q' → taOf X es σ H Q'
theorem mid_in {α : Type} (L st : List α) (p : α) : (L ++ p :: st).Perm (p :: (L ++ st)) := List.perm_middle
theorem mid_out {α : Type} (L st : List α) (p : α) : (p :: (L ++ st)).Perm (L ++ p :: st) := List.perm_middle.symm

section
variable {X : Cx} {e a b : Expr} {t ta' tb' : ATE} {pos : Pos}

/-! ### names and constants -/
def dup : Sl → Bool
  | .d _ => true
  | .t => true
  | _ => false
def aVar (i : Nat) : ATE := fun G q Q => ∃ k, G[i]? = some k ∧ dup k = true ∧ Q k G q
theorem ae_var (i : Nat) {x : Str} (hN : X.N[i]? = some x := by rfl) (hv : Vis X.env.scope x := by first | exact Or.inl rfl | exact Or.inr (Or.inl rfl) | exact Or.inr (Or.inr rfl))
    (hd : (x == ("__debug__" : Str)) = false := by decide) (hcd : (x == ("__classdict__" : Str)) = false := by decide) : AE X (.Name x pos) (aVar i) := by
  refine ⟨fun {tA q S H σ G L st Q Q'} hL hS h lk => pe_to (pe_var hN hv hd hcd) ?_⟩
  obtain ⟨k, hk, hd, h⟩ := h
  have hne : k ≠ .no := fun z => by subst z; cases hd
  obtain ⟨v, L1, L2, e1, e2, _⟩ := hL.get hk hne
  have ok := hS.ok (k, v) (List.mem_append_left _ (by rw [e2]; exact List.mem_append_right _ List.mem_cons_self))
  refine ⟨v, e1, ?_⟩
  cases k with
  | d x => exact lk _ _ _ v S H L h hL (hS.push ok)
  | t =>
    obtain rfl : v = .ref tA := ok
    exact lk _ _ _ _ S H L h hL hS.pushT
  | _ => cases hd
/-- an own list leaves its slot -/
def aVarM (i : Nat) : ATE := fun G q Q => ∃ xs, G[i]? = some (.l xs) ∧ Q (.l xs) (G.set i .no) q
theorem ae_varM (i : Nat) {x : Str} (hN : X.N[i]? = some x := by rfl) (hv : Vis X.env.scope x := by first | exact Or.inl rfl | exact Or.inr (Or.inl rfl) | exact Or.inr (Or.inr rfl))
    (hd : (x == ("__debug__" : Str)) = false := by decide) (hcd : (x == ("__classdict__" : Str)) = false := by decide) : AE X (.Name x pos) (aVarM i) := by
  refine ⟨fun {tA q S H σ G L st Q Q'} hL hS h lk => pe_to (pe_var hN hv hd hcd) ?_⟩
  obtain ⟨xs, hk, h⟩ := h
  obtain ⟨v, L1, L2, e1, e2, up⟩ := hL.get hk (fun z => by cases z)
  refine ⟨v, e1, ?_⟩
  refine lk _ _ _ v S H (L1 ++ (.no, v) :: L2) h (up .no) ?_
  have e : (Sl.l xs, v) :: (L1 ++ (Sl.no, v) :: L2 ++ st) = (Sl.l xs, v) :: (L1 ++ (Sl.no, v) :: (L2 ++ st)) := by simp
  have e' : L ++ st = L1 ++ (Sl.l xs, v) :: (L2 ++ st) := by rw [e2]; simp
  rw [e]
  rw [e'] at hS
  have hS1 := hS.perm (mid_out L1 (L2 ++ st) (Sl.l xs, v))
  have p1 : ((Sl.l xs, v) :: (L1 ++ (Sl.no, v) :: (L2 ++ st))).Perm ((Sl.no, v) :: (Sl.l xs, v) :: (L1 ++ (L2 ++ st))) :=
    (List.Perm.cons _ (mid_in L1 (L2 ++ st) (Sl.no, v))).trans (.swap _ _ _)
  refine Sat.perm ?_ p1
  have eo : owns ((Sl.no, v) :: (Sl.l xs, v) :: (L1 ++ (L2 ++ st))) = owns ((Sl.l xs, v) :: (L1 ++ (L2 ++ st))) := by cases v <;> rfl
  refine ⟨hS1.ex, fun p hp => ?_, by rw [eo]; exact hS1.nd, fun n en => ?_⟩
  · rcases List.mem_cons.mp hp with rfl | hp
    · trivial
    · exact hS1.ok p hp
  · obtain ⟨g, s, kk, a1, a2, a3, a4⟩ := hS1.tin n en
    exact ⟨g, s, kk, a1, a2, by rw [eo]; exact a3, a4⟩
def aC (d : PyData) : ATE := fun G q Q => Q (.d d) G q
theorem ae_int {i : Int} {j : Nat} : AE X (.Constant (.int i) j pos) (aC (.int i)) := ⟨fun hL hS h lk => pe_to pe_int (lk _ _ _ _ _ _ _ h hL (hS.push (.int i)))⟩
theorem ae_bl {i : Bool} {j : Nat} : AE X (.Constant (.bool i) j pos) (aC (.bool i)) := ⟨fun hL hS h lk => pe_to pe_bl (lk _ _ _ _ _ _ _ h hL (hS.push (.bl i)))⟩
theorem ae_str {i : Str} {j : Nat} : AE X (.Constant (.str i) j pos) (aC (.str i)) := ⟨fun hL hS h lk => pe_to pe_str (lk _ _ _ _ _ _ _ h hL (hS.push (.str i)))⟩
theorem ae_non {j : Nat} : AE X (.Constant .none j pos) (aC .none) := ⟨fun hL hS h lk => pe_to pe_non (lk _ _ _ _ _ _ _ h hL (hS.push .non))⟩

/-! ### an own list handed on as data -/
def frz : Sl → Sl
  | .l xs => .d (.list xs)
  | k => k
def aFz (t : ATE) : ATE := fun G q Q => t G q fun r G' q' => Q (frz r) G' q'
theorem sat_frz {P : Program} {w : World} {K : PySem.W.Frag} {ta : Addr} {q : Nn} {S H : Hp} {k : Sl} {v : V} {M : List Ent} (h : Sat P w K ta q S H ((k, v) :: M)) : ∃ S', Sat P w K ta q S' H ((frz k, v) :: M) := by
  cases k with
  | l xs =>
    obtain ⟨a, vs, e, _⟩ : SlOk P w K ta S H (.l xs) v := h.ok (.l xs, v) List.mem_cons_self
    subst e
    exact h.freeze
  | _ => exact ⟨S, h⟩
theorem ae_fz (h : AE X e t) : AE X e (aFz t) := ⟨fun hL hS q lk => h.run hL hS q fun r G q' v S H L hq hl hs => by
  obtain ⟨S', h'⟩ := sat_frz hs
  exact lk _ _ _ _ _ _ _ hq hl h'⟩

/-! ### two-place operations by values -/
abbrev B2 := Sl → Sl → (Sl → Prop) → Prop
def Op2 (P : Program) (w : World) (K : PySem.W.Frag) (r : R2) (B : B2) : Prop :=
  ∀ {ta : Addr} {q : Nn} {S H : Hp} {M : List Ent} {k1 k2 : Sl} {x y : V} {Q : Sl → Prop} {Q' : VK}, Sat P w K ta q S H ((k2, y) :: (k1, x) :: M) → B k1 k2 Q →
    (∀ k v S' H', Q k → Sat P w K ta q S' H' ((k, v) :: M) → Q' v H') → r x y H Q'
def aOp (B : B2) (t u : ATE) : ATE := fun G q Q => t G q fun k1 G1 q1 => u G1 q1 fun k2 G2 q2 => B k1 k2 fun k => Q k G2 q2
theorem op_run {r : R2} {B : B2} (hB : Op2 X.prog X.w X.K r B) (ha : AE X a ta') (hb : AE X b tb') {tA : Addr} {q : Nn} {S H : Hp} {σ : L2.St} {G : List Sl} {L st : List Ent} {Q : Sl → List Sl → Nn → Prop} {Q' : VK}
    (hL : SlotsE G σ L) (hS : Sat X.prog X.w X.K tA q S H (L ++ st)) (h : aOp B ta' tb' G q Q) (lk : Lk X tA σ st Q Q') : tOp r (teOf X a) (teOf X b) σ H Q' := by
  refine ha.run hL hS h fun r1 G1 q1 x S1 H1 L1 h1 hL1 hS1 => ?_
  refine hb.run (st := (r1, x) :: st) hL1 (hS1.perm (mid_in _ _ _)) h1 fun r2 G2 q2 y S2 H2 L2 h2 hL2 hS2 => ?_
  exact hB (hS2.perm (.cons _ (mid_out _ _ _))) h2 fun k v S' H' hq hs => lk _ _ _ _ _ _ _ hq hL2 hs
theorem ae_op {op : Operator} {r : R2} {B : B2} (ho : OpR X (binaryOp op) r) (hB : Op2 X.prog X.w X.K r B) (ha : AE X a ta') (hb : AE X b tb') : AE X (.BinOp a op b pos) (aOp B ta' tb') :=
  ⟨fun hL hS h lk => pe_to (pe_op ho pe_self pe_self) (op_run hB ha hb hL hS h lk)⟩
theorem ae_cmp {op : CmpOp} {r : R2} {B : B2} (ho : OpR X (compareOp op) r) (hB : Op2 X.prog X.w X.K r B) (ha : AE X a ta') (hb : AE X b tb') (hm : behindInMarks op b = false) : AE X (.Compare a [op] [b] pos) (aOp B ta' tb') :=
  ⟨fun hL hS h lk => pe_to (pe_cmpR ho pe_self pe_self hm) (op_run hB ha hb hL hS h lk)⟩
def aTest (t : ATE) : ATT := fun G q Q => t G q fun r G' q' => ∃ c, r = .d (.bool c) ∧ Q c G' q'
theorem at_cmp {op : CmpOp} {r : R2} {B : B2} (ho : OpR X (compareOp op) r) (hB : Op2 X.prog X.w X.K r B) (ha : AE X a ta') (hb : AE X b tb') (hm : behindInMarks op b = false) : AT X (.Compare a [op] [b] pos) (aTest (aOp B ta' tb')) :=
  ⟨fun hL hS h lk => pt_to (pt_cmpR ho pe_self pe_self hm) (op_run hB ha hb hL hS h fun r G q v S H L hq hl hs => by
    obtain ⟨c, rfl, hq⟩ := hq
    have ok : Dp X.K S v (.bool c) := hs.ok (.d (.bool c), v) List.mem_cons_self
    cases ok
    exact ⟨c, rfl, lk _ _ _ _ _ _ hq hl hs.pop⟩)⟩
theorem at_val (h : AE X e t) (he : ∀ whole, isTrue e X.env whole = (do let v ← whole; standAt e.pos; holding [v] (truthy v)) := by intro _; rfl) : AT X e (aTest t) :=
  ⟨fun hL hS q lk => pt_to (pt_val pe_self he) (h.run hL hS q fun r G q' v S H L hq hl hs => by
    obtain ⟨c, rfl, hq⟩ := hq
    have ok : Dp X.K S v (.bool c) := hs.ok (.d (.bool c), v) List.mem_cons_self
    cases ok
    exact ⟨c, rfl, lk _ _ _ _ _ _ hq hl hs.pop⟩)⟩

/-! ### and, or, not, if -/
variable {rest : List Expr} {u1 u2 : ATT} {c : Expr}
def aAnd (t u : ATE) : ATE := fun G q Q => t G q fun r G1 q1 => ∃ c, r = .d (.bool c) ∧ ((c = true → u G1 q1 Q) ∧ (c = false → Q (.d (.bool false)) G1 q1))
def aOr (t u : ATE) : ATE := fun G q Q => t G q fun r G1 q1 => ∃ c, r = .d (.bool c) ∧ ((c = false → u G1 q1 Q) ∧ (c = true → Q (.d (.bool true)) G1 q1))
def aNot (t : ATE) : ATE := fun G q Q => t G q fun r G1 q1 => ∃ c, r = .d (.bool c) ∧ Q (.d (.bool (!c))) G1 q1
theorem ae_one {op : BoolOp} (h : AE X a t) : AE X (.BoolOp op [a] pos) t := ⟨fun hL hS q lk => pe_to (pe_one pe_self) (h.run hL hS q lk)⟩
theorem ae_and (ha : AE X a ta') (hb : AE X (.BoolOp .And (b :: rest) pos) tb') : AE X (.BoolOp .And (a :: b :: rest) pos) (aAnd ta' tb') :=
  ⟨fun hL hS q lk => pe_to (pe_and pe_self pe_self) (ha.run hL hS q fun r G q' v S H L hq hl hs => by
    obtain ⟨c, rfl, h1, h2⟩ := hq
    have ok : Dp X.K S v (.bool c) := hs.ok (.d (.bool c), v) List.mem_cons_self
    cases ok
    refine ⟨c, rfl, ?_⟩
    cases c with
    | true => exact iteT (hb.run hl hs.pop (h1 rfl) lk)
    | false => exact iteF (lk _ _ _ _ _ _ _ (h2 rfl) hl hs))⟩
theorem ae_or (ha : AE X a ta') (hb : AE X (.BoolOp .Or (b :: rest) pos) tb') : AE X (.BoolOp .Or (a :: b :: rest) pos) (aOr ta' tb') :=
  ⟨fun hL hS q lk => pe_to (pe_or pe_self pe_self) (ha.run hL hS q fun r G q' v S H L hq hl hs => by
    obtain ⟨c, rfl, h1, h2⟩ := hq
    have ok : Dp X.K S v (.bool c) := hs.ok (.d (.bool c), v) List.mem_cons_self
    cases ok
    refine ⟨c, rfl, ?_⟩
    cases c with
    | true => exact iteT (lk _ _ _ _ _ _ _ (h2 rfl) hl hs)
    | false => exact iteF (hb.run hl hs.pop (h1 rfl) lk))⟩
theorem ae_not (ha : AE X a t) : AE X (.UnaryOp .Not a pos) (aNot t) :=
  ⟨fun hL hS q lk => pe_to (pe_not pe_self) (ha.run hL hS q fun r G q' v S H L hq hl hs => by
    obtain ⟨c, rfl, h1⟩ := hq
    have ok : Dp X.K S v (.bool c) := hs.ok (.d (.bool c), v) List.mem_cons_self
    cases ok
    exact ⟨c, rfl, lk _ _ _ _ _ _ _ h1 hl (hs.pop.push (.bl _))⟩)⟩
def aNeg (t : ATE) : ATE := fun G q Q => t G q fun r G1 q1 => ∃ i, r = .d (.int i) ∧ Q (.d (.int (-i))) G1 q1
theorem ae_neg (ha : AE X a t) : AE X (.UnaryOp .USub a pos) (aNeg t) :=
  ⟨fun hL hS q lk => pe_to (pe_un un_neg pe_self) (ha.run hL hS q fun r G q' v S H L hq hl hs => by
    obtain ⟨c, rfl, h1⟩ := hq
    have ok : Dp X.K S v (.int c) := hs.ok (.d (.int c), v) List.mem_cons_self
    cases ok
    exact ⟨c, rfl, lk _ _ _ _ _ _ _ h1 hl (hs.pop.push (.int _))⟩)⟩
def aAndT (t u : ATT) : ATT := fun G q Q => t G q fun c G1 q1 => (c = true → u G1 q1 Q) ∧ (c = false → Q false G1 q1)
def aOrT (t u : ATT) : ATT := fun G q Q => t G q fun c G1 q1 => (c = false → u G1 q1 Q) ∧ (c = true → Q true G1 q1)
def aNotT (t : ATT) : ATT := fun G q Q => t G q fun c G1 q1 => Q (!c) G1 q1
theorem aw_and1 (h : AT X a u1) : AW X (.BoolOp .And [a] pos) u1 := ⟨fun hL hS q lk => pw_to (pw_and1 pt_self) (h.run hL hS q lk)⟩
theorem aw_or1 (h : AT X a u1) : AW X (.BoolOp .Or [a] pos) u1 := ⟨fun hL hS q lk => pw_to (pw_or1 pt_self) (h.run hL hS q lk)⟩
theorem aw_and (ha : AT X a u1) (hb : AW X (.BoolOp .And (b :: rest) pos) u2) : AW X (.BoolOp .And (a :: b :: rest) pos) (aAndT u1 u2) :=
  ⟨fun hL hS q lk => pw_to (pw_and pt_self pw_self) (ha.run hL hS q fun c G q' S H L hq hl hs => by
    cases c with
    | true => exact iteT (hb.run hl hs (hq.1 rfl) lk)
    | false => exact iteF (lk _ _ _ _ _ _ (hq.2 rfl) hl hs))⟩
theorem aw_or (ha : AT X a u1) (hb : AW X (.BoolOp .Or (b :: rest) pos) u2) : AW X (.BoolOp .Or (a :: b :: rest) pos) (aOrT u1 u2) :=
  ⟨fun hL hS q lk => pw_to (pw_or pt_self pw_self) (ha.run hL hS q fun c G q' S H L hq hl hs => by
    cases c with
    | true => exact iteT (lk _ _ _ _ _ _ (hq.2 rfl) hl hs)
    | false => exact iteF (hb.run hl hs (hq.1 rfl) lk))⟩
theorem at_w (h : AW X e u1) : AT X e u1 := ⟨fun hL hS q lk => pt_to (PW.pt pw_self) (h.run hL hS q lk)⟩
theorem at_not (h : AT X a u1) : AT X (.UnaryOp .Not a pos) (aNotT u1) := ⟨fun hL hS q lk => pt_to (pt_not pt_self) (h.run hL hS q fun c G q' S H L hq hl hs => lk _ _ _ _ _ _ hq hl hs)⟩
def aIf (t : ATT) (u v : ATE) : ATE := fun G q Q => t G q fun c G1 q1 => (c = true → u G1 q1 Q) ∧ (c = false → v G1 q1 Q)
theorem ae_if (hc : AT X c u1) (ha : AE X a ta') (hb : AE X b tb') : AE X (.IfExp c a b pos) (aIf u1 ta' tb') :=
  ⟨fun hL hS q lk => pe_to (pe_ifExp pt_self pe_self pe_self) (hc.run hL hS q fun c G q' S H L hq hl hs => by
    cases c with
    | true => exact iteT (ha.run hl hs (hq.1 rfl) lk)
    | false => exact iteF (hb.run hl hs (hq.2 rfl) lk))⟩

/-! ### argument lists, displays -/
variable {es : List Expr} {tr : ATA}
def aNil : ATA := fun G q Q => Q [] G q
def aCons (t : ATE) (u : ATA) : ATA := fun G q Q => t G q fun r G1 q1 => u G1 q1 fun rs G2 q2 => Q (r :: rs) G2 q2
theorem aa_nil : AA X [] aNil := ⟨fun hL hS h lk => pa_to pa_nil (lk [] _ _ [] _ _ _ h rfl hL hS)⟩
theorem aa_cons (ha : AE X e t) (hr : AA X es tr) (hs : starEach (e :: es) X.env = (false, eval e X.env) :: starEach es X.env := by rfl) : AA X (e :: es) (aCons t tr) := by
  refine ⟨fun {tA q S H σ G L st Q Q'} hL hS h lk => pa_to (pa_cons pe_self pa_self hs) ?_⟩
  refine ha.run hL hS h fun r1 G1 q1 x S1 H1 L1 h1 hL1 hS1 => ?_
  refine hr.run (st := (r1, x) :: st) hL1 (hS1.perm (mid_in _ _ _)) h1 fun rs G2 q2 vs S2 H2 L2 h2 hlen hL2 hS2 => ?_
  refine lk (r1 :: rs) G2 q2 (x :: vs) S2 H2 L2 h2 (by simp [hlen]) hL2 (hS2.perm ?_)
  have e1 : rs.zip vs ++ (L2 ++ (r1, x) :: st) = (rs.zip vs ++ L2) ++ (r1, x) :: st := by simp
  have e2 : (r1 :: rs).zip (x :: vs) ++ (L2 ++ st) = (r1, x) :: ((rs.zip vs ++ L2) ++ st) := by simp
  rw [e1, e2]
  exact mid_out _ _ _
/-- all results are data -/
theorem sat_ds {P : Program} {w : World} {K : PySem.W.Frag} {ta : Addr} {q : Nn} {S H : Hp} : ∀ {ds : List PyData} {vs : List V} {M : List Ent}, (ds.map Sl.d).length = vs.length → Sat P w K ta q S H ((ds.map Sl.d).zip vs ++ M) → DpAll K S vs ds ∧ Sat P w K ta q S H M
  | [], [], M, _, h => ⟨.nil, h⟩
  | d :: ds, v :: vs, M, hl, h => by
    have h' : Sat P w K ta q S H ((Sl.d d, v) :: ((ds.map Sl.d).zip vs ++ M)) := h
    obtain ⟨a1, a2⟩ := sat_ds (by simpa using hl) h'.pop
    exact ⟨.cons (h'.ok (.d d, v) List.mem_cons_self) a1, a2⟩
  | [], _ :: _, _, h, _ => by simp at h
  | _ :: _, [], _, h, _ => by simp at h
def aTup (t : ATA) : ATE := fun G q Q => t G q fun rs G' q' => ∃ ds, rs = ds.map Sl.d ∧ ds.length ≤ 1000 ∧ Q (.d (.tuple ds)) G' q'
def aLst (t : ATA) : ATE := fun G q Q => t G q fun rs G' q' => ∃ ds, rs = ds.map Sl.d ∧ ds.length ≤ 1000 ∧ Q (.l ds) G' q'
theorem le_line {n : Nat} (h : n ≤ 1000000) : n ≤ sizeLine := Nat.le_trans h (by rw [sizeLine_eq]; decide)
theorem lt_line {n : Nat} (h : n ≤ 1000000) : n < sizeLine := Nat.lt_of_le_of_lt h (by rw [sizeLine_eq]; decide)
theorem sat_new {P : Program} {w : World} {K : PySem.W.Frag} {ta : Addr} {q : Nn} {S H : Hp} {M : List Ent} {ds : List PyData} {vs : List V} {p : Addr} (h : Sat P w K ta q S H M) (hp : H p = none) (hd : DpAll K S vs ds) :
    Sat P w K ta q S (upd H p (.lst vs)) ((.l ds, .ref p) :: M) := h.mine hp rfl ⟨p, vs, rfl, h.ex.free hp, upd_same, hd⟩
theorem ae_tup {j : Nat} (h : AA X es tr) : AE X (.Tuple es j pos) (aTup tr) := by
  refine ⟨fun {tA q S H σ G L st Q Q'} hL hS hq lk => pe_to (pe_tup pa_self) ?_⟩
  refine h.run hL hS hq fun rs G1 q1 vs S1 H1 L1 h1 hlen hL1 hS1 => ?_
  obtain ⟨ds, rfl, hz, hq⟩ := h1
  obtain ⟨hd, hS2⟩ := sat_ds hlen hS1
  refine ⟨le_line (by rw [dps_len hd]; omega), fun p hp => ?_⟩
  exact lk _ _ _ _ _ _ _ hq hL1 (hS2.tup hp hd)
theorem ae_lst (h : AA X es tr) : AE X (.List es pos) (aLst tr) := by
  refine ⟨fun {tA q S H σ G L st Q Q'} hL hS hq lk => pe_to (pe_lst pa_self) ?_⟩
  refine h.run hL hS hq fun rs G1 q1 vs S1 H1 L1 h1 hlen hL1 hS1 => ?_
  obtain ⟨ds, rfl, hz, hq⟩ := h1
  obtain ⟨hd, hS2⟩ := sat_ds hlen hS1
  refine ⟨le_line (by rw [dps_len hd]; omega), fun p hp => ?_⟩
  exact lk _ _ _ _ _ _ _ hq hL1 (sat_new hS2 hp hd)
/-- {} -/
def aNewK : ATE := fun G q Q => Q (.k []) G q
def aNewI : ATE := fun G q Q => Q (.i []) G q
theorem pe_dnewX {X : Cx} {pos : Pos} : PE X (.Dict [] [] pos) (fun _ H Q => ∀ p, H p = none → (p == sysModules) = false → Q (.ref p) (upd H p (DcO X.prog X.w p []))) := by
  refine ⟨fun pins s σ H Q I h => wpAny_Dict_empty ?_⟩
  have hb : (s.heap.objs.size == sysModules) = false := beq_eq_false_iff_ne.mpr (Ne.symm (Nat.ne_of_lt I.big))
  have hn := I.hok.fresh (Nat.le_refl s.heap.objs.size)
  refine ⟨.ref s.heap.objs.size, _, I.laid (a := s.heap.objs.size) (o := DcO X.prog X.w s.heap.objs.size []) (t' := s.toks) (fun _ _ q => Heap.get?_push_of_some _ q) (Nat.le_refl _) ?_, rfl, h _ hn hb⟩
  refine ⟨⟨_, #[], 0, Heap.get?_push_size _ rfl, ⟨rfl, rfl, rfl⟩, rfl, rfl, List.nodup_nil⟩, ⟨_, Heap.get?_push_size _ rfl⟩, fun h1 h2 hx k => ?_⟩
  obtain ⟨o, es, ep, a, r⟩ := hx
  exact ⟨o, es, ep, k o a, r⟩
theorem ae_newK : AE X (.Dict [] [] pos) aNewK := by
  refine ⟨fun {tA q S H σ G L st Q Q'} hL hS hq lk => pe_to pe_dnewX fun p hp hs => ?_⟩
  exact lk _ _ _ _ _ _ _ hq hL (hS.mine hp rfl ⟨p, [], rfl, hS.ex.free hp, upd_same, hs, .nil⟩)
theorem ae_newI : AE X (.Dict [] [] pos) aNewI := by
  refine ⟨fun {tA q S H σ G L st Q Q'} hL hS hq lk => pe_to pe_dnewK fun p hp => ?_⟩
  exact lk _ _ _ _ _ _ _ hq hL (hS.mine hp rfl ⟨p, [], rfl, hS.ex.free hp, upd_same, .nil⟩)
end
end Ph

set_option Elab.async false
set_option linter.all false
set_option maxRecDepth 100000
set_option maxHeartbeats 4000000
namespace Ph
open PySem L2

section
variable {P : Program} {w : World} {K : PySem.W.Frag}

/-! ### what an entry says -/
theorem ent {ta : Addr} {q : Nn} {S H : Hp} {M : List Ent} {p : Ent} (h : Sat P w K ta q S H M) (hp : p ∈ M) : SlOk P w K ta S H p.1 p.2 := h.ok p hp
theorem dp_int {S : Hp} {v : V} {i : Int} (h : Dp K S v (.int i)) : v = .int i := by cases h; rfl
theorem dp_bl {S : Hp} {v : V} {i : Bool} (h : Dp K S v (.bool i)) : v = .bl i := by cases h; rfl
theorem dp_str {S : Hp} {v : V} {i : Str} (h : Dp K S v (.str i)) : v = .str i := by cases h; rfl
theorem dp_tup {S : Hp} {v : V} {ds : List PyData} (h : Dp K S v (.tuple ds)) : ∃ a xs, v = .ref a ∧ SqT K S a xs ∧ DpAll K S xs ds := by
  cases h with
  | tup h1 h2 => exact ⟨_, _, rfl, h1, h2⟩
theorem dp_lst {S : Hp} {v : V} {ds : List PyData} (h : Dp K S v (.list ds)) : ∃ a xs, v = .ref a ∧ SqL K S a xs ∧ DpAll K S xs ds := by
  cases h with
  | lst h1 h2 => exact ⟨_, _, rfl, h1, h2⟩
theorem sat_top {ta : Addr} {q : Nn} {S H : Hp} {M : List Ent} {k : Sl} {v : V} (h : Sat P w K ta q S H ((k, v) :: M)) : SlOk P w K ta S H k v := h.ok (k, v) List.mem_cons_self
theorem sat_snd {ta : Addr} {q : Nn} {S H : Hp} {M : List Ent} {p : Ent} {k : Sl} {v : V} (h : Sat P w K ta q S H (p :: (k, v) :: M)) : SlOk P w K ta S H k v := h.ok (k, v) (List.mem_cons_of_mem _ List.mem_cons_self)

/-! ### ints -/
def bI (C : Int → Int → Prop) (g : Int → Int → PyData) : B2 := fun k1 k2 Q => ∃ i j, k1 = .d (.int i) ∧ k2 = .d (.int j) ∧ C i j ∧ Q (.d (g i j))
theorem o2_I {C : Int → Int → Prop} {g : Int → Int → Int} : Op2 P w K (rI C fun i j => .int (g i j)) (bI C fun i j => .int (g i j)) := by
  intro ta q S H M k1 k2 x y Q Q' hS hB lk
  obtain ⟨i, j, rfl, rfl, hc, hq⟩ := hB
  exact ⟨i, j, dp_int (sat_snd hS), dp_int (sat_top hS), hc, lk _ _ _ _ hq (hS.pop.pop.push (.int _))⟩
theorem o2_I0 {g : Int → Int → Int} : Op2 P w K (rI0 fun i j => .int (g i j)) (bI (fun _ _ => True) fun i j => .int (g i j)) := by
  intro ta q S H M k1 k2 x y Q Q' hS hB lk
  obtain ⟨i, j, rfl, rfl, hc, hq⟩ := hB
  exact ⟨i, j, dp_int (sat_snd hS), dp_int (sat_top hS), lk _ _ _ _ hq (hS.pop.pop.push (.int _))⟩
theorem o2_B0 {g : Int → Int → Bool} : Op2 P w K (rI0 fun i j => .bl (g i j)) (bI (fun _ _ => True) fun i j => .bool (g i j)) := by
  intro ta q S H M k1 k2 x y Q Q' hS hB lk
  obtain ⟨i, j, rfl, rfl, hc, hq⟩ := hB
  exact ⟨i, j, dp_int (sat_snd hS), dp_int (sat_top hS), lk _ _ _ _ hq (hS.pop.pop.push (.bl _))⟩

/-! ### == of data -/
def bEq : B2 := fun k1 k2 Q => ∃ d e, k1 = .d d ∧ k2 = .d e ∧ SeqAt.shaped d = true ∧ SeqAt.shaped e = true ∧ Q (.d (.bool (PyData.eqv d e)))
def bNe : B2 := fun k1 k2 Q => ∃ d e, k1 = .d d ∧ k2 = .d e ∧ SeqAt.shaped d = true ∧ SeqAt.shaped e = true ∧ Q (.d (.bool (!PyData.eqv d e)))
theorem o2_eq : Op2 P w K (rEqD K) bEq := by
  intro ta q S H M k1 k2 x y Q Q' hS hB lk
  obtain ⟨d, e, rfl, rfl, h1, h2, hq⟩ := hB
  exact ⟨d, e, dp_mono hS.ex _ _ (sat_snd hS), dp_mono hS.ex _ _ (sat_top hS), h1, h2, lk _ _ _ _ hq (hS.pop.pop.push (.bl _))⟩
theorem o2_ne : Op2 P w K (rNeD K) bNe := by
  intro ta q S H M k1 k2 x y Q Q' hS hB lk
  obtain ⟨d, e, rfl, rfl, h1, h2, hq⟩ := hB
  exact ⟨d, e, dp_mono hS.ex _ _ (sat_snd hS), dp_mono hS.ex _ _ (sat_top hS), h1, h2, lk _ _ _ _ hq (hS.pop.pop.push (.bl _))⟩
/-- is None -/
def isNone : PyData → Bool
  | .none => true
  | _ => false
def rIsNo : R2 := fun x y H Q => y = .non ∧ Q (.bl (decide (x = .non))) H
def bIsN : B2 := fun k1 k2 Q => ∃ d, k1 = .d d ∧ k2 = .d .none ∧ Q (.d (.bool (isNone d)))
theorem o2_isN : Op2 P w K rIsNo bIsN := by
  intro ta q S H M k1 k2 x y Q Q' hS hB lk
  obtain ⟨d, rfl, rfl, hq⟩ := hB
  have h1 : Dp K S x d := sat_snd hS
  have h2 : Dp K S y .none := sat_top hS
  have e2 : y = .non := by cases h2; rfl
  refine ⟨e2, ?_⟩
  have e : decide (x = .non) = isNone d := by
    cases h1 <;> simp [isNone]
  rw [e]
  exact lk _ _ _ _ hq (hS.pop.pop.push (.bl _))
/-- a text in a tuple of texts -/
def bIn : B2 := fun k1 k2 Q => ∃ (x : Str) (xs : List Str), k1 = .d (.str x) ∧ k2 = .d (.tuple (xs.map PyData.str)) ∧ Q (.d (.bool (decide (x ∈ xs))))
def bNotIn : B2 := fun k1 k2 Q => ∃ (x : Str) (xs : List Str), k1 = .d (.str x) ∧ k2 = .d (.tuple (xs.map PyData.str)) ∧ Q (.d (.bool (!decide (x ∈ xs))))
theorem dps_str {S : Hp} : ∀ {xs : List Str} {vs : List V}, DpAll K S vs (xs.map PyData.str) → vs = xs.map V.str
  | [], _, h => by cases h; rfl
  | x :: xs, _, h => by
    cases h with
    | cons a b => rw [dp_str a, dps_str b]; rfl
theorem inV_str (x : Str) : ∀ xs : List Str, inV (.str x) (xs.map V.str) = decide (x ∈ xs)
  | [] => by simp [inV]
  | y :: ys => by
    have ih := inV_str x ys
    unfold inV at ih ⊢
    rw [List.map_cons, List.any_cons, ih]
    have e : eqV (V.str y) (V.str x) = (y == x) := rfl
    rw [e]
    by_cases h : y = x
    · subst h; simp
    · have h' : ¬ x = y := fun z => h z.symm
      simp [h, h']
theorem flat_str : ∀ xs : List Str, (xs.map V.str).all flatV = true
  | [] => rfl
  | x :: xs => by rw [List.map_cons, List.all_cons, flat_str xs]; rfl
theorem o2_in : Op2 P w K (rIn K false) bIn := by
  intro ta q S H M k1 k2 x y Q Q' hS hB lk
  obtain ⟨z, zs, rfl, rfl, hq⟩ := hB
  obtain ⟨a, vs, e, h1, h2⟩ := dp_tup (sat_top hS)
  have e2 := dps_str h2
  subst e2
  have e1 : x = .str z := dp_str (sat_snd hS)
  subst e1
  refine ⟨a, _, e, .inr (same_t hS.ex h1), rfl, flat_str zs, ?_⟩
  rw [inV_str]
  exact lk _ _ _ _ hq (hS.pop.pop.push (.bl _))
theorem o2_notIn : Op2 P w K (rIn K true) bNotIn := by
  intro ta q S H M k1 k2 x y Q Q' hS hB lk
  obtain ⟨z, zs, rfl, rfl, hq⟩ := hB
  obtain ⟨a, vs, e, h1, h2⟩ := dp_tup (sat_top hS)
  have e2 := dps_str h2
  subst e2
  have e1 : x = .str z := dp_str (sat_snd hS)
  subst e1
  refine ⟨a, _, e, .inr (same_t hS.ex h1), rfl, flat_str zs, ?_⟩
  rw [inV_str]
  exact lk _ _ _ _ hq (hS.pop.pop.push (.bl _))

/-! ### + and * of lists and tuples -/
def bCatL : B2 := fun k1 k2 Q => ∃ xs ys, k1 = .l xs ∧ k2 = .l ys ∧ xs.length + ys.length ≤ 1000000 ∧ Q (.l (xs ++ ys))
theorem o2_catL : Op2 P w K rCat bCatL := by
  intro ta q S H M k1 k2 x y Q Q' hS hB lk
  obtain ⟨xs, ys, rfl, rfl, hz, hq⟩ := hB
  obtain ⟨a, vs, e1, s1, h1, d1⟩ := sat_snd hS
  obtain ⟨b, ws, e2, s2, h2, d2⟩ := sat_top hS
  refine ⟨a, b, vs, ws, e1, e2, h1, h2, le_line (by rw [dps_len d1, dps_len d2]; exact hz), fun p hp => ?_⟩
  exact lk _ _ _ _ hq (sat_new hS.pop.pop hp (dps_app d1 d2))
def bCatT : B2 := fun k1 k2 Q => ∃ xs ys, k1 = .d (.tuple xs) ∧ k2 = .d (.tuple ys) ∧ xs.length + ys.length ≤ 1000000 ∧ Q (.d (.tuple (xs ++ ys)))
theorem o2_catT : Op2 P w K (rCatA K) bCatT := by
  intro ta q S H M k1 k2 x y Q Q' hS hB lk
  obtain ⟨xs, ys, rfl, rfl, hz, hq⟩ := hB
  have t1 := sat_snd hS
  have t2 := sat_top hS
  obtain ⟨a, vs, e1, h1, d1⟩ := dp_tup t1
  obtain ⟨b, ws, e2, h2, d2⟩ := dp_tup t2
  refine ⟨a, b, vs, ws, e1, e2, same_t hS.ex h1, same_t hS.ex h2, le_line (by rw [dps_len d1, dps_len d2]; exact hz), fun z => ?_, fun _ z => ?_, fun _ _ p hp => ?_⟩
  · subst z
    have z2 : xs = [] := List.eq_nil_of_length_eq_zero (dps_len d1).symm
    subst z2
    rw [← e2]
    exact lk _ _ _ _ hq (hS.pop.pop.push t2)
  · subst z
    have z2 : ys = [] := List.eq_nil_of_length_eq_zero (dps_len d2).symm
    subst z2
    rw [List.append_nil] at hq
    rw [← e1]
    exact lk _ _ _ _ hq (hS.pop.pop.push t1)
  · exact lk _ _ _ _ hq (hS.pop.pop.tup hp (dps_app d1 d2))
def bRepL : B2 := fun k1 k2 Q => ∃ xs k, k1 = .l xs ∧ k2 = .d (.int k) ∧ 0 ≤ k ∧ k ≤ 1000 ∧ xs.length ≤ 1000 ∧ Q (.l (List.replicate k.toNat xs).flatten)
theorem o2_repL : Op2 P w K rRep bRepL := by
  intro ta q S H M k1 k2 x y Q Q' hS hB lk
  obtain ⟨xs, k, rfl, rfl, h1, h2, hz, hq⟩ := hB
  obtain ⟨a, vs, e1, s1, hh, d1⟩ := sat_snd hS
  refine ⟨a, k, vs, e1, dp_int (sat_top hS), hh, by omega, by omega, le_line ?_, fun p hp => ?_⟩
  · rw [dps_len d1]
    have : xs.length * k.toNat ≤ 1000 * 1000 := Nat.mul_le_mul hz (by omega)
    omega
  · exact lk _ _ _ _ hq (sat_new hS.pop.pop hp (dps_rep d1 _))
def bRepT : B2 := fun k1 k2 Q => ∃ xs k, k1 = .d (.tuple xs) ∧ k2 = .d (.int k) ∧ xs ≠ [] ∧ 2 ≤ k ∧ k ≤ 1000 ∧ xs.length ≤ 1000 ∧ Q (.d (.tuple (List.replicate k.toNat xs).flatten))
theorem o2_repT : Op2 P w K (rRepT K) bRepT := by
  intro ta q S H M k1 k2 x y Q Q' hS hB lk
  obtain ⟨xs, k, rfl, rfl, hne, h1, h2, hz, hq⟩ := hB
  obtain ⟨a, vs, e1, hh, d1⟩ := dp_tup (sat_snd hS)
  refine ⟨a, k, vs, e1, dp_int (sat_top hS), same_t hS.ex hh, fun z => hne ?_, h1, h2, by rw [dps_len d1]; exact hz, fun p hp => ?_⟩
  · subst z
    exact List.eq_nil_of_length_eq_zero (dps_len d1).symm
  · exact lk _ _ _ _ hq (hS.pop.pop.tup hp (dps_rep d1 _))

/-! ### subscripts -/
def bIx : B2 := fun k1 k2 Q => ∃ xs i x, (k1 = .d (.list xs) ∨ k1 = .d (.tuple xs)) ∧ k2 = .d (.int i) ∧ atI xs i = some x ∧ Q (.d x)
theorem dps_atI {S : Hp} {ds : List PyData} {vs : List V} {i : Int} {d : PyData} (h : DpAll K S vs ds) (e : atI ds i = some d) : ∃ v, atI vs i = some v ∧ Dp K S v d := by
  unfold atI at e ⊢
  rw [dps_len h]
  cases hj : ixN ds.length i with
  | none => rw [hj] at e; cases e
  | some j =>
    rw [hj] at e
    obtain ⟨v, a, b⟩ := dps_get (i := j) h e
    exact ⟨v, a, b⟩
theorem o2_ix : Op2 P w K (rIx K) bIx := by
  intro ta q S H M k1 k2 x y Q Q' hS hB lk
  obtain ⟨xs, i, d, hk, rfl, hx, hq⟩ := hB
  have hy := dp_int (sat_top hS)
  rcases hk with rfl | rfl
  · obtain ⟨a, vs, e1, h1, d1⟩ := dp_lst (sat_snd hS)
    obtain ⟨v, hv, hd⟩ := dps_atI d1 hx
    exact .inl ⟨a, vs, i, v, e1, hy, hS.ex.seq h1, hv, lk _ _ _ _ hq (hS.pop.pop.push hd)⟩
  · obtain ⟨a, vs, e1, h1, d1⟩ := dp_tup (sat_snd hS)
    obtain ⟨v, hv, hd⟩ := dps_atI d1 hx
    exact .inr (.inl ⟨a, vs, i, v, e1, hy, same_t hS.ex h1, hv, lk _ _ _ _ hq (hS.pop.pop.push hd)⟩)
end
section
variable {X : Cx} {e a b : Expr} {t ta' tb' : ATE} {pos : Pos}
theorem ae_ix (ha : AE X a ta') (hb : AE X b tb') (hs : PlainIx b := by exact fun _ _ => rfl) : AE X (.Subscript a b pos) (aOp bIx ta' tb') :=
  ⟨fun hL hS h lk => pe_to (pe_ix ix_seq pe_self pe_self hs) (op_run o2_ix ha hb hL hS h lk)⟩
/-- an item of an own list -/
def aIxO (i : Nat) (t : ATE) : ATE := fun G q Q => (∃ xs, G[i]? = some (.l xs)) ∧ t G q fun r G' q' => ∃ j xs x, r = .d (.int j) ∧ G'[i]? = some (.l xs) ∧ atI xs j = some x ∧ Q (.d x) G' q'
theorem ae_ixO (i : Nat) {x : Str} {p : Pos} (hb : AE X b t) (hN : X.N[i]? = some x := by rfl) (hv : Vis X.env.scope x := by first | exact Or.inl rfl | exact Or.inr (Or.inl rfl) | exact Or.inr (Or.inr rfl))
    (hd : (x == ("__debug__" : Str)) = false := by decide) (hcd : (x == ("__classdict__" : Str)) = false := by decide) (hs : PlainIx b := by exact fun _ _ => rfl) :
    AE X (.Subscript (.Name x p) b pos) (aIxO i t) := by
  refine ⟨fun {tA q S H σ G L st Q Q'} hL hS h lk => pe_to (pe_ix ix_list (pe_var hN hv hd hcd) pe_self hs) ?_⟩
  obtain ⟨⟨xs0, hk⟩, h⟩ := h
  obtain ⟨v, L1, L2, e1, e2, up⟩ := hL.get hk (fun z => by cases z)
  refine ⟨v, e1, ?_⟩
  refine hb.run hL hS h fun r G' q' y S' H' L' hq hL' hS' => ?_
  obtain ⟨j, xs, z, rfl, hk', hz, hq⟩ := hq
  obtain ⟨v', L1', L2', e1', e2', _⟩ := hL'.get hk' (fun z => by cases z)
  have ev : v' = v := by
    rw [e1] at e1'
    exact (Option.some.inj (Option.some.inj e1')).symm
  subst ev
  have hy := dp_int (sat_top hS')
  have ok : SlOk X.prog X.w X.K tA S' H' (.l xs) v' := hS'.ok (.l xs, v') (List.mem_cons_of_mem _ (List.mem_append_left _ (by rw [e2']; exact List.mem_append_right _ List.mem_cons_self)))
  obtain ⟨a, vs, ea, _, ha, hd⟩ := ok
  obtain ⟨u, hu, hud⟩ := dps_atI hd hz
  exact ⟨a, vs, j, u, ea, hy, .of ha, hu, lk _ _ _ _ _ _ _ hq hL' (hS'.pop.push hud)⟩

/-! ### calls of built-ins -/
abbrev BC := List Sl → (Sl → Prop) → Prop
def Cl (P : Program) (w : World) (K : PySem.W.Frag) (r : List V → Hp → VK → Prop) (B : BC) : Prop :=
  ∀ {ta : Addr} {q : Nn} {S H : Hp} {M : List Ent} {rs : List Sl} {vs : List V} {Q : Sl → Prop} {Q' : VK}, rs.length = vs.length → Sat P w K ta q S H (rs.zip vs ++ M) → B rs Q →
    (∀ k v S' H', Q k → Sat P w K ta q S' H' ((k, v) :: M) → Q' v H') → r vs H Q'
def aCall (B : BC) (t : ATA) : ATE := fun G q Q => t G q fun rs G1 q1 => B rs fun k => Q k G1 q1
variable {es : List Expr} {tr : ATA} {x : Str} {p : Pos} {id T : String} {r : List V → Hp → VK → Prop} {B : BC}
theorem ae_callB (hc : CallR X (.builtin id) r) (hB : Cl X.prog X.w X.K r B) (hg : Gl X x) (hm : X.mg x = none) (hv : bootBuiltins x = some (.builtin id)) (ha : AA X (e :: es) tr) (hn : x ≠ "__name__" := by decide) (hdb : (x == ("__debug__" : Str)) = false := by decide)
    (he : starEach (e :: es) X.env = (false, eval e X.env) :: starEach es X.env := by rfl) (hpl : (backTo pos (starEach es X.env)).any (·.1) = false := by rfl) : AE X (.Call (.Name x p) (e :: es) [] pos) (aCall B tr) :=
  ⟨fun hL hS h lk => pe_to (pe_callB hc hg hm hv pa_self hn hdb he hpl) (ha.run hL hS h fun rs G1 q1 vs S1 H1 L1 h1 hlen hL1 hS1 => hB hlen hS1 h1 fun k v S' H' hq hs => lk _ _ _ _ _ _ _ hq hL1 hs)⟩
theorem ae_callTy (hc : CallR X (.type T) r) (hB : Cl X.prog X.w X.K r B) (hg : Gl X x) (hm : X.mg x = none) (hv : bootBuiltins x = some (.type T)) (ha : AA X (e :: es) tr) (hn : x ≠ "__name__" := by decide) (hdb : (x == ("__debug__" : Str)) = false := by decide)
    (he : starEach (e :: es) X.env = (false, eval e X.env) :: starEach es X.env := by rfl) (hpl : (backTo pos (starEach es X.env)).any (·.1) = false := by rfl) : AE X (.Call (.Name x p) (e :: es) [] pos) (aCall B tr) :=
  ⟨fun hL hS h lk => pe_to (pe_callTy hc hg hm hv pa_self hn hdb he hpl) (ha.run hL hS h fun rs G1 q1 vs S1 H1 L1 h1 hlen hL1 hS1 => hB hlen hS1 h1 fun k v S' H' hq hs => lk _ _ _ _ _ _ _ hq hL1 hs)⟩
end
section
variable {P : Program} {w : World} {K : PySem.W.Frag}
theorem one_of {α : Type} {vs : List α} (h : 1 = vs.length) : ∃ v, vs = [v] := by
  match vs, h with
  | [v], _ => exact ⟨v, rfl⟩
/-- a list or a tuple to be read -/
def seqOf : Sl → Option (List PyData)
  | .d (.list xs) => some xs
  | .d (.tuple xs) => some xs
  | .l xs => some xs
  | _ => none
theorem seq_at {ta : Addr} {S H : Hp} {k : Sl} {v : V} {xs : List PyData} (ex : Same S H) (h : SlOk P w K ta S H k v) (e : seqOf k = some xs) : ∃ a vs, v = .ref a ∧ (SqL K H a vs ∨ SqT K H a vs) ∧ DpAll K S vs xs := by
  match k, h, e with
  | .d (.list ys), h, e =>
    cases e
    obtain ⟨a, vs, e1, h1, d1⟩ := dp_lst h
    exact ⟨a, vs, e1, .inl (ex.seq h1), d1⟩
  | .d (.tuple ys), h, e =>
    cases e
    obtain ⟨a, vs, e1, h1, d1⟩ := dp_tup h
    exact ⟨a, vs, e1, .inr (same_t ex h1), d1⟩
  | .l ys, h, e =>
    cases e
    obtain ⟨a, vs, e1, _, h1, d1⟩ := h
    exact ⟨a, vs, e1, .inl (.of h1), d1⟩
def bLen : BC := fun rs Q => ∃ k xs, rs = [k] ∧ seqOf k = some xs ∧ Q (.d (.int xs.length))
theorem cl_len : Cl P w K (fun xs H Q => ∃ p ys, xs = [.ref p] ∧ (SqL K H p ys ∨ SqT K H p ys) ∧ Q (.int ys.length) H) bLen := by
  intro ta q S H M rs vs Q Q' hlen hS hB lk
  obtain ⟨k, xs, rfl, hk, hq⟩ := hB
  obtain ⟨v, rfl⟩ := one_of hlen
  have hS : Sat P w K ta q S H ((k, v) :: M) := hS
  obtain ⟨a, ws, rfl, h1, d1⟩ := seq_at hS.ex (sat_top hS) hk
  refine ⟨a, ws, rfl, h1, ?_⟩
  rw [dps_len d1]
  exact lk _ _ _ _ hq (hS.pop.push (.int _))
def bTuple : BC := fun rs Q => ∃ k xs, rs = [k] ∧ seqOf k = some xs ∧ Q (.d (.tuple xs))
theorem cl_tuple : Cl P w K (fun xs H Q => ∃ p ys, xs = [.ref p] ∧ ((SqL K H p ys ∧ ∀ l, H l = none → Q (.ref l) (upd H l (.tup ys))) ∨ (SqT K H p ys ∧ Q (.ref p) H))) bTuple := by
  intro ta q S H M rs vs Q Q' hlen hS hB lk
  obtain ⟨k, xs, rfl, hk, hq⟩ := hB
  obtain ⟨v, rfl⟩ := one_of hlen
  have hS : Sat P w K ta q S H ((k, v) :: M) := hS
  have ok := sat_top hS
  match k, ok, hk with
  | .d (.list ys), ok, hk =>
    cases hk
    obtain ⟨a, ws, rfl, h1, d1⟩ := dp_lst ok
    exact ⟨a, ws, rfl, .inl ⟨hS.ex.seq h1, fun l hl => lk _ _ _ _ hq (hS.pop.tup hl d1)⟩⟩
  | .d (.tuple ys), ok, hk =>
    cases hk
    obtain ⟨a, ws, e1, h1, d1⟩ := dp_tup ok
    subst e1
    exact ⟨a, ws, rfl, .inr ⟨same_t hS.ex h1, lk _ _ _ _ hq (hS.pop.push ok)⟩⟩
  | .l ys, ok, hk =>
    cases hk
    obtain ⟨a, ws, rfl, _, h1, d1⟩ := ok
    exact ⟨a, ws, rfl, .inl ⟨.of h1, fun l hl => lk _ _ _ _ hq (hS.pop.tup hl d1)⟩⟩
def bList : BC := fun rs Q => ∃ k xs, rs = [k] ∧ seqOf k = some xs ∧ Q (.l xs)
theorem cl_list : Cl P w K (fun xs H Q => ∃ p ys, xs = [.ref p] ∧ (SqL K H p ys ∨ SqT K H p ys) ∧ ∀ l, H l = none → Q (.ref l) (upd H l (.lst ys))) bList := by
  intro ta q S H M rs vs Q Q' hlen hS hB lk
  obtain ⟨k, xs, rfl, hk, hq⟩ := hB
  obtain ⟨v, rfl⟩ := one_of hlen
  have hS : Sat P w K ta q S H ((k, v) :: M) := hS
  obtain ⟨a, ws, rfl, h1, d1⟩ := seq_at hS.ex (sat_top hS) hk
  exact ⟨a, ws, rfl, h1, fun l hl => lk _ _ _ _ hq (sat_new hS.pop hl d1)⟩
/-- int(n), int(flag) -/
def bInt : BC := fun rs Q => (∃ i, rs = [.d (.int i)] ∧ Q (.d (.int i))) ∨ ∃ c, rs = [.d (.bool c)] ∧ Q (.d (.int (if c then 1 else 0)))
theorem cl_int : Cl P w K (fun xs H Q => (∃ i, xs = [.int i] ∧ Q (.int i) H) ∨ ∃ k, xs = [.bl k] ∧ Q (.int (if k then 1 else 0)) H) bInt := by
  intro ta q S H M rs vs Q Q' hlen hS hB lk
  rcases hB with ⟨i, rfl, hq⟩ | ⟨c, rfl, hq⟩
  · obtain ⟨v, rfl⟩ := one_of hlen
    have hS : Sat P w K ta q S H ((.d (.int i), v) :: M) := hS
    rw [dp_int (sat_top hS)]
    exact .inl ⟨i, rfl, lk _ _ _ _ hq (hS.pop.push (.int _))⟩
  · obtain ⟨v, rfl⟩ := one_of hlen
    have hS : Sat P w K ta q S H ((.d (.bool c), v) :: M) := hS
    rw [dp_bl (sat_top hS)]
    exact .inr ⟨c, rfl, lk _ _ _ _ hq (hS.pop.push (.int _))⟩
def bAbs : BC := fun rs Q => ∃ i, rs = [.d (.int i)] ∧ Q (.d (.int (if i < 0 then -i else i)))
theorem cl_abs : Cl P w K (fun xs H Q => ∃ i, xs = [.int i] ∧ Q (.int (if i < 0 then -i else i)) H) bAbs := by
  intro ta q S H M rs vs Q Q' hlen hS hB lk
  obtain ⟨i, rfl, hq⟩ := hB
  obtain ⟨v, rfl⟩ := one_of hlen
  have hS : Sat P w K ta q S H ((.d (.int i), v) :: M) := hS
  rw [dp_int (sat_top hS)]
  exact ⟨i, rfl, lk _ _ _ _ hq (hS.pop.push (.int _))⟩
theorem dps_bl {S : Hp} : ∀ {xs : List Bool} {vs : List V}, DpAll K S vs (xs.map PyData.bool) → vs = xs.map V.bl
  | [], _, h => by cases h; rfl
  | x :: xs, _, h => by
    cases h with
    | cons a b => rw [dp_bl a, dps_bl b]; rfl
/-- all(a list of bools) -/
def bAll : BC := fun rs Q => ∃ bs : List Bool, rs = [.l (bs.map PyData.bool)] ∧ Q (.d (.bool (bs.all id)))
theorem cl_all : Cl P w K (rAll K) bAll := by
  intro ta q S H M rs vs Q Q' hlen hS hB lk
  obtain ⟨bs, rfl, hq⟩ := hB
  obtain ⟨v, rfl⟩ := one_of hlen
  have hS : Sat P w K ta q S H ((.l (bs.map PyData.bool), v) :: M) := hS
  obtain ⟨a, ws, rfl, _, h1, d1⟩ := sat_top hS
  rw [dps_bl d1] at h1
  exact ⟨a, bs, rfl, .of h1, lk _ _ _ _ hq (hS.pop.push (.bl _))⟩
end

/-! ### tuple(range(n)), list(range(n)) -/
section
variable {X : Cx} {e a b : Expr} {t ta' tb' : ATE} {pos p p2 pos2 : Pos}
def upTo (n : Int) : List PyData := (List.range n.toNat).map fun (i : Nat) => PyData.int i
theorem dps_upTo {K : PySem.W.Frag} {S : Hp} (n : Int) : DpAll K S (rgV 0 n) (upTo n) := by
  have key : ∀ l : List Nat, DpAll K S (l.map fun i => V.int (0 + (i : Nat))) (l.map fun (i : Nat) => PyData.int i) := by
    intro l
    induction l with
    | nil => exact .nil
    | cons x l ih =>
      rw [List.map_cons, List.map_cons, Int.zero_add]
      exact .cons (.int _) ih
  unfold rgV upTo
  rw [Int.sub_zero]
  exact key _
def aTupRg (t : ATE) : ATE := fun G q Q => t G q fun r G' q' => ∃ n, r = .d (.int n) ∧ 0 ≤ n ∧ n ≤ 1000000 ∧ Q (.d (.tuple (upTo n))) G' q'
def aLstRg (t : ATE) : ATE := fun G q Q => t G q fun r G' q' => ∃ n, r = .d (.int n) ∧ 0 ≤ n ∧ n ≤ 1000000 ∧ Q (.l (upTo n)) G' q'
theorem ae_tupRg (hc : X.calm = true) (hg : Gl X "tuple") (hm : X.mg "tuple" = none) (hg2 : Gl X "range") (hm2 : X.mg "range" = none) (h : AE X e t) (na : starEach [.Call (.Name "range" p2) [e] [] pos2] X.env = (false, eval (.Call (.Name "range" p2) [e] [] pos2) X.env) :: starEach [] X.env := by rfl) (nb : starEach [e] X.env = (false, eval e X.env) :: starEach [] X.env := by rfl) :
    AE X (.Call (.Name "tuple" p) [.Call (.Name "range" p2) [e] [] pos2] [] pos) (aTupRg t) :=
  ⟨fun hL hS h' lk => pe_to (pe_tupRg hc hg hm (prg_1 hg2 hm2 pe_self nb) na) (h.run hL hS h' fun r G q v S H L hq hl hs => by
    obtain ⟨n, rfl, h0, h1, hq⟩ := hq
    refine ⟨n, dp_int (sat_top hs), .of_le (by omega) (by omega) (by omega) (by omega), fun z hz => ?_⟩
    exact lk _ _ _ _ _ _ _ hq hl (hs.pop.tup hz (dps_upTo n)))⟩
theorem ae_lstRg (hc : X.calm = true) (hg : Gl X "list") (hm : X.mg "list" = none) (hg2 : Gl X "range") (hm2 : X.mg "range" = none) (h : AE X e t) (na : starEach [.Call (.Name "range" p2) [e] [] pos2] X.env = (false, eval (.Call (.Name "range" p2) [e] [] pos2) X.env) :: starEach [] X.env := by rfl) (nb : starEach [e] X.env = (false, eval e X.env) :: starEach [] X.env := by rfl) :
    AE X (.Call (.Name "list" p) [.Call (.Name "range" p2) [e] [] pos2] [] pos) (aLstRg t) :=
  ⟨fun hL hS h' lk => pe_to (pe_listRg hc hg hm (prg_1 hg2 hm2 pe_self nb) na) (h.run hL hS h' fun r G q v S H L hq hl hs => by
    obtain ⟨n, rfl, h0, h1, hq⟩ := hq
    refine ⟨n, dp_int (sat_top hs), .of_le (by omega) (by omega) (by omega) (by omega), fun z hz => ?_⟩
    exact lk _ _ _ _ _ _ _ hq hl (sat_new hs.pop hz (dps_upTo n)))⟩

/-! ### slices -/
abbrev ATO := List Sl → Nn → (Option Int → List Sl → Nn → Prop) → Prop
def toOf (X : Cx) (e : Option Expr) : TO := fun σ H Q => ∀ pins s, Inv X pins σ H s → wpAny (model X.prog X.w) X.A (evalPart e X.env) (fun u s' => ∃ o H', Inv X pins σ H' s' ∧ IsPart u o ∧ Q o H') X.xe s
theorem po_self {e : Option Expr} : PO X e (toOf X e) := ⟨fun pins s _ _ _ I h => h pins s I⟩
theorem po_to {e : Option Expr} {t : TO} {σ : L2.St} {H : Hp} {Q : Option Int → Hp → Prop} (h : PO X e t) (x : t σ H Q) : toOf X e σ H Q := fun pins s I => h.run pins s σ H Q I x
structure AO (X : Cx) (e : Option Expr) (t : ATO) : Prop where
  run : ∀ {ta : Addr} {q : Nn} {S H : Hp} {σ : L2.St} {G : List Sl} {L st : List Ent} {Q : Option Int → List Sl → Nn → Prop} {Q' : Option Int → Hp → Prop},
    SlotsE G σ L → Sat X.prog X.w X.K ta q S H (L ++ st) → t G q Q → (∀ o G q S H L, Q o G q → SlotsE G σ L → Sat X.prog X.w X.K ta q S H (L ++ st) → Q' o H) → toOf X e σ H Q'
def aoNo : ATO := fun G q Q => Q none G q
def aoI (t : ATE) : ATO := fun G q Q => t G q fun r G' q' => ∃ i, r = .d (.int i) ∧ Q (some i) G' q'
theorem ao_no : AO X none aoNo := ⟨fun hL hS h lk => po_to po_none (lk _ _ _ _ _ _ h hL hS)⟩
theorem ao_i (h : AE X e t) : AO X (some e) (aoI t) := ⟨fun hL hS hq lk => po_to (po_some pe_self) (h.run hL hS hq fun r G q v S H L hq hl hs => by
  obtain ⟨i, rfl, hq⟩ := hq
  exact ⟨i, dp_int (sat_top hs), lk _ _ _ _ _ _ hq hl hs.pop⟩)⟩
def cutD (xs : List PyData) (lo hi : Option Int) : List PyData := (xs.drop (HT.sIx xs.length 0 lo)).take (HT.sIx xs.length xs.length hi - HT.sIx xs.length 0 lo)
theorem dps_cut {K : PySem.W.Frag} {S : Hp} {vs : List V} {ds : List PyData} (h : DpAll K S vs ds) (lo hi : Option Int) : DpAll K S (cutV vs lo hi) (cutD ds lo hi) := by
  unfold cutV cutD
  rw [dps_len h]
  exact dps_take _ (dps_drop _ h)
theorem cut_whole {ds : List PyData} {lo hi : Option Int} (h : HT.sIx ds.length 0 lo = 0 ∧ HT.sIx ds.length ds.length hi = ds.length) : cutD ds lo hi = ds := by
  unfold cutD
  rw [h.1, h.2, Nat.sub_zero, List.drop_zero, List.take_length]
def aSl (t : ATE) (lo hi : ATO) : ATE := fun G q Q => t G q fun r G1 q1 => lo G1 q1 fun a G2 q2 => hi G2 q2 fun b G3 q3 =>
  ∃ xs, (r = .d (.tuple xs) ∧ Q (.d (.tuple (cutD xs a b))) G3 q3) ∨ (r = .d (.list xs) ∧ Q (.l (cutD xs a b)) G3 q3)
theorem ae_sl {lo hi : Option Expr} {tl th : ATO} (he : AE X e t) (hl : AO X lo tl) (hh : AO X hi th) : AE X (.Subscript e (.Slice lo hi none p2) pos) (aSl t tl th) := by
  refine ⟨fun {tA q S H σ G L st Q Q'} hL hS h lk => pe_to (pe_slice (sl_tupA.or sl_list) pe_self po_self po_self) ?_⟩
  refine he.run hL hS h fun r1 G1 q1 x S1 H1 L1 h1 hL1 hS1 => ?_
  refine hl.run (st := (r1, x) :: st) hL1 (hS1.perm (mid_in _ _ _)) h1 fun i G2 q2 S2 H2 L2 h2 hL2 hS2 => ?_
  refine hh.run (st := (r1, x) :: st) hL2 hS2 h2 fun j G3 q3 S3 H3 L3 h3 hL3 hS3 => ?_
  have hs : Sat X.prog X.w X.K tA q3 S3 H3 ((r1, x) :: (L3 ++ st)) := hS3.perm (mid_out _ _ _)
  obtain ⟨xs, ⟨rfl, hq⟩ | ⟨rfl, hq⟩⟩ := h3
  · have ok := sat_top hs
    obtain ⟨a, vs, e1, q1, d1⟩ := dp_tup ok
    refine .inl ⟨a, vs, e1, same_t hs.ex q1, fun z => ?_, fun _ z hz => ?_⟩
    · rw [dps_len d1] at z
      rw [cut_whole z] at hq
      rw [← e1]
      exact lk _ _ _ _ _ _ _ hq hL3 hs
    · exact lk _ _ _ _ _ _ _ hq hL3 (hs.pop.tup hz (dps_cut d1 _ _))
  · obtain ⟨a, vs, e1, q1, d1⟩ := dp_lst (sat_top hs)
    exact .inr ⟨a, vs, e1, hs.ex.seq q1, fun z hz => lk _ _ _ _ _ _ _ hq hL3 (sat_new hs.pop hz (dps_cut d1 _ _))⟩
end
end Ph

set_option Elab.async false
set_option linter.all false
set_option maxRecDepth 100000
set_option maxHeartbeats 4000000
namespace Ph
open PySem L2

/-! ## enumerate(a tuple) -/
/-- the object that enumerate(..) makes over an iterator at i -/
def enO (i : Addr) : Obj := { cls := .type "enumerate", data := .fields #[.none, .bool false, .ref i, rawInt 0, .none, .none] }
set_option maxHeartbeats 8000000 in
theorem meets_en {v : Value} {o : Obj} {F : Heap → Prop} (B : Begins v o F) :
    Meets (Builtin.«enumerate.__new__» ⟨[.type "enumerate", v], []⟩)
      (fun _ R z => F z.heap ∧ R (.ok (.ret (.ref (z.heap.push o).objs.size))) { z with heap := (z.heap.push o).push (enO z.heap.objs.size) }) :=
  .of_wp fun pg wd A R z hz => by
    obtain ⟨hp, gs, dr, tk, os⟩ := z
    obtain ⟨hF, hR⟩ := hz
    have hb := sub_enumerate
    have it : ∀ {A1 : Around} {E1 : Value → Shared → Prop} {Q1 : Value → Shared → Prop}, Q1 (.ref hp.objs.size) ⟨hp.push o, gs, dr, tk, os⟩ →
        wpAny (model pg wd) A1 (pyIter v) Q1 E1 ⟨hp, gs, dr, tk, os⟩ := fun q => B.iter pg wd _ _ ⟨hp, gs, dr, tk, os⟩ _ hF q
    wp_walk using it
    refine wpAny_stack_any fun _ => wpAny_pure ?_
    split
    · rename_i c _ _ _ _ _
      cases (c == Value.type "enumerate") <;> (wp_walk using it; exact ⟨_, rfl, hR⟩)
    · wp_walk using it; exact ⟨_, rfl, hR⟩
section
variable {pg : Program} {wd : World} {A : Around} {E : Value → Shared → Prop} {z : Shared}
theorem call_en {v : Value} {o : Obj} {W : Heap → Prop} {Q : Value → Shared → Prop} (B : Begins v o W) (hF : W z.heap)
    (h : ∀ hp, IsEnum hp (z.heap.objs.size + 1) z.heap.objs.size 0 .none → hp.get? z.heap.objs.size = some o → (∀ b u, z.heap.get? b = some u → hp.get? b = some u) → Q (.ref (z.heap.objs.size + 1)) { z with heap := hp }) :
    wpAny (model pg wd) A (call (.type "enumerate") [v]) Q E z := by
  refine callType_new F.called_enumerate (by decide) (F.typeCall_enumerate_1 _) (F.newCall_enumerate_1 _) (fun ob => F.args_object_init_2 ob _) F.entry_enumerate_new (meets_en B) ⟨hF, ?_⟩
  have e1 : (z.heap.push o).objs.size = z.heap.objs.size + 1 := Heap.size_push ..
  have e2 : ((z.heap.push o).push (enO z.heap.objs.size)).get? (z.heap.objs.size + 1) = some (enO z.heap.objs.size) := by
    have k := Heap.get?_push_size (z.heap.push o) (o := enO z.heap.objs.size) rfl
    rw [e1] at k
    exact k
  show _ ∧ _
  rw [e1]
  exact ⟨⟨_, e2, rfl⟩, h _ e2 (Heap.get?_push_of_some _ (Heap.get?_push_size _ B.free)) fun b u x => Heap.get?_push_of_some _ (Heap.get?_push_of_some _ x)⟩
end
/-- the tuple at a, each item in a new pair -/
def ItE (K : PySem.W.Frag) (a : Addr) : It where
  go := fun i H => ∃ (xs : List V) (x : V), SqT K H a xs ∧ xs[i]? = some x
  yld := fun i H v H' => ∃ T x, v = .ref T ∧ H T = none ∧ H' = upd H T (.tup [.int (i : Nat), x]) ∧ ∀ xs, SqT K H a xs → xs[i]? = some x
  stop := fun i H => ∃ xs : List V, SqT K H a xs ∧ xs.length = i
theorem turn_en {pg : Program} {wd : World} {K : PySem.W.Frag} {ns : List Expr} {j : Nat} {tp : Pos} (a e it : Addr) (hae : a ≠ e) (hai : a ≠ it) :
    Turn pg wd K (.Tuple ns j tp) (ItE K a) [e, it] e (fun i h => (∃ old, IsEnum h e it ((i : Nat) : Int) old) ∧ h.IsTupleIter it a i ∧ e ≠ it) := by
  refine ⟨by simp, fun i h st b hb => ?_, fun i h h' st k => ?_, ?_, ?_, fun A i z Q E st q => ?_⟩
  · obtain ⟨⟨old, he⟩, ⟨o, ho, _, hd⟩, _⟩ := st
    rcases List.mem_cons.mp hb with rfl | hb
    · exact ⟨_, he, fun v q => nomatch q⟩
    · rw [List.mem_singleton.mp hb]
      exact ⟨o, ho, fun v q => by rw [hd] at q; cases q⟩
  · obtain ⟨⟨old, he⟩, hi, hne⟩ := st
    exact ⟨⟨old, k e (by simp) _ he⟩, hi.at fun o q => k it (by simp) o q, hne⟩
  · intro X h1 h2 h3 hc i pins s σ H E I hf st hg
    subst h1 h2 h3
    obtain ⟨⟨old, he⟩, hit, hne⟩ := st
    obtain ⟨xs, x, hq, hx⟩ := hg
    obtain ⟨its, rv, tp', hz⟩ := I.tuple hq
    obtain ⟨u, hu, ru⟩ := rv.get hx
    have le : e < s.heap.objs.size := Heap.lt_size he
    have li : it < s.heap.objs.size := by obtain ⟨_, q, _⟩ := hit; exact Heap.lt_size q
    have D := Draws.tuple (prog := X.prog) (w := X.w) (A := X.A.in1) (I.ok.hd hc) it a hai its.toArray
    have hlt : i < its.toArray.size := by
      have := (List.getElem?_eq_some_iff.mp hu).1
      simpa using this
    refine wpAny_pyNext_enum_itemC D he ⟨hit, tp'⟩ hlt hne (by simp only [List.mem_cons, List.mem_singleton, List.not_mem_nil, or_false, not_or]; exact ⟨hne, fun z => hae z.symm⟩) fun y h' tk hy ho hst hT hsz hk => ?_
    have ey : y = u := by
      have e1 : its.toArray[i]? = some u := by simpa using hu
      rw [e1] at hy
      exact (Option.some.inj hy).symm
    subst ey
    refine ⟨_, rfl, wpAny_letOwnedTupleGo_enum (s := { s with heap := h', toks := tk + 1 }) ho fun h2 he2 sb => ?_⟩
    have kp : ∀ b ob, b ∉ [e, it] → s.heap.get? b = some ob → h2.get? b = some ob := fun b ob hb q =>
      (sb.2 b fun z => hb (by simp [z])).trans (hk b ob (fun z => hb (by simp [z])) (fun z => hb (by simp [z])) q)
    have hT2 : h2.get? s.heap.objs.size = some { cls := .type "tuple", data := .seq #[.int i tk, y] } := (sb.2 _ (Nat.ne_of_gt le)).trans hT
    have new : ObjOk X.prog X.w (upd H s.heap.objs.size (.tup [.int (i : Nat), x])) h2 s.heap.objs.size (.tup [.int (i : Nat), x]) :=
      ⟨le_line (by simp), [.int i tk, y], .cons ⟨_, rfl⟩ (.cons ru .nil), ⟨_, hT2, rfl, _, rfl⟩⟩
    have I1 := I.turnedNew (t' := tk + 1) (ch := [e, it]) kp hf (Nat.le_refl _) new
    have e1 : ((i + 1 : Nat) : Int) = (i : Int) + 1 := by omega
    refine ⟨.ref s.heap.objs.size, _, I1, rfl, ⟨_, x, rfl, I.hok.fresh (Nat.le_refl _), rfl, fun ys hy' => by rw [I.tuple_inj hy' hq]; exact hx⟩, ⟨⟨y, ?_⟩, hst.1.at fun o q => (sb.2 it (Ne.symm hne)).trans q, hne⟩, fun b hb => ?_⟩
    · rw [e1]
      exact he2
    · have lb : b < s.heap.objs.size := by
        rcases List.mem_cons.mp hb with z | z
        · rw [z]; exact le
        · rw [List.mem_singleton.mp z]; exact li
      rw [upd_ne (Nat.ne_of_lt lb)]
      exact (hf b hb).1
  · intro X h1 h2 h3 hc i pins s σ H E I hf st hg
    subst h1 h2 h3
    obtain ⟨⟨old, he⟩, hit, hne⟩ := st
    obtain ⟨xs, hq, hx⟩ := hg
    obtain ⟨its, rv, tp', hz⟩ := I.tuple hq
    obtain ⟨f0, f1, f2, f3, f4, f5⟩ := hf it (by simp)
    have hl := rv.length
    have D := Draws.tuple (prog := X.prog) (w := X.w) (A := X.A.in1) (I.ok.hd hc) it a hai its.toArray
    have ei : i = its.toArray.size := by rw [List.size_toArray]; omega
    subst ei
    exact wpAny_pyNext_enum_endD D he ⟨hit, tp'⟩ fun h' eb => ⟨rfl, I.turned (t' := s.toks) (fun b o hb q => eb b o hb q) f0 f1 f3 f4 f5⟩
  · obtain ⟨⟨_, he⟩, _⟩ := st
    exact wpAny_pyIter_enum he q
def iEnT (K : PySem.W.Frag) (ta : TA) : TI := fun σ H R => ta σ H fun vs H1 => ∃ a xs, vs = [.ref a] ∧ SqT K H1 a xs ∧ R (ItE K a) H1
theorem pi_en {X : Cx} {e : Expr} {ta : TA} {p pos tp : Pos} {ns : List Expr} {j : Nat} (hg : Gl X "enumerate") (hm : X.mg "enumerate" = none) (ha : PA X [e] ta) (hs : starEach [e] X.env = [(false, eval e X.env)] := by rfl) :
    PI X (.Tuple ns j tp) (.Call (.Name "enumerate" p) [e] [] pos) (iEnT X.K ta) := by
  refine ⟨fun pins s σ H R I h => PyProof.Rows.Call_ (ld_blt I hg hm PyProof.Rows.boot_enumerate (PyProof.Rows.callWith_type1 (thn (ha.run pos pins s σ H _ I h) fun us z ⟨vs, H1, I1, r1, a, xs, ex, hq, q⟩ => ?_) hs rfl))⟩
  subst ex
  obtain ⟨u, rfl, ru⟩ := vals1 r1
  cases ru
  obtain ⟨its, rv, tp', hz⟩ := I1.tuple hq
  have la : a < z.heap.objs.size := by obtain ⟨o, ho, _⟩ := tp'; exact Heap.lt_size ho
  refine call_en (begins_tuple a its.toArray) tp' fun hp he hi hk => wpAny_pyIter_enum he ?_
  have I2 : Inv X pins σ H1 { z with heap := hp } := I1.kept (t' := z.toks) hk
  refine ⟨z.heap.objs.size + 1, [z.heap.objs.size + 1, z.heap.objs.size], _, _, H1, rfl, I2, turn_en a (z.heap.objs.size + 1) z.heap.objs.size (Nat.ne_of_lt (Nat.lt_succ_of_lt la)) (Nat.ne_of_lt la), ⟨⟨.none, he⟩, ⟨_, hi, rfl, rfl⟩, Nat.succ_ne_self _⟩, fun b hb => ?_, q⟩
  have hle : z.heap.objs.size ≤ b := by
    rcases List.mem_cons.mp hb with y | y
    · rw [y]; exact Nat.le_succ _
    · rw [List.mem_singleton.mp y]; exact Nat.le_refl _
  exact I1.fpOk hle (I1.hok.fresh hle)
end Ph

set_option Elab.async false
set_option linter.all false
set_option maxRecDepth 100000
set_option maxHeartbeats 4000000
namespace Ph
open PySem L2

/-! ### isinstance -/
def tyD : PyData → String
  | .none => "NoneType"
  | .bool _ => "bool"
  | .int _ => "int"
  | .str _ => "str"
  | .list _ => "list"
  | .tuple _ => "tuple"
  | .dict _ => "dict"
theorem tyX_of {K : PySem.W.Frag} {S H : Hp} {v : V} {d : PyData} (ex : Same S H) (h : Dp K S v d) : TyX K H v (.type (tyD d)) := by
  cases h with
  | non => exact .base .non
  | bl b => exact .base (.bl b)
  | int i => exact .base (.int i)
  | str x => exact .base (.str x)
  | lst h1 h2 =>
    rcases h1 with (h1 | ⟨o, h1⟩) | ⟨o, its, n, hk, hc, _⟩
    · exact .base (.lst (ex _ _ h1))
    · exact .base (.frz (ex _ _ h1))
    · exact .kList hk hc
  | tup h1 h2 =>
    rcases h1 with (h1 | ⟨o, h1⟩) | ⟨o, its, n, hk, hc, _⟩
    · exact .base (.tup (ex _ _ h1))
    · exact .fTuple (ex _ _ h1)
    · exact .kTuple hk hc
/-- isinstance(a value of d, T) -/
def isB (T : String) (d : PyData) : Bool := (kitB (tyD d) T).getD false
section
variable {X : Cx} {e a b : Expr} {t ta' tb' : ATE} {pos p p2 : Pos} {G : List Sl}
def aIsi (T : String) (t : ATE) : ATE := fun G q Q => t G q fun r G' q' => ∃ d, r = .d d ∧ Q (.d (.bool (isB T d))) G' q'
def aIsi2 (T U : String) (t : ATE) : ATE := fun G q Q => t G q fun r G' q' => ∃ d, r = .d d ∧ Q (.d (.bool (isB T d || isB U d))) G' q'
theorem kit_is {T : String} (hT : T = "int" ∨ T = "bool" ∨ T = "list" ∨ T = "tuple" ∨ T = "str") : ∀ d : PyData, (∀ kvs, d ≠ .dict kvs) → kitB (tyD d) T = some (isB T d) := by
  have key : ∀ n ∈ ["NoneType", "bool", "int", "str", "list", "tuple"], (kitB n T).isSome = true := by
    rcases hT with rfl | rfl | rfl | rfl | rfl <;> decide +kernel
  intro d hd
  have hm : tyD d ∈ ["NoneType", "bool", "int", "str", "list", "tuple"] := by
    cases d <;> first
      | exact absurd rfl (hd _)
      | simp [tyD]
  obtain ⟨x, hx⟩ := Option.isSome_iff_exists.mp (key _ hm)
  unfold isB
  rw [hx]
  rfl
theorem dp_nodict {K : PySem.W.Frag} {S : Hp} {v : V} {d : PyData} (h : Dp K S v d) : ∀ kvs, d ≠ .dict kvs := fun kvs z => by
  subst z
  cases h
theorem ae_isi {T : Str} {n : String} (hT : n = "int" ∨ n = "bool" ∨ n = "list" ∨ n = "tuple" ∨ n = "str") (hg : Gl X "isinstance") (hm : X.mg "isinstance" = none) (hgT : Gl X T) (hmT : X.mg T = none) (hv : bootBuiltins T = some (.type n)) (he : AE X e t)
    (hnT : T ≠ "__name__" := by decide) (hdT : (T == ("__debug__" : Str)) = false := by decide)
    (hs : starEach [e, .Name T p2] X.env = (false, eval e X.env) :: starEach [.Name T p2] X.env := by rfl) (hs2 : starEach [.Name T p2] X.env = (false, eval (.Name T p2) X.env) :: starEach [] X.env := by rfl)
    (hpl : (backTo pos (starEach [.Name T p2] X.env)).any (·.1) = false := by rfl) : AE X (.Call (.Name "isinstance" p) [e, .Name T p2] [] pos) (aIsi n t) :=
  ⟨fun hL hS h lk => pe_to (pe_callB call_isi hg hm (by decide +kernel) (pa_cons pe_self (pa_cons (pe_bltn (v := .ty n) hgT hmT hv rfl hnT hdT) pa_nil hs2) hs) (by decide) (by decide) hs hpl) (he.run hL hS h fun r G q v S H L hq hl hs => by
    obtain ⟨d, rfl, hq⟩ := hq
    have ok : Dp X.K S v d := sat_top hs
    exact ⟨v, .ty n, .type (tyD d), .type n, isB n d, rfl, .ty n, tyX_of hs.ex ok, kit_ty (kit_is hT d (dp_nodict ok)), lk _ _ _ _ _ _ _ hq hl (hs.pop.push (.bl _))⟩)⟩
theorem sat_junk {P : Program} {w : World} {K : PySem.W.Frag} {ta : Addr} {q : Nn} {S H : Hp} {M : List Ent} {o : HO} {p : Addr} (h : Sat P w K ta q S H M) (hp : H p = none) : Sat P w K ta q S (upd H p o) M :=
  h.grow (Same.refl S) (h.ex.trans (same_new hp)) (same_new hp) fun _ _ _ z => z
theorem ae_isi2 {T U : Str} {n m : String} {tp : Pos} {j : Nat} {p3 : Pos} (hT : n = "int" ∨ n = "bool" ∨ n = "list" ∨ n = "tuple" ∨ n = "str") (hU : m = "int" ∨ m = "bool" ∨ m = "list" ∨ m = "tuple" ∨ m = "str") (hg : Gl X "isinstance") (hm : X.mg "isinstance" = none) (hgT : Gl X T) (hmT : X.mg T = none) (hv : bootBuiltins T = some (.type n))
    (hgU : Gl X U) (hmU : X.mg U = none) (hvU : bootBuiltins U = some (.type m)) (he : AE X e t)
    (hnT : T ≠ "__name__" := by decide) (hdT : (T == ("__debug__" : Str)) = false := by decide) (hnU : U ≠ "__name__" := by decide) (hdU : (U == ("__debug__" : Str)) = false := by decide)
    (hs : starEach [e, .Tuple [.Name T p2, .Name U p3] j tp] X.env = (false, eval e X.env) :: starEach [.Tuple [.Name T p2, .Name U p3] j tp] X.env := by rfl) (hs2 : starEach [.Tuple [.Name T p2, .Name U p3] j tp] X.env = (false, eval (.Tuple [.Name T p2, .Name U p3] j tp) X.env) :: starEach [] X.env := by rfl)
    (hs3 : starEach [.Name T p2, .Name U p3] X.env = (false, eval (.Name T p2) X.env) :: starEach [.Name U p3] X.env := by rfl) (hs4 : starEach [.Name U p3] X.env = (false, eval (.Name U p3) X.env) :: starEach [] X.env := by rfl)
    (hpl : (backTo pos (starEach [.Tuple [.Name T p2, .Name U p3] j tp] X.env)).any (·.1) = false := by rfl) : AE X (.Call (.Name "isinstance" p) [e, .Tuple [.Name T p2, .Name U p3] j tp] [] pos) (aIsi2 n m t) :=
  ⟨fun hL hS h lk => pe_to (pe_callB call_isiT hg hm (by decide +kernel) (pa_cons pe_self (pa_cons (pe_tup (pa_cons (pe_bltn (v := .ty n) hgT hmT hv rfl hnT hdT) (pa_cons (pe_bltn (v := .ty m) hgU hmU hvU rfl hnU hdU) pa_nil hs4) hs3)) pa_nil hs2) hs) (by decide) (by decide) hs hpl) (he.run hL hS h fun r G q v S H L hq hl hs => by
    obtain ⟨d, rfl, hq⟩ := hq
    have ok : Dp X.K S v d := sat_top hs
    refine ⟨le_line (by simp), fun z hz => ⟨v, z, _, .type (tyD d), _, isB n d || isB m d, rfl, upd_same, .cons (.ty n) (.cons (.ty m) .nil), tyX_of (hs.ex.trans (same_new hz)) ok, ?_, ?_⟩⟩
    · refine kitAny_cons (kit_ty (kit_is hT d (dp_nodict ok))) (fun h1 => ?_) fun h1 => by rw [h1]; rfl
      rw [h1]
      exact kitAny_cons (kit_ty (kit_is hU d (dp_nodict ok))) (fun h2 => by rw [kitAny_nil, h2]; rfl) fun h2 => by rw [h2]; rfl
    · exact lk _ _ _ _ _ _ _ hq hl ((sat_junk hs hz).pop.push (.bl _)))⟩

/-! ### len of an own list -/
def aLenO (i : Nat) : ATE := fun G q Q => ∃ xs, G[i]? = some (.l xs) ∧ Q (.d (.int xs.length)) G q
theorem ae_lenO (i : Nat) {x : Str} (hg : Gl X "len") (hm : X.mg "len" = none) (hN : X.N[i]? = some x := by rfl) (hv : Vis X.env.scope x := by first | exact Or.inl rfl | exact Or.inr (Or.inl rfl) | exact Or.inr (Or.inr rfl))
    (hd : (x == ("__debug__" : Str)) = false := by decide) (hcd : (x == ("__classdict__" : Str)) = false := by decide) (hs : starEach [.Name x p2] X.env = (false, eval (.Name x p2) X.env) :: starEach [] X.env := by rfl) (hpl : (backTo pos (starEach [] X.env)).any (·.1) = false := by rfl) :
    AE X (.Call (.Name "len" p) [.Name x p2] [] pos) (aLenO i) := by
  refine ⟨fun {tA q S H σ G L st Q Q'} hL hS h lk => pe_to (pe_callB call_len_seq hg hm PySem.boot_len (pa_cons (pe_var hN hv hd hcd) pa_nil hs) (by decide) (by decide) hs hpl) ?_⟩
  obtain ⟨xs, hk, h⟩ := h
  obtain ⟨v, L1, L2, e1, e2, _⟩ := hL.get hk (fun z => by cases z)
  have ok : SlOk X.prog X.w X.K tA S H (.l xs) v := hS.ok (.l xs, v) (List.mem_append_left _ (by rw [e2]; exact List.mem_append_right _ List.mem_cons_self))
  obtain ⟨a, vs, rfl, _, ha, hd⟩ := ok
  refine ⟨.ref a, e1, a, vs, rfl, .inl (.of ha), ?_⟩
  rw [dps_len hd]
  exact lk _ _ _ _ _ _ _ h hL (hS.push (.int _))
end

/-! ## targets -/
abbrev AGT := PyData → List Sl → (List Sl → Prop) → Prop
abbrev AGTs := List PyData → List Sl → (List Sl → Prop) → Prop
def tgOf (X : Cx) (tg : Expr) : TG := fun v σ H Q => ∀ pins s u, Inv X pins σ H s → RelV v u → wpAny (model X.prog X.w) X.A (assign tg X.env u) (fun _ s' => ∃ σ' H', Inv X pins σ' H' s' ∧ Q σ' H') X.xe s
theorem pg_self {X : Cx} {tg : Expr} : PG X tg (tgOf X tg) := ⟨fun pins s _ _ _ u _ I r h => h pins s u I r⟩
theorem pg_to {X : Cx} {tg : Expr} {t : TG} {v : V} {σ : L2.St} {H : Hp} {Q : L2.St → Hp → Prop} (h : PG X tg t) (x : t v σ H Q) : tgOf X tg v σ H Q := fun pins s u I r => h.run pins s σ H v u Q I r x
def tgsOf (X : Cx) (tgs : List Expr) : TGs := fun vs σ H Q => ∀ pins s us, Inv X pins σ H s → Vals vs us → wpAny (model X.prog X.w) X.A (assignInOrder ((assignEach tgs X.env).map (·.2)) us) (fun _ s' => ∃ σ' H', Inv X pins σ' H' s' ∧ Q σ' H') X.xe s
theorem pgs_self {X : Cx} {tgs : List Expr} : PGs X tgs (tgsOf X tgs) := ⟨fun pins s _ _ _ us _ I r h => h pins s us I r⟩
theorem pgs_to {X : Cx} {tgs : List Expr} {t : TGs} {vs : List V} {σ : L2.St} {H : Hp} {Q : L2.St → Hp → Prop} (h : PGs X tgs t) (x : t vs σ H Q) : tgsOf X tgs vs σ H Q := fun pins s us I r => h.run pins s σ H vs us Q I r x
/-- slots outside is stay -/
def Off (is : List Nat) (σ τ : L2.St) : Prop := τ.length = σ.length ∧ ∀ j, j ∉ is → τ[j]? = σ[j]?
theorem Off.refl (is : List Nat) (σ : L2.St) : Off is σ σ := ⟨rfl, fun _ _ => rfl⟩
theorem Off.trans {is js : List Nat} {σ τ υ : L2.St} (h : Off is σ τ) (g : Off js τ υ) : Off (is ++ js) σ υ :=
  ⟨g.1.trans h.1, fun j hj => (g.2 j fun z => hj (List.mem_append_right _ z)).trans (h.2 j fun z => hj (List.mem_append_left _ z))⟩
structure AG (X : Cx) (tg : Expr) (is : List Nat) (g : AGT) : Prop where
  run : ∀ {ta : Addr} {q : Nn} {S H : Hp} {σ : L2.St} {G : List Sl} {L st : List Ent} {v : V} {d : PyData} {Q : List Sl → Prop} {Q' : L2.St → Hp → Prop},
    SlotsE G σ L → Sat X.prog X.w X.K ta q S H ((.d d, v) :: (L ++ st)) → g d G Q → (∀ G' σ' L', Q G' → SlotsE G' σ' L' → Sat X.prog X.w X.K ta q S H (L' ++ st) → Off is σ σ' → Q' σ' H) → tgOf X tg v σ H Q'
structure AGs (X : Cx) (tgs : List Expr) (is : List Nat) (g : AGTs) : Prop where
  run : ∀ {ta : Addr} {q : Nn} {S H : Hp} {σ : L2.St} {G : List Sl} {L st : List Ent} {vs : List V} {ds : List PyData} {Q : List Sl → Prop} {Q' : L2.St → Hp → Prop},
    SlotsE G σ L → Sat X.prog X.w X.K ta q S H (L ++ st) → DpAll X.K S vs ds → g ds G Q → (∀ G' σ' L', Q G' → SlotsE G' σ' L' → Sat X.prog X.w X.K ta q S H (L' ++ st) → Off is σ σ' → Q' σ' H) → tgsOf X tgs vs σ H Q'
def agName (i : Nat) : AGT := fun d G Q => Q (G.set i (.d d))
def agTup (n : Nat) (g : AGTs) : AGT := fun d G Q => ∃ ds, d = .tuple ds ∧ ds.length = n ∧ g ds G Q
def agNil : AGTs := fun ds G Q => ds = [] ∧ Q G
def agCons (g : AGT) (u : AGTs) : AGTs := fun ds G Q => ∃ d r, ds = d :: r ∧ g d G fun G' => u r G' Q
section
variable {X : Cx} {pos : Pos}
/-- the top of the stack goes to a slot -/
theorem slot_put {P : Program} {w : World} {K : PySem.W.Frag} {ta : Addr} {q : Nn} {S H : Hp} {σ : L2.St} {G : List Sl} {L st : List Ent} {v : V} {k : Sl} {i : Nat} (hL : SlotsE G σ L) (hi : i < σ.length) (hS : Sat P w K ta q S H ((k, v) :: (L ++ st))) :
    ∃ L', SlotsE (G.set i k) (σ.set i (some v)) L' ∧ Sat P w K ta q S H (L' ++ st) := by
  obtain ⟨L1, L2, a, b⟩ := hL.set k v (i := i) (by rw [hL.len]; exact hi)
  refine ⟨_, a, hS.sub ?_⟩
  have p : (L1 ++ (k, v) :: L2 ++ st).Perm ((k, v) :: (L1 ++ L2 ++ st)) := by
    rw [List.append_assoc, List.append_assoc]
    exact mid_in L1 (L2 ++ st) (k, v)
  exact (Sub.perm p).trans ((Sub.of (b.append_right st)).cons _)
theorem ag_name (i : Nat) {x : Str} (hN : X.N.Nodup) (hi : X.N[i]? = some x := by rfl) (hx : Loc X.env.scope x := by first | exact Or.inl rfl | exact Or.inr rfl) (hf : X.fn x = true ∨ X.env.scope.names.lookup x = some .local := by first | exact .inl rfl | exact .inr rfl | assumption) : AG X (.Name x pos) [i] (agName i) := by
  refine ⟨fun {ta q S H σ G L st v d Q Q'} hL hS h lk pins s u I r => ?_⟩
  have hil : i < σ.length := by rw [I.len]; exact (List.getElem?_eq_some_iff.mp hi).1
  obtain ⟨L', a, b⟩ := slot_put hL hil hS
  refine (pg_name hN hi hx hf).run pins s σ H v u _ I r ?_
  refine lk _ _ _ h a b ⟨by rw [List.length_set], fun j hj => ?_⟩
  rw [List.getElem?_set_ne fun z => hj (by simp [z])]
theorem ags_nil : AGs X [] [] agNil := ⟨fun {ta q S H σ G L st vs ds Q Q'} hL hS hd h lk => by
  obtain ⟨rfl, h⟩ := h
  cases hd
  exact pgs_to pgs_nil ⟨rfl, lk _ _ _ h hL hS (Off.refl _ _)⟩⟩
theorem ags_cons {e : Expr} {es : List Expr} {is js : List Nat} {g : AGT} {u : AGTs} (h1 : AG X e is g) (h2 : AGs X es js u)
    (hs : (assignEach (e :: es) X.env).map (·.2) = assign e X.env :: (assignEach es X.env).map (·.2) := by rfl) : AGs X (e :: es) (is ++ js) (agCons g u) := ⟨fun {ta q S H σ G L st vs ds Q Q'} hL hS hd h lk => by
  obtain ⟨d, r, rfl, h⟩ := h
  cases hd with
  | @cons v vr _ _ a b =>
    refine pgs_to (pgs_cons pg_self pgs_self hs) ⟨v, vr, rfl, h1.run hL (hS.push a) h fun G1 σ1 L1 q1 hL1 hS1 o1 => ?_⟩
    exact h2.run hL1 hS1 b q1 fun G2 σ2 L2 q2 hL2 hS2 o2 => lk _ _ _ q2 hL2 hS2 (o1.trans o2)⟩
theorem ag_tup {es : List Expr} {k n : Nat} {is : List Nat} {g : AGTs} (hc : X.calm = true) (h : AGs X es is g)
    (hn : (assignEach es X.env).length = n := by rfl) (hst : (assignEach es X.env).findIdx? (·.1) = none := by rfl) : AG X (.Tuple es k pos) is (agTup n g) := ⟨fun {ta q S H σ G L st v d Q Q'} hL hS hg lk => by
  obtain ⟨ds, rfl, hl, hg⟩ := hg
  obtain ⟨a, xs, rfl, h1, h2⟩ := dp_tup (sat_top hS)
  exact pg_to (pg_tup hc pgs_self hn hst) ⟨a, xs, rfl, same_t hS.ex h1, by rw [dps_len h2]; exact hl, h.run hL hS.pop h2 hg lk⟩⟩
end

/-! ## what is walked -/
abbrev ATI := List Sl → Nn → (List PyData → List Sl → Nn → Prop) → Prop
def WalkOk (K : PySem.W.Frag) (M : List (PyData × V)) (J : It) (ds : List PyData) : Prop :=
  ∀ S H, Same S H → (∀ p ∈ M, Dp K S p.2 p.1) → (∀ i, i < ds.length → J.go i H) ∧ J.stop ds.length H ∧
    ∀ i d x H', ds[i]? = some d → J.yld i H x H' → (H' = H ∧ Dp K S x d) ∨ ∃ T u v d1 d2, x = .ref T ∧ H T = none ∧ H' = upd H T (.tup [u, v]) ∧ d = .tuple [d1, d2] ∧ Dp K S u d1 ∧ Dp K S v d2
def ents (M : List (PyData × V)) : List Ent := M.map fun p => (Sl.d p.1, p.2)
def tiOf (X : Cx) (tg iter : Expr) : TI := fun σ H R => ∀ pins s, Inv X pins σ H s → wpAny (model X.prog X.w) X.A (eval iter X.env) (fun v s1 => wpAny (model X.prog X.w) X.A (pyIter v) (PIE X pins σ tg R) X.xe s1) X.xe s
theorem pi_self {X : Cx} {tg iter : Expr} : PI X tg iter (tiOf X tg iter) := ⟨fun pins s _ _ _ I h => h pins s I⟩
theorem pi_to {X : Cx} {tg iter : Expr} {t : TI} {σ : L2.St} {H : Hp} {R : It → Hp → Prop} (h : PI X tg iter t) (x : t σ H R) : tiOf X tg iter σ H R := fun pins s I => h.run pins s σ H R I x
structure AI (X : Cx) (tg iter : Expr) (t : ATI) : Prop where
  run : ∀ {ta : Addr} {q : Nn} {S H : Hp} {σ : L2.St} {G : List Sl} {L st : List Ent} {Q : List PyData → List Sl → Nn → Prop} {R : It → Hp → Prop},
    SlotsE G σ L → Sat X.prog X.w X.K ta q S H (L ++ st) → t G q Q →
    (∀ ds G q J M S H L, Q ds G q → SlotsE G σ L → Sat X.prog X.w X.K ta q S H (ents M ++ (L ++ st)) → WalkOk X.K M J ds → R J H) → tiOf X tg iter σ H R
section
variable {X : Cx} {tg e a b : Expr} {t u : ATE} {pos p : Pos} {K : PySem.W.Frag}
theorem get_some {α : Type} {l : List α} {i : Nat} (h : i < l.length) : ∃ x, l[i]? = some x := ⟨l[i], by simp [h]⟩
theorem walk_lst {a : Addr} {ds : List PyData} : WalkOk K [(.list ds, .ref a)] (Itl K a) ds := fun S H ex hM => by
  obtain ⟨b, xs, e1, h1, h2⟩ := dp_lst (hM _ List.mem_cons_self)
  cases e1
  have h1' := ex.seq h1
  have hl := dps_len h2
  refine ⟨fun i hi => ?_, ⟨xs, h1', by omega⟩, fun i d x H' hd y => ?_⟩
  · obtain ⟨x, hx⟩ := get_some (l := xs) (i := i) (by omega)
    exact ⟨xs, x, h1', hx⟩
  · obtain ⟨rfl, y⟩ := y
    obtain ⟨v, hv, dv⟩ := dps_get h2 hd
    have e2 := y xs h1'
    rw [hv] at e2
    cases e2
    exact .inl ⟨rfl, dv⟩
theorem walk_tpl {a : Addr} {ds : List PyData} : WalkOk K [(.tuple ds, .ref a)] (Itt K a) ds := fun S H ex hM => by
  obtain ⟨b, xs, e1, h1, h2⟩ := dp_tup (hM _ List.mem_cons_self)
  cases e1
  have h1' := same_t ex h1
  have hl := dps_len h2
  refine ⟨fun i hi => ?_, ⟨xs, h1', by omega⟩, fun i d x H' hd y => ?_⟩
  · obtain ⟨x, hx⟩ := get_some (l := xs) (i := i) (by omega)
    exact ⟨xs, x, h1', hx⟩
  · obtain ⟨rfl, y⟩ := y
    obtain ⟨v, hv, dv⟩ := dps_get h2 hd
    have e2 := y xs h1'
    rw [hv] at e2
    cases e2
    exact .inl ⟨rfl, dv⟩
theorem walk_rg {n : Int} : WalkOk K [] (Itr 0 n.toNat) (upTo n) := fun S H ex hM => by
  have hl : (upTo n).length = n.toNat := by unfold upTo; rw [List.length_map, List.length_range]
  refine ⟨fun i hi => by rw [hl] at hi; exact hi, by rw [hl]; exact Nat.le_refl _, fun i d x H' hd y => ?_⟩
  obtain ⟨rfl, rfl⟩ := y
  have hi : i < (upTo n).length := (List.getElem?_eq_some_iff.mp hd).1
  rw [hl] at hi
  unfold upTo at hd
  rw [List.getElem?_map, List.getElem?_range hi] at hd
  cases hd
  rw [Int.zero_add]
  exact .inl ⟨rfl, .int _⟩
/-- (0, x), (1, y), .. -/
def numbered (ds : List PyData) : List PyData := (List.range ds.length).zipWith (fun (i : Nat) d => .tuple [.int i, d]) ds
theorem numbered_len (ds : List PyData) : (numbered ds).length = ds.length := by unfold numbered; simp
theorem numbered_get {ds : List PyData} {i : Nat} {d : PyData} (h : (numbered ds)[i]? = some d) : ∃ x, ds[i]? = some x ∧ d = .tuple [.int i, x] := by
  have hi : i < (numbered ds).length := (List.getElem?_eq_some_iff.mp h).1
  rw [numbered_len] at hi
  unfold numbered at h
  rw [List.getElem?_zipWith, List.getElem?_range hi, List.getElem?_eq_getElem hi] at h
  cases h
  exact ⟨_, List.getElem?_eq_getElem hi, rfl⟩
theorem walk_enl {a : Addr} {ds : List PyData} : WalkOk K [(.list ds, .ref a)] (Ite K a) (numbered ds) := fun S H ex hM => by
  obtain ⟨b, xs, e1, h1, h2⟩ := dp_lst (hM _ List.mem_cons_self)
  cases e1
  have h1' := ex.seq h1
  have hl := dps_len h2
  rw [numbered_len]
  refine ⟨fun i hi => ?_, ⟨xs, h1', by omega⟩, fun i d x H' hd y => ?_⟩
  · obtain ⟨x, hx⟩ := get_some (l := xs) (i := i) (by omega)
    exact ⟨xs, x, h1', hx⟩
  · obtain ⟨T, z, rfl, hT, rfl, y⟩ := y
    obtain ⟨dx, h3, rfl⟩ := numbered_get hd
    obtain ⟨v, hv, dv⟩ := dps_get h2 h3
    have e2 := y xs h1'
    rw [hv] at e2
    cases e2
    exact .inr ⟨T, _, _, _, _, rfl, hT, rfl, rfl, .int _, dv⟩
theorem walk_ent {a : Addr} {ds : List PyData} : WalkOk K [(.tuple ds, .ref a)] (ItE K a) (numbered ds) := fun S H ex hM => by
  obtain ⟨b, xs, e1, h1, h2⟩ := dp_tup (hM _ List.mem_cons_self)
  cases e1
  have h1' := same_t ex h1
  have hl := dps_len h2
  rw [numbered_len]
  refine ⟨fun i hi => ?_, ⟨xs, h1', by omega⟩, fun i d x H' hd y => ?_⟩
  · obtain ⟨x, hx⟩ := get_some (l := xs) (i := i) (by omega)
    exact ⟨xs, x, h1', hx⟩
  · obtain ⟨T, z, rfl, hT, rfl, y⟩ := y
    obtain ⟨dx, h3, rfl⟩ := numbered_get hd
    obtain ⟨v, hv, dv⟩ := dps_get h2 h3
    have e2 := y xs h1'
    rw [hv] at e2
    cases e2
    exact .inr ⟨T, _, _, _, _, rfl, hT, rfl, rfl, .int _, dv⟩
def zipD (ds es : List PyData) : List PyData := ds.zipWith (fun d e => .tuple [d, e]) es
theorem zipD_get {ds es : List PyData} {i : Nat} {d : PyData} (h : (zipD ds es)[i]? = some d) : ∃ x y, ds[i]? = some x ∧ es[i]? = some y ∧ d = .tuple [x, y] := by
  unfold zipD at h
  rw [List.getElem?_zipWith] at h
  cases h1 : ds[i]? with
  | none => rw [h1] at h; cases h
  | some x =>
    cases h2 : es[i]? with
    | none => rw [h1, h2] at h; cases h
    | some y =>
      rw [h1, h2] at h
      cases h
      exact ⟨x, y, rfl, rfl, rfl⟩
theorem walk_zl {a b : Addr} {ds es : List PyData} : WalkOk K [(.list ds, .ref a), (.list es, .ref b)] (Itz K a b) (zipD ds es) := fun S H ex hM => by
  obtain ⟨_, xs, e1, h1, h2⟩ := dp_lst (hM _ List.mem_cons_self)
  cases e1
  obtain ⟨_, ys, e1, g1, g2⟩ := dp_lst (hM _ (List.mem_cons_of_mem _ List.mem_cons_self))
  cases e1
  have h1' := ex.seq h1
  have g1' := ex.seq g1
  have hl := dps_len h2
  have gl := dps_len g2
  have zl : (zipD ds es).length = min ds.length es.length := by unfold zipD; simp
  refine ⟨fun i hi => ?_, ⟨xs, ys, h1', g1', by omega⟩, fun i d x H' hd y => ?_⟩
  · obtain ⟨x, hx⟩ := get_some (l := xs) (i := i) (by omega)
    obtain ⟨y, hy⟩ := get_some (l := ys) (i := i) (by omega)
    exact ⟨xs, ys, x, y, h1', g1', hx, hy⟩
  · obtain ⟨T, x, z, rfl, hT, rfl, y1, y2⟩ := y
    obtain ⟨dx, dy, h3, h4, rfl⟩ := zipD_get hd
    obtain ⟨v, hv, dv⟩ := dps_get h2 h3
    obtain ⟨w, hw, dw⟩ := dps_get g2 h4
    have e2 := y1 xs h1'
    rw [hv] at e2
    cases e2
    have e3 := y2 ys g1'
    rw [hw] at e3
    cases e3
    exact .inr ⟨T, _, _, _, _, rfl, hT, rfl, rfl, dv, dw⟩
theorem walk_zt {a b : Addr} {ds es : List PyData} : WalkOk K [(.tuple ds, .ref a), (.tuple es, .ref b)] (RZ.ItzT K a b) (zipD ds es) := fun S H ex hM => by
  obtain ⟨_, xs, e1, h1, h2⟩ := dp_tup (hM _ List.mem_cons_self)
  cases e1
  obtain ⟨_, ys, e1, g1, g2⟩ := dp_tup (hM _ (List.mem_cons_of_mem _ List.mem_cons_self))
  cases e1
  have h1' := same_t ex h1
  have g1' := same_t ex g1
  have hl := dps_len h2
  have gl := dps_len g2
  have zl : (zipD ds es).length = min ds.length es.length := by unfold zipD; simp
  refine ⟨fun i hi => ?_, ⟨xs, ys, h1', g1', by omega⟩, fun i d x H' hd y => ?_⟩
  · obtain ⟨x, hx⟩ := get_some (l := xs) (i := i) (by omega)
    obtain ⟨y, hy⟩ := get_some (l := ys) (i := i) (by omega)
    exact ⟨xs, ys, x, y, h1', g1', hx, hy⟩
  · obtain ⟨T, x, z, rfl, hT, rfl, y1, y2⟩ := y
    obtain ⟨dx, dy, h3, h4, rfl⟩ := zipD_get hd
    obtain ⟨v, hv, dv⟩ := dps_get h2 h3
    obtain ⟨w, hw, dw⟩ := dps_get g2 h4
    have e2 := y1 xs h1'
    rw [hv] at e2
    cases e2
    have e3 := y2 ys g1'
    rw [hw] at e3
    cases e3
    exact .inr ⟨T, _, _, _, _, rfl, hT, rfl, rfl, dv, dw⟩
/-! the rules -/
def aiL (t : ATE) : ATI := fun G q Q => t G q fun r G' q' => ∃ ds, r = .d (.list ds) ∧ Q ds G' q'
def aiT (t : ATE) : ATI := fun G q Q => t G q fun r G' q' => ∃ ds, r = .d (.tuple ds) ∧ Q ds G' q'
theorem ai_l (h : AE X e t) : AI X tg e (aiL t) := ⟨fun hL hS hq lk => pi_to (pi_list pe_self) (h.run hL hS hq fun r G q v S H L hq hl hs => by
  obtain ⟨ds, rfl, hq⟩ := hq
  obtain ⟨a, xs, rfl, h1, h2⟩ := dp_lst (sat_top hs)
  exact ⟨a, rfl, ⟨xs, hs.ex.seq h1⟩, lk ds G q _ [(.list ds, .ref a)] S H L hq hl hs walk_lst⟩)⟩
theorem ai_t (h : AE X e t) : AI X tg e (aiT t) := ⟨fun hL hS hq lk => pi_to (pi_tup pe_self) (h.run hL hS hq fun r G q v S H L hq hl hs => by
  obtain ⟨ds, rfl, hq⟩ := hq
  obtain ⟨a, xs, rfl, h1, h2⟩ := dp_tup (sat_top hs)
  exact ⟨a, rfl, ⟨xs, same_t hs.ex h1⟩, lk ds G q _ [(.tuple ds, .ref a)] S H L hq hl hs walk_tpl⟩)⟩
def aiR (t : ATE) : ATI := fun G q Q => t G q fun r G' q' => ∃ n, r = .d (.int n) ∧ 0 ≤ n ∧ n ≤ 1000000 ∧ Q (upTo n) G' q'
theorem ai_r (hg : Gl X "range") (hm : X.mg "range" = none) (h : AE X e t) (hs : starEach [e] X.env = [(false, eval e X.env)] := by rfl) : AI X tg (.Call (.Name "range" p) [e] [] pos) (aiR t) :=
  ⟨fun hL hS hq lk => pi_to (pi_range1 hg hm (pa_cons pe_self pa_nil hs) hs) (h.run hL hS hq fun r G q v S H L hq hl hs => by
    obtain ⟨n, rfl, h0, h1, hq⟩ := hq
    exact ⟨n, by rw [dp_int (sat_top hs)], by omega, by omega, lk (upTo n) G q _ [] S H L hq hl hs.pop walk_rg⟩)⟩
def aiEL (t : ATE) : ATI := fun G q Q => t G q fun r G' q' => ∃ ds, r = .d (.list ds) ∧ Q (numbered ds) G' q'
def aiET (t : ATE) : ATI := fun G q Q => t G q fun r G' q' => ∃ ds, r = .d (.tuple ds) ∧ Q (numbered ds) G' q'
theorem ai_el {ns : List Expr} {j : Nat} {tp : Pos} (hg : Gl X "enumerate") (hm : X.mg "enumerate" = none) (h : AE X e t) (hs : starEach [e] X.env = [(false, eval e X.env)] := by rfl) : AI X (.Tuple ns j tp) (.Call (.Name "enumerate" p) [e] [] pos) (aiEL t) :=
  ⟨fun hL hS hq lk => pi_to (pi_enum hg hm (pa_cons pe_self pa_nil hs) hs) (h.run hL hS hq fun r G q v S H L hq hl hs => by
    obtain ⟨ds, rfl, hq⟩ := hq
    obtain ⟨a, xs, rfl, h1, h2⟩ := dp_lst (sat_top hs)
    exact ⟨a, xs, rfl, hs.ex.seq h1, lk _ G q _ [(.list ds, .ref a)] S H L hq hl hs walk_enl⟩)⟩
theorem ai_et {ns : List Expr} {j : Nat} {tp : Pos} (hg : Gl X "enumerate") (hm : X.mg "enumerate" = none) (h : AE X e t) (hs : starEach [e] X.env = [(false, eval e X.env)] := by rfl) : AI X (.Tuple ns j tp) (.Call (.Name "enumerate" p) [e] [] pos) (aiET t) :=
  ⟨fun hL hS hq lk => pi_to (pi_en hg hm (pa_cons pe_self pa_nil hs) hs) (h.run hL hS hq fun r G q v S H L hq hl hs => by
    obtain ⟨ds, rfl, hq⟩ := hq
    obtain ⟨a, xs, rfl, h1, h2⟩ := dp_tup (sat_top hs)
    exact ⟨a, xs, rfl, same_t hs.ex h1, lk _ G q _ [(.tuple ds, .ref a)] S H L hq hl hs walk_ent⟩)⟩
def aiZ (t u : ATE) : ATI := fun G q Q => t G q fun r G1 q1 => u G1 q1 fun r' G2 q2 => ∃ ds es, ((r = .d (.list ds) ∧ r' = .d (.list es)) ∨ (r = .d (.tuple ds) ∧ r' = .d (.tuple es))) ∧ Q (zipD ds es) G2 q2
theorem ai_z {ns : List Expr} {j : Nat} {tp : Pos} (hg : Gl X "zip") (hm : X.mg "zip" = none) (ha : AE X a t) (hb : AE X b u) (hs : starEach [a, b] X.env = (false, eval a X.env) :: starEach [b] X.env := by rfl) (hs2 : starEach [b] X.env = (false, eval b X.env) :: starEach [] X.env := by rfl)
    (hz : (backTo pos (starEach [b] X.env)).any (·.1) = false := by rfl) : AI X (.Tuple ns j tp) (.Call (.Name "zip" p) [a, b] [] pos) (aiZ t u) :=
  ⟨fun {ta q S H σ G L st Q R} hL hS hq lk => pi_to (RZ.pi_zipA hg hm (pa_cons pe_self (pa_cons pe_self pa_nil hs2) hs) hs hz) (ha.run hL hS hq fun r G q v S H L hq hl hs => by
    refine hb.run (st := (r, v) :: st) hl (hs.perm (mid_in _ _ _)) hq fun r' G q w S H L hk hl hs => ?_
    have hs2 : Sat X.prog X.w X.K ta q S H ((r, v) :: (r', w) :: (L ++ st)) := hs.perm ((List.Perm.swap _ _ _).trans (.cons _ (mid_out _ _ _)))
    obtain ⟨ds, es, ⟨rfl, rfl⟩ | ⟨rfl, rfl⟩, hk⟩ := hk
    · obtain ⟨a, xs, rfl, h1, h2⟩ := dp_lst (sat_top hs2)
      obtain ⟨b, ys, rfl, g1, g2⟩ := dp_lst (sat_snd hs2)
      exact ⟨a, b, xs, ys, rfl, .inl ⟨hs2.ex.seq h1, hs2.ex.seq g1, lk _ G q _ [(.list ds, .ref a), (.list es, .ref b)] S H L hk hl hs2 walk_zl⟩⟩
    · obtain ⟨a, xs, rfl, h1, h2⟩ := dp_tup (sat_top hs2)
      obtain ⟨b, ys, rfl, g1, g2⟩ := dp_tup (sat_snd hs2)
      exact ⟨a, b, xs, ys, rfl, .inr ⟨same_t hs2.ex h1, same_t hs2.ex g1, lk _ G q _ [(.tuple ds, .ref a), (.tuple es, .ref b)] S H L hk hl hs2 walk_zt⟩⟩)⟩
end
end Ph

set_option Elab.async false
set_option linter.all false
set_option maxRecDepth 100000
set_option maxHeartbeats 4000000
namespace Ph
open PySem L2

/-! ## comprehensions -/
theorem wipe_get (σ : L2.St) : ∀ (vs : List Nat) (i : Nat), (L2.wipe σ vs)[i]? = if i ∈ vs then (if i < σ.length then some none else none) else σ[i]?
  | [], i => by simp [L2.wipe]
  | v :: vs, i => by
    have ih := wipe_get σ vs i
    unfold L2.wipe
    by_cases h : v = i
    · subst h
      rw [if_pos (List.mem_cons_self)]
      by_cases hl : v < σ.length
      · rw [List.getElem?_set_self (by rw [wipe_length]; exact hl), if_pos hl]
      · rw [if_neg hl]
        exact List.getElem?_eq_none (by rw [List.length_set, wipe_length]; omega)
    · rw [List.getElem?_set_ne h, ih]
      by_cases h2 : i ∈ vs
      · rw [if_pos h2, if_pos (List.mem_cons_of_mem _ h2)]
      · rw [if_neg h2, if_neg]
        intro z
        rcases List.mem_cons.mp z with z | z
        · exact h z.symm
        · exact h2 z
theorem wipe_off {σ τ : L2.St} {vs is : List Nat} (h : Off is (L2.wipe σ vs) τ) (hs : ∀ i ∈ is, i ∈ vs) : L2.wipe τ vs = L2.wipe σ vs := by
  apply List.ext_getElem?
  intro i
  rw [wipe_get, wipe_get]
  have hl : τ.length = σ.length := h.1.trans (wipe_length σ vs)
  by_cases hi : i ∈ vs
  · rw [if_pos hi, if_pos hi, hl]
  · rw [if_neg hi, if_neg hi, h.2 i fun z => hi (hs i z), wipe_get, if_neg hi]
theorem unwipe_of {G : List Sl} {σ : L2.St} {vs : List Nat} {L : List Ent} (h : SlotsE G (L2.wipe σ vs) L) : SlotsE G σ L :=
  h.unwipe (wipe_length σ vs).symm fun i v e => (wipe_some e).1

def aYes : ATT := fun G q Q => Q true G q
def aLc (ti : ATI) (g : AGT) (tt : ATT) (te : ATE) (vs : List Nat) : ATE := fun G q Q => ti G q fun ds G1 q1 => ds.length ≤ 1000000 ∧ ∃ I : Nat → List PyData → List Sl → Nn → Prop, I 0 [] (wipeG G1 vs) q1 ∧
  (∀ i d acc G q, ds[i]? = some d → I i acc G q → g d G fun G' => tt G' q fun b G2 q2 =>
    (b = true → te G2 q2 fun r G3 q3 => ∃ x, r = .d x ∧ I (i + 1) (acc ++ [x]) (wipeG G3 vs) q3) ∧ (b = false → I (i + 1) acc (wipeG G2 vs) q2)) ∧
  (∀ acc G q, I ds.length acc G q → Q (.l acc) G q)
/-- between two turns -/
def LcSt (X : Cx) (ta : Addr) (σ : L2.St) (vs : List Nat) (st : List Ent) (M : List (PyData × V)) (D : Addr) (I : Nat → List PyData → List Sl → Nn → Prop) (i : Nat) (H : Hp) : Prop :=
  ∃ acc G q S L, I i acc G q ∧ acc.length ≤ i ∧ SlotsE G (L2.wipe σ vs) L ∧ Sat X.prog X.w X.K ta q S H ((.l acc, .ref D) :: (ents M ++ (L ++ st)))
theorem ents_dp {P : Program} {w : World} {K : PySem.W.Frag} {ta : Addr} {q : Nn} {S H : Hp} {M : List (PyData × V)} {A : List Ent} (h : Sat P w K ta q S H A) (hm : ∀ p ∈ ents M, p ∈ A) : ∀ p ∈ M, Dp K S p.2 p.1 := fun p hp =>
  h.ok (.d p.1, p.2) (hm _ (List.mem_map.mpr ⟨p, hp, rfl⟩))
theorem lc_go {X : Cx} {ta : Addr} {σ : L2.St} {vs : List Nat} {st : List Ent} {M : List (PyData × V)} {D : Addr} {J : It} {ds : List PyData} {I : Nat → List PyData → List Sl → Nn → Prop} {g : TG} {tt : TT} {te : TE} {Q' : VK}
    (hw : WalkOk X.K M J ds)
    (step : ∀ i d x S H G q acc L, ds[i]? = some d → I i acc G q → acc.length ≤ i → SlotsE G (L2.wipe σ vs) L → Sat X.prog X.w X.K ta q S H ((.d d, x) :: (.l acc, .ref D) :: (ents M ++ (L ++ st))) →
      g x (L2.wipe σ vs) H fun σ2 H2 => L2.wipe σ2 vs = L2.wipe σ vs ∧ tt σ2 H2 fun b H3 => if b = true then te σ2 H3 fun y H4 => ∃ acc, H4 D = some (.lst acc) ∧ acc.length < sizeLine ∧ LcSt X ta σ vs st M D I (i + 1) (upd H4 D (.lst (acc ++ [y]))) else LcSt X ta σ vs st M D I (i + 1) H3)
    (fin : ∀ H, LcSt X ta σ vs st M D I ds.length H → Q' (.ref D) H) {H1 : Hp} (h0 : LcSt X ta σ vs st M D I 0 (upd H1 D (.lst []))) :
    ∃ W : Nat → Nat → Hp → Prop, (∃ m, W 0 m (upd H1 D (.lst []))) ∧ ∀ i m H, W i m H → (J.stop i H ∧ Q' (.ref D) H) ∨ (J.go i H ∧ ∃ Nx : Hp → Prop, (∀ H', Nx H' → ∃ m', m' < m ∧ W (i + 1) m' H') ∧ ∀ x H', J.yld i H x H' → g x (L2.wipe σ vs) H' fun σ2 H2 => L2.wipe σ2 vs = L2.wipe σ vs ∧ tt σ2 H2 fun b H3 =>
      if b = true then te σ2 H3 fun y H4 => ∃ acc, H4 D = some (.lst acc) ∧ acc.length < sizeLine ∧ Nx (upd H4 D (.lst (acc ++ [y]))) else Nx H3) := by
  refine ⟨fun i m H => m = ds.length - i ∧ i ≤ ds.length ∧ LcSt X ta σ vs st M D I i H, ⟨_, rfl, Nat.zero_le _, h0⟩, ?_⟩
  rintro i m H ⟨rfl, hi, hst⟩
  obtain ⟨acc, G, q, S, L, hI, hacc, hL, hS⟩ := id hst
  have hM := ents_dp hS fun p hp => List.mem_cons_of_mem _ (List.mem_append_left _ hp)
  obtain ⟨w1, w2, w3⟩ := hw S H hS.ex hM
  by_cases hlt : i < ds.length
  · refine .inr ⟨w1 i hlt, LcSt X ta σ vs st M D I (i + 1), fun H' h' => ⟨ds.length - (i + 1), by omega, rfl, hlt, h'⟩, fun x H' y => ?_⟩
    obtain ⟨d, hd⟩ := get_some hlt
    rcases w3 i d x H' hd y with ⟨rfl, dx⟩ | ⟨T, u, v, d1, d2, rfl, hT, rfl, rfl, du, dv⟩
    · exact step i d x S _ G q acc L hd hI hacc hL (hS.push dx)
    · exact step i _ _ _ _ G q acc L hd hI hacc hL (hS.tup hT (.cons du (dps_one dv)))
  · have e : i = ds.length := by omega
    subst e
    exact .inl ⟨w2, fin H hst⟩
section
variable {X : Cx} {elt tg iter e : Expr} {scope : Scope} {own : List (Str × Nat)} {pos : Pos} {ti : ATI} {g : AGT} {te t : ATE} {tt : ATT} {is : List Nat} {c : Expr}
/-- every context of the comprehension's block -/
abbrev Blk (X : Cx) (scope : Scope) (F : Cx → Prop) : Prop := ∀ (s : Shared) (H : Hp) (C : Addr) (cl : List (Str × Addr)) (fp : List Addr), F (X.blk s H scope (compEnvC scope cl C X.env) fp)
def tgB (X : Cx) (scope : Scope) (tg : Expr) : TG := fun v σ H Q => ∀ (s : Shared) (H0 : Hp) (C : Addr) (cl : List (Str × Addr)) (fp : List Addr), tgOf (X.blk s H0 scope (compEnvC scope cl C X.env) fp) tg v σ H Q
def teB (X : Cx) (scope : Scope) (e : Expr) : TE := fun σ H Q => ∀ (s : Shared) (H0 : Hp) (C : Addr) (cl : List (Str × Addr)) (fp : List Addr), teOf (X.blk s H0 scope (compEnvC scope cl C X.env) fp) e σ H Q
def ttB (X : Cx) (scope : Scope) (e : Expr) : TT := fun σ H Q => ∀ (s : Shared) (H0 : Hp) (C : Addr) (cl : List (Str × Addr)) (fp : List Addr), ttOf (X.blk s H0 scope (compEnvC scope cl C X.env) fp) e σ H Q
/-- the tests of a clause -/
def TtOk (X : Cx) (tt : TT) (u : ATT) : Prop := ∀ {ta : Addr} {q : Nn} {S H : Hp} {σ : L2.St} {G : List Sl} {L st : List Ent} {Q : Bool → List Sl → Nn → Prop} {Q' : Bool → Hp → Prop},
    SlotsE G σ L → Sat X.prog X.w X.K ta q S H (L ++ st) → u G q Q → LkT X ta σ st Q Q' → tt σ H Q'
theorem lc_run {tt' : TT} {ta : Addr} {q : Nn} {S H : Hp} {σ : L2.St} {G : List Sl} {L st : List Ent} {Q : Sl → List Sl → Nn → Prop} {Q' : VK} (hi : AI X tg iter ti) (hg : Blk X scope fun Y => AG Y tg is g) (ht : TtOk X tt' tt) (he : Blk X scope fun Y => AE Y elt te)
    (his : ∀ i ∈ is, i ∈ own.map (·.2)) (hL : SlotsE G σ L) (hS : Sat X.prog X.w X.K ta q S H (L ++ st)) (h : aLc ti g tt te (own.map (·.2)) G q Q) (lk : Lk X ta σ st Q Q') :
    tLc (tiOf X tg iter) (tgB X scope tg) tt' (teB X scope elt) (own.map (·.2)) σ H Q' := by
  refine hi.run hL hS h fun ds G1 q1 J M S1 H1 L1 h1 hL1 hS1 hw => ?_
  obtain ⟨hlen, I, i0, istep, iend⟩ := h1
  intro D hD
  refine lc_go (I := I) (ta := ta) (st := st) (M := M) hw (fun i d x S H G q acc L hd hI hacc hL hS => ?_) (fun H hst => ?_) ?_
  · intro s0 H0 C cl fp
    have p1 : ((Sl.d d, x) :: (L ++ ((Sl.l acc, V.ref D) :: (ents M ++ st)))).Perm ((Sl.d d, x) :: (Sl.l acc, V.ref D) :: (ents M ++ (L ++ st))) := by
      refine .cons _ ((mid_in L (ents M ++ st) _).trans (.cons _ ?_))
      rw [← List.append_assoc, ← List.append_assoc]
      exact (List.perm_append_comm).append_right st
    refine (hg s0 H0 C cl fp).run hL (hS.perm p1) (istep i d acc G q hd hI) fun G2 σ2 L2 h2 hL2 hS2 off => ?_
    have hwp := wipe_off off his
    have hil : i < ds.length := (List.getElem?_eq_some_iff.mp hd).1
    refine ⟨hwp, ht hL2 hS2 h2 fun b G3 q3 S3 H3 L3 h3 hL3 hS3 => ?_⟩
    have p2 : ∀ L4 : List Ent, ((Sl.l acc, V.ref D) :: (ents M ++ (L4 ++ st))).Perm (L4 ++ ((Sl.l acc, V.ref D) :: (ents M ++ st))) := fun L4 => by
      refine List.Perm.trans (.cons _ ?_) (mid_out L4 (ents M ++ st) _)
      rw [← List.append_assoc, ← List.append_assoc]
      exact (List.perm_append_comm).append_right st
    cases b with
    | true =>
      refine iteT fun s0 H0 C cl fp => (he s0 H0 C cl fp).run hL3 hS3 (h3.1 rfl) fun r G4 q4 y S4 H4 L4 h4 hL4 hS4 => ?_
      obtain ⟨z, rfl, hI4⟩ := h4
      have hS5 : Sat X.prog X.w X.K ta q4 S4 H4 ((Sl.l acc, V.ref D) :: (Sl.d z, y) :: (ents M ++ (L4 ++ st))) :=
        hS4.perm ((List.Perm.swap _ _ _).trans (.cons _ (p2 L4)))
      obtain ⟨a, accv, e1, e2, e3, e4⟩ := sat_top hS5
      cases e1
      have hy : Dp X.K S4 y z := sat_snd hS5
      refine ⟨accv, e3, lt_line (by rw [dps_len e4]; omega), acc ++ [z], wipeG G4 (own.map (·.2)), q4, S4, ?_⟩
      have hS6 := hS5.mut (k' := .l (acc ++ [z])) rfl rfl ⟨D, accv ++ [y], rfl, e2, upd_same, dps_app e4 (dps_one hy)⟩
      obtain ⟨L5, w1, w2⟩ := hL4.wipe (own.map (·.2))
      rw [hwp] at w1
      refine ⟨L5, hI4, by rw [List.length_append, List.length_singleton]; omega, w1, hS6.sub ((Sub.cons ?_ _))⟩
      refine Sub.trans ?_ (Sub.tail _)
      exact Sub.of ((w2.append_right st).append_left (ents M))
    | false =>
      refine iteF ⟨acc, wipeG G3 (own.map (·.2)), q3, S3, ?_⟩
      obtain ⟨L5, w1, w2⟩ := hL3.wipe (own.map (·.2))
      rw [hwp] at w1
      refine ⟨L5, h3.2 rfl, by omega, w1, (hS3.perm (p2 L3)).sub (Sub.cons ?_ _)⟩
      exact Sub.of ((w2.append_right st).append_left (ents M))
  · obtain ⟨acc, G, q, S, L, hI, hacc, hL, hS⟩ := hst
    refine lk _ _ _ _ _ _ _ (iend acc G q hI) (unwipe_of hL) (hS.sub (Sub.cons ?_ _))
    exact Sub.of (List.sublist_append_right _ _)
  · obtain ⟨L5, w1, w2⟩ := hL1.wipe (own.map (·.2))
    have hS2 := sat_new (ds := []) (vs := []) hS1 hD .nil
    exact ⟨[], _, q1, S1, L5, i0, Nat.le_refl _, w1, hS2.sub (Sub.cons (Sub.of ((w2.append_right st).append_left (ents M))) _)⟩
theorem pg_B : Blk X scope fun Y => PG Y tg (tgB X scope tg) := fun s0 H0 C cl fp => ⟨fun pins s σ H v u Q I r h => h s0 H0 C cl fp pins s u I r⟩
theorem pe_B : Blk X scope fun Y => PE Y elt (teB X scope elt) := fun s0 H0 C cl fp => ⟨fun pins s σ H Q I h => h s0 H0 C cl fp pins s I⟩
theorem pts_B : Blk X scope fun Y => PTs Y [c] (ttB X scope c) := fun s0 H0 C cl fp => pts_one ⟨fun pins s σ H Q I h => h s0 H0 C cl fp pins s I⟩
theorem ttOk_yes : TtOk X tYes aYes := fun hL hS h lk => lk _ _ _ _ _ _ h hL hS
theorem ttOk_B (h : Blk X scope fun Y => AT Y c tt) : TtOk X (ttB X scope c) tt := fun hL hS hq lk s0 H0 C cl fp => (h s0 H0 C cl fp).run hL hS hq lk
theorem ae_lc (hc : X.calm = true) (hN : X.N.Nodup) (hi : AI X tg iter ti) (ok : BlkOk X.N X.env.scope scope own) (hg : Blk X scope fun Y => AG Y tg is g) (he : Blk X scope fun Y => AE Y elt te)
    (his : ∀ i ∈ is, i ∈ own.map (·.2)) (hs : ∀ x, foldedSetIterable iter X.env x = pure x := by intro _; rfl) : AE X (.ListComp elt [⟨tg, iter, [], 0⟩] scope pos) (aLc ti g aYes te (own.map (·.2))) :=
  ⟨fun hL hS h lk => pe_to (pe_lc hc hN pi_self ok pg_B (fun _ _ _ _ _ => pts_nil) pe_B hs) (lc_run hi hg ttOk_yes he his hL hS h lk)⟩
theorem ae_lcIf (hc : X.calm = true) (hN : X.N.Nodup) (hi : AI X tg iter ti) (ok : BlkOk X.N X.env.scope scope own) (hg : Blk X scope fun Y => AG Y tg is g) (ht : Blk X scope fun Y => AT Y c tt) (he : Blk X scope fun Y => AE Y elt te)
    (his : ∀ i ∈ is, i ∈ own.map (·.2)) (hs : ∀ x, foldedSetIterable iter X.env x = pure x := by intro _; rfl) : AE X (.ListComp elt [⟨tg, iter, [c], 0⟩] scope pos) (aLc ti g tt te (own.map (·.2))) :=
  ⟨fun hL hS h lk => pe_to (pe_lc hc hN pi_self ok pg_B pts_B pe_B hs) (lc_run hi hg (ttOk_B ht) he his hL hS h lk)⟩
end

/-! ## statements -/
structure ALk (X : Cx) (ta : Addr) (st : List Ent) (D : ADs) (D' : Ends) : Prop where
  nx : ∀ G q σ S H L, D.nx G q → SlotsE G σ L → Sat X.prog X.w X.K ta q S H (L ++ st) → D'.nx σ H
  rt : ∀ r q v S H, D.rt r q → Sat X.prog X.w X.K ta q S H ((r, v) :: st) → D'.rt v H
def tsOf (X : Cx) (st : Stmt) : TS := fun D σ H => ∀ pins s, Inv X pins σ H s → wpAny (model X.prog X.w) X.A (exec st X.env) (SP X pins D) X.xe s
theorem ps_self {X : Cx} {st : Stmt} : PS X st (tsOf X st) := ⟨fun pins s _ _ _ I h => h pins s I⟩
theorem ps_to {X : Cx} {st : Stmt} {t : TS} {D : Ends} {σ : L2.St} {H : Hp} (h : PS X st t) (x : t D σ H) : tsOf X st D σ H := fun pins s I => h.run pins s σ H D I x
def tssOf (X : Cx) (st : List Stmt) : TS := fun D σ H => ∀ pins s, Inv X pins σ H s → wpAny (model X.prog X.w) X.A (execs st X.env) (SP X pins D) X.xe s
theorem pss_self {X : Cx} {st : List Stmt} : PSs X st (tssOf X st) := ⟨fun pins s _ _ _ I h => h pins s I⟩
theorem pss_to {X : Cx} {st : List Stmt} {t : TS} {D : Ends} {σ : L2.St} {H : Hp} (h : PSs X st t) (x : t D σ H) : tssOf X st D σ H := fun pins s I => h.run pins s σ H D I x
structure AS (X : Cx) (s : Stmt) (t : ATS) : Prop where
  run : ∀ {ta : Addr} {q : Nn} {S H : Hp} {σ : L2.St} {G : List Sl} {L st : List Ent} {D : ADs} {D' : Ends}, SlotsE G σ L → Sat X.prog X.w X.K ta q S H (L ++ st) → t D G q → ALk X ta st D D' → tsOf X s D' σ H
structure ASs (X : Cx) (s : List Stmt) (t : ATS) : Prop where
  run : ∀ {ta : Addr} {q : Nn} {S H : Hp} {σ : L2.St} {G : List Sl} {L st : List Ent} {D : ADs} {D' : Ends}, SlotsE G σ L → Sat X.prog X.w X.K ta q S H (L ++ st) → t D G q → ALk X ta st D D' → tssOf X s D' σ H
section
variable {X : Cx} {e a b : Expr} {t u : ATE} {pos p : Pos} {s : Stmt} {ss : List Stmt} {ts us : ATS} {tt : ATT} {x : Str}
def aNext : ATS := fun D G q => D.nx G q
def aSeq (t u : ATS) : ATS := fun D G q => t ⟨u D, D.rt⟩ G q
theorem ass_nil : ASs X [] aNext := ⟨fun hL hS h lk => pss_to pss_nil (lk.nx _ _ _ _ _ _ h hL hS)⟩
theorem ass_cons (h1 : AS X s ts) (h2 : ASs X ss us) : ASs X (s :: ss) (aSeq ts us) := ⟨fun {ta q S H σ G L st D D'} hL hS h lk => pss_to (pss_cons ps_self pss_self)
  (h1.run hL hS h (D' := { D' with nx := tssOf X ss D' }) ⟨fun G q σ S H L h hL hS => h2.run hL hS h lk, lk.rt⟩)⟩
theorem ass_one (h1 : AS X s ts) : ASs X [s] ts := ⟨fun hL hS h lk => pss_to (pss_one ps_self) (h1.run hL hS h lk)⟩
/-- from here on the own list in slot i is data -/
def aFzS (i : Nat) (t : ATS) : ATS := fun D G q => ∃ xs, G[i]? = some (.l xs) ∧ t D (G.set i (.d (.list xs))) q
theorem ass_fz (i : Nat) (h : ASs X ss ts) : ASs X ss (aFzS i ts) := ⟨fun {ta q S H σ G L st D D'} hL hS hq lk => by
  obtain ⟨xs, hk, hq⟩ := hq
  obtain ⟨v, L1, L2, e1, e2, up⟩ := hL.get hk (fun z => by cases z)
  have e' : L ++ st = L1 ++ (Sl.l xs, v) :: (L2 ++ st) := by rw [e2]; simp
  rw [e'] at hS
  obtain ⟨S', h'⟩ := sat_frz (hS.perm (mid_out _ _ _))
  refine h.run (up _) (S := S') ?_ hq lk
  rw [List.append_assoc]
  exact h'.perm (mid_in _ _ _)⟩
def aAsg (i : Nat) (t : ATE) : ATS := fun D G q => t G q fun r G' q' => D.nx (G'.set i r) q'
theorem as_set (i : Nat) {p' : Pos} (hN : X.N.Nodup) (he : AE X e t) (hi : X.N[i]? = some x := by rfl) (hx : Loc X.env.scope x := by first | exact Or.inl rfl | exact Or.inr rfl) (hs : swapsWith e (some (.Name x p')) pos.line X.env = pure false := by rfl)
    (hf : X.fn x = true ∨ X.env.scope.names.lookup x = some .local := by first | exact .inl rfl | exact .inr rfl | assumption) : AS X (.Assign [.Name x p'] e pos) (aAsg i t) := ⟨fun {ta q S H σ G L st D D'} hL hS hq lk pins sh I => by
  have hil : i < σ.length := by rw [I.len]; exact (List.getElem?_eq_some_iff.mp hi).1
  refine ps_to (ps_set hN hi hx pe_self hs hf) ?_ pins sh I
  refine he.run hL hS hq fun r G q v S H L h hL hS => ?_
  obtain ⟨L', a, b⟩ := slot_put hL hil hS
  exact lk.nx _ _ _ _ _ _ h a b⟩
/-- a, b = e, a tuple -/
theorem as_asg {tg : Expr} {is : List Nat} {g : AGT} (he : AE X e t) (hg : AG X tg is g) (hs : swapsWithSole [tg] e pos.line X.env = pure false := by rfl) (hw : swappedStores [tg] e X.env = pure none := by rfl)
    (h1 : (assignEach [tg] X.env).map (·.2) = [assign tg X.env] := by rfl) : AS X (.Assign [tg] e pos) (fun D G q => t G q fun r G' q' => ∃ d, r = .d d ∧ g d G' fun G2 => D.nx G2 q') := ⟨fun {ta q S H σ G L st D D'} hL hS hq lk =>
  ps_to (ps_asg pe_self pg_self hs hw h1) (he.run hL hS hq fun r G q v S H L h hL hS => by
    obtain ⟨d, rfl, h⟩ := h
    exact hg.run hL hS h fun G' σ' L' h hL hS _ => lk.nx _ _ _ _ _ _ h hL hS)⟩
theorem aas_two {rs : List Sl} {vs : List V} {v1 v2 : V} (h : rs.length = vs.length) (e : vs = [v1, v2]) : ∃ r1 r2, rs = [r1, r2] := by
  subst e
  match rs, h with
  | [r1, r2], _ => exact ⟨r1, r2, rfl⟩
def aPar (i j : Nat) (ta : ATA) : ATS := fun D G q => ta G q fun rs G' q' => ∃ r1 r2, rs = [r1, r2] ∧ D.nx ((G'.set i r1).set j r2) q'
theorem as_par (i j : Nat) {tr : ATA} {y : Str} {px py pt : Pos} {kt k2 : Nat} {pt2 : Pos} (hc : X.calm = true) (hN : X.N.Nodup) (ha : AA X [a, b] tr) (hij : i ≠ j) (hi : X.N[i]? = some x := by rfl) (hj : X.N[j]? = some y := by rfl)
    (hx : X.env.scope.names.lookup x = some .local := by rfl) (hy : X.env.scope.names.lookup y = some .local := by rfl)
    (hw : swappedStores [.Tuple [.Name x px, .Name y py] kt pt] (.Tuple [a, b] k2 pt2) X.env = pure (some [x, y]) := by rfl)
    (hs : swapsWithSole [.Tuple [.Name x px, .Name y py] kt pt] (.Tuple [a, b] k2 pt2) pos.line X.env = pure false := by rfl) : AS X (.Assign [.Tuple [.Name x px, .Name y py] kt pt] (.Tuple [a, b] k2 pt2) pos) (aPar i j tr) := ⟨fun {ta q S H σ G L st D D'} hL hS hq lk pins sh I => by
  have hil : i < σ.length := by rw [I.len]; exact (List.getElem?_eq_some_iff.mp hi).1
  have hjl : j < σ.length := by rw [I.len]; exact (List.getElem?_eq_some_iff.mp hj).1
  refine ps_to (ps_par hc hN hi hj hij hx hy pa_self hw hs) ?_ pins sh I
  refine ha.run hL hS hq fun rs G q vs S H L h hlen hL hS => ?_
  obtain ⟨r1, r2, rfl, h⟩ := h
  match vs, hlen, hS with
  | [v1, v2], _, hS =>
    have hS : Sat X.prog X.w X.K ta q S H ((r1, v1) :: (r2, v2) :: (L ++ st)) := hS
    refine ⟨v1, v2, rfl, ?_⟩
    have hS2 : Sat X.prog X.w X.K ta q S H ((r1, v1) :: (L ++ (r2, v2) :: st)) := hS.perm (.cons _ (mid_in _ _ _))
    obtain ⟨L', a, b⟩ := slot_put hL hil hS2
    obtain ⟨L'', a2, b2⟩ := slot_put (st := st) a (by rw [List.length_set]; exact hjl) (b.perm (mid_out _ _ _))
    exact lk.nx _ _ _ _ _ _ h a2 b2⟩
def aPar3 (i j l : Nat) (ta : ATA) : ATS := fun D G q => ta G q fun rs G' q' => ∃ r1 r2 r3, rs = [r1, r2, r3] ∧ D.nx (((G'.set i r1).set j r2).set l r3) q'
theorem put3 {ta : Addr} {q : Nn} {S H : Hp} {σ : L2.St} {G : List Sl} {L st : List Ent} {i j l : Nat} {r1 r2 r3 : Sl} {v1 v2 v3 : V} (hL : SlotsE G σ L) (hi : i < σ.length) (hj : j < σ.length) (hl : l < σ.length)
    (hS : Sat X.prog X.w X.K ta q S H ((r1, v1) :: (r2, v2) :: (r3, v3) :: (L ++ st))) : ∃ L', SlotsE (((G.set i r1).set j r2).set l r3) (((σ.set i (some v1)).set j (some v2)).set l (some v3)) L' ∧ Sat X.prog X.w X.K ta q S H (L' ++ st) := by
  have hS2 : Sat X.prog X.w X.K ta q S H ((r1, v1) :: (L ++ (r2, v2) :: (r3, v3) :: st)) := hS.perm (.cons _ ((mid_in _ _ _).trans (.cons _ (mid_in _ _ _))))
  obtain ⟨L1, a, b⟩ := slot_put hL hi hS2
  obtain ⟨L2, a2, b2⟩ := slot_put (st := (r3, v3) :: st) a (by rw [List.length_set]; exact hj) (b.perm (mid_out _ _ _))
  exact slot_put (st := st) a2 (by rw [List.length_set, List.length_set]; exact hl) (b2.perm (mid_out _ _ _))
theorem as_par3 (i j l : Nat) {tr : ATA} {c : Expr} {y z : Str} {px py pz pt : Pos} {kt k2 : Nat} {pt2 : Pos} (hc : X.calm = true) (hN : X.N.Nodup) (ha : AA X [a, b, c] tr) (hij : i ≠ j) (hil : i ≠ l) (hjl : j ≠ l) (hi : X.N[i]? = some x := by rfl) (hj : X.N[j]? = some y := by rfl) (hl : X.N[l]? = some z := by rfl)
    (hx : X.env.scope.names.lookup x = some .local := by rfl) (hy : X.env.scope.names.lookup y = some .local := by rfl) (hz : X.env.scope.names.lookup z = some .local := by rfl)
    (hw : swappedStores [.Tuple [.Name x px, .Name y py, .Name z pz] kt pt] (.Tuple [a, b, c] k2 pt2) X.env = pure (some [x, y, z]) := by rfl)
    (hs : swapsWithSole [.Tuple [.Name x px, .Name y py, .Name z pz] kt pt] (.Tuple [a, b, c] k2 pt2) pos.line X.env = pure false := by rfl) : AS X (.Assign [.Tuple [.Name x px, .Name y py, .Name z pz] kt pt] (.Tuple [a, b, c] k2 pt2) pos) (aPar3 i j l tr) := ⟨fun {ta q S H σ G L st D D'} hL hS hq lk pins sh I => by
  have hi' : i < σ.length := by rw [I.len]; exact (List.getElem?_eq_some_iff.mp hi).1
  have hj' : j < σ.length := by rw [I.len]; exact (List.getElem?_eq_some_iff.mp hj).1
  have hl' : l < σ.length := by rw [I.len]; exact (List.getElem?_eq_some_iff.mp hl).1
  refine ps_to (ps_par3 hc hN hi hj hl hij hil hjl hx hy hz pa_self hw hs) ?_ pins sh I
  refine ha.run hL hS hq fun rs G q vs S H L h hlen hL hS => ?_
  obtain ⟨r1, r2, r3, rfl, h⟩ := h
  match vs, hlen, hS with
  | [v1, v2, v3], _, hS =>
    refine ⟨v1, v2, v3, rfl, ?_⟩
    obtain ⟨L', a, b⟩ := put3 hL hi' hj' hl' hS
    exact lk.nx _ _ _ _ _ _ h a b⟩
/-- .. where the stores are not swapped: a tuple is made and unpacked -/
theorem as_tup2 (i j : Nat) {tr : ATA} {y : Str} {px py pt : Pos} {kt k2 : Nat} {pt2 : Pos} (hc : X.calm = true) (hN : X.N.Nodup) (ha : AA X [a, b] tr) (hi : X.N[i]? = some x := by rfl) (hj : X.N[j]? = some y := by rfl)
    (hx : Loc X.env.scope x := by first | exact Or.inl rfl | exact Or.inr rfl) (hy : Loc X.env.scope y := by first | exact Or.inl rfl | exact Or.inr rfl)
    (hw : swappedStores [.Tuple [.Name x px, .Name y py] kt pt] (.Tuple [a, b] k2 pt2) X.env = pure none := by rfl)
    (hs : swapsWithSole [.Tuple [.Name x px, .Name y py] kt pt] (.Tuple [a, b] k2 pt2) pos.line X.env = pure false := by rfl)
    (hf : X.fn x = true := by rfl) (hf2 : X.fn y = true := by rfl)
    (h1 : (assignEach [.Tuple [.Name x px, .Name y py] kt pt] X.env).map (·.2) = [assign (.Tuple [.Name x px, .Name y py] kt pt) X.env] := by rfl)
    (h2 : (assignEach [.Name x px, .Name y py] X.env).map (·.2) = assign (.Name x px) X.env :: (assignEach [.Name y py] X.env).map (·.2) := by rfl) (h3 : (assignEach [.Name y py] X.env).map (·.2) = assign (.Name y py) X.env :: (assignEach [] X.env).map (·.2) := by rfl)
    (hn : (assignEach [.Name x px, .Name y py] X.env).length = 2 := by rfl) (hst : (assignEach [.Name x px, .Name y py] X.env).findIdx? (·.1) = none := by rfl) : AS X (.Assign [.Tuple [.Name x px, .Name y py] kt pt] (.Tuple [a, b] k2 pt2) pos) (aPar i j tr) := ⟨fun {ta q S H σ G L st D D'} hL hS hq lk pins sh I => by
  have hi' : i < σ.length := by rw [I.len]; exact (List.getElem?_eq_some_iff.mp hi).1
  have hj' : j < σ.length := by rw [I.len]; exact (List.getElem?_eq_some_iff.mp hj).1
  refine ps_to (ps_asg (pe_tup pa_self) (pg_tup hc (pgs_cons (pg_name hN hi hx (.inl hf)) (pgs_cons (pg_name hN hj hy (.inl hf2)) pgs_nil h3) h2) hn hst) hs hw h1) ?_ pins sh I
  refine ha.run hL hS hq fun rs G q vs S H L h hlen hL hS => ?_
  obtain ⟨r1, r2, rfl, h⟩ := h
  match vs, hlen, hS with
  | [v1, v2], _, hS =>
    refine ⟨le_line (by simp), fun pp hp => ⟨pp, _, rfl, .of upd_same, rfl, v1, [v2], rfl, v2, [], rfl, rfl, ?_⟩⟩
    have hS : Sat X.prog X.w X.K ta q S H ((r1, v1) :: (r2, v2) :: (L ++ st)) := hS
    have hS2 : Sat X.prog X.w X.K ta q S _ ((r1, v1) :: (L ++ (r2, v2) :: st)) := (sat_junk (o := .tup [v1, v2]) hS hp).perm (.cons _ (mid_in _ _ _))
    obtain ⟨L', a, b⟩ := slot_put hL hi' hS2
    obtain ⟨L'', a2, b2⟩ := slot_put (st := st) a (by rw [List.length_set]; exact hj') (b.perm (mid_out _ _ _))
    exact lk.nx _ _ _ _ _ _ h a2 b2⟩
theorem as_tup3 (i j l : Nat) {tr : ATA} {c : Expr} {y z : Str} {px py pz pt : Pos} {kt k2 : Nat} {pt2 : Pos} (hc : X.calm = true) (hN : X.N.Nodup) (ha : AA X [a, b, c] tr) (hi : X.N[i]? = some x := by rfl) (hj : X.N[j]? = some y := by rfl) (hl : X.N[l]? = some z := by rfl)
    (hx : Loc X.env.scope x := by first | exact Or.inl rfl | exact Or.inr rfl) (hy : Loc X.env.scope y := by first | exact Or.inl rfl | exact Or.inr rfl) (hz : Loc X.env.scope z := by first | exact Or.inl rfl | exact Or.inr rfl)
    (hw : swappedStores [.Tuple [.Name x px, .Name y py, .Name z pz] kt pt] (.Tuple [a, b, c] k2 pt2) X.env = pure none := by rfl)
    (hs : swapsWithSole [.Tuple [.Name x px, .Name y py, .Name z pz] kt pt] (.Tuple [a, b, c] k2 pt2) pos.line X.env = pure false := by rfl)
    (hf : X.fn x = true := by rfl) (hf2 : X.fn y = true := by rfl) (hf3 : X.fn z = true := by rfl)
    (h1 : (assignEach [.Tuple [.Name x px, .Name y py, .Name z pz] kt pt] X.env).map (·.2) = [assign (.Tuple [.Name x px, .Name y py, .Name z pz] kt pt) X.env] := by rfl)
    (h2 : (assignEach [.Name x px, .Name y py, .Name z pz] X.env).map (·.2) = assign (.Name x px) X.env :: (assignEach [.Name y py, .Name z pz] X.env).map (·.2) := by rfl) (h3 : (assignEach [.Name y py, .Name z pz] X.env).map (·.2) = assign (.Name y py) X.env :: (assignEach [.Name z pz] X.env).map (·.2) := by rfl)
    (h4 : (assignEach [.Name z pz] X.env).map (·.2) = assign (.Name z pz) X.env :: (assignEach [] X.env).map (·.2) := by rfl)
    (hn : (assignEach [.Name x px, .Name y py, .Name z pz] X.env).length = 3 := by rfl) (hst : (assignEach [.Name x px, .Name y py, .Name z pz] X.env).findIdx? (·.1) = none := by rfl) : AS X (.Assign [.Tuple [.Name x px, .Name y py, .Name z pz] kt pt] (.Tuple [a, b, c] k2 pt2) pos) (aPar3 i j l tr) := ⟨fun {ta q S H σ G L st D D'} hL hS hq lk pins sh I => by
  have hi' : i < σ.length := by rw [I.len]; exact (List.getElem?_eq_some_iff.mp hi).1
  have hj' : j < σ.length := by rw [I.len]; exact (List.getElem?_eq_some_iff.mp hj).1
  have hl' : l < σ.length := by rw [I.len]; exact (List.getElem?_eq_some_iff.mp hl).1
  refine ps_to (ps_asg (pe_tup pa_self) (pg_tup hc (pgs_cons (pg_name hN hi hx (.inl hf)) (pgs_cons (pg_name hN hj hy (.inl hf2)) (pgs_cons (pg_name hN hl hz (.inl hf3)) pgs_nil h4) h3) h2) hn hst) hs hw h1) ?_ pins sh I
  refine ha.run hL hS hq fun rs G q vs S H L h hlen hL hS => ?_
  obtain ⟨r1, r2, r3, rfl, h⟩ := h
  match vs, hlen, hS with
  | [v1, v2, v3], _, hS =>
    refine ⟨le_line (by simp), fun pp hp => ⟨pp, _, rfl, .of upd_same, rfl, v1, [v2, v3], rfl, v2, [v3], rfl, v3, [], rfl, rfl, ?_⟩⟩
    obtain ⟨L', a, b⟩ := put3 hL hi' hj' hl' (sat_junk (o := .tup [v1, v2, v3]) hS hp)
    exact lk.nx _ _ _ _ _ _ h a b⟩
/-- name = [..] on one line -/
theorem as_setLc {tg iter elt : Expr} {scope : Scope} {own : List (Str × Nat)} {ti : ATI} {g : AGT} {te : ATE} {is : List Nat} (i : Nat) {p' lp : Pos} (hc : X.calm = true) (hN : X.N.Nodup) (hsw : swapsWith (.ListComp elt [⟨tg, iter, [], 0⟩] scope lp) (some (.Name x p')) pos.line X.env = pure true)
    (h : AI X tg iter ti) (ok : BlkOk X.N X.env.scope scope own) (hg : Blk X scope fun Y => AG Y tg is g) (he : Blk X scope fun Y => AE Y elt te)
    (his : ∀ i ∈ is, i ∈ own.map (·.2)) (hi : X.N[i]? = some x := by rfl) (hx : X.env.scope.names.lookup x = some .local := by rfl) (hs : ∀ x, foldedSetIterable iter X.env x = pure x := by intro _; rfl) :
    AS X (.Assign [.Name x p'] (.ListComp elt [⟨tg, iter, [], 0⟩] scope lp) pos) (aAsg i (aLc ti g aYes te (own.map (·.2)))) := ⟨fun {ta q S H σ G L st D D'} hL hS hq lk pins sh I => by
  have hil : i < σ.length := by rw [I.len]; exact (List.getElem?_eq_some_iff.mp hi).1
  refine ps_to (ps_setLc hc hN hi hx hsw pi_self ok pg_B (fun _ _ _ _ _ => pts_nil) pe_B hs) ?_ pins sh I
  refine lc_run h hg ttOk_yes he his hL hS hq fun r G q v S H L h hL hS => ?_
  obtain ⟨L', a, b⟩ := slot_put hL hil hS
  exact lk.nx _ _ _ _ _ _ h a b⟩
def aRet (t : ATE) : ATS := fun D G q => t G q fun r _ q' => D.rt r q'
theorem as_ret (h : AE X e t) : AS X (.Return (some e) pos) (aRet t) := ⟨fun hL hS hq lk => ps_to (ps_ret pe_self) (h.run hL hS hq fun r G q v S H L h hL hS => lk.rt _ _ _ _ _ h (hS.sub ((Sub.of (List.sublist_append_right _ _)).cons _)))⟩
def aIfS (c : ATT) (t u : ATS) : ATS := fun D G q => c G q fun b G' q' => (b = true → t D G' q') ∧ (b = false → u D G' q')
theorem as_if {c : Expr} {as bs : List Stmt} (hc : AT X c tt) (ha : ASs X as ts) (hb : ASs X bs us) : AS X (.If c as bs pos) (aIfS tt ts us) := ⟨fun hL hS hq lk => ps_to (ps_if pt_self pss_self pss_self) (hc.run hL hS hq fun b G q S H L h hL hS => by
  cases b with
  | true => exact iteT (ha.run hL hS (h.1 rfl) lk)
  | false => exact iteF (hb.run hL hS (h.2 rfl) lk))⟩
def aFor (ti : ATI) (g : AGT) (tb : ATS) : ATS := fun D G q => ti G q fun ds G1 q1 => ∃ I : Nat → List Sl → Nn → Prop, I 0 G1 q1 ∧
  (∀ i d G q, ds[i]? = some d → I i G q → g d G fun G' => tb ⟨I (i + 1), D.rt⟩ G' q) ∧ (∀ G q, I ds.length G q → D.nx G q)
theorem as_for {tg iter : Expr} {body : List Stmt} {ti : ATI} {g : AGT} {is : List Nat} (hp : PassesOwn (model X.prog X.w) X.A X.env X.xe) (hc : X.calm = true) (hi : AI X tg iter ti) (hg : AG X tg is g) (hb : ASs X body ts)
    (hs : ∀ x, foldedSetIterable iter X.env x = pure x := by intro _; rfl) : AS X (.For tg iter body [] pos) (aFor ti g ts) := ⟨fun {ta q S H σ G L st D D'} hL hS hq lk =>
  ps_to (ps_for hp hc pi_self pg_self pss_self hs) (hi.run hL hS hq fun ds G1 q1 J M S1 H1 L1 h1 hL1 hS1 hw => by
    obtain ⟨I, i0, istep, iend⟩ := h1
    let St := fun (i : Nat) (σ : L2.St) (H : Hp) => ∃ G q S L, I i G q ∧ SlotsE G σ L ∧ Sat X.prog X.w X.K ta q S H (ents M ++ (L ++ st))
    refine ⟨fun i m σ H => m = ds.length - i ∧ i ≤ ds.length ∧ St i σ H, ⟨_, rfl, Nat.zero_le _, G1, q1, S1, L1, i0, hL1, hS1⟩, ?_⟩
    rintro i m σ H ⟨rfl, hi, G, q, S, L, hI, hL, hS⟩
    have hM := ents_dp hS fun p hp => List.mem_append_left _ hp
    obtain ⟨w1, w2, w3⟩ := hw S H hS.ex hM
    by_cases hlt : i < ds.length
    · refine .inr ⟨w1 i hlt, St (i + 1), fun σ' H' h' => ⟨ds.length - (i + 1), by omega, rfl, hlt, h'⟩, fun x H' y => ?_⟩
      obtain ⟨d, hd⟩ := get_some hlt
      have p1 : ∀ L : List Ent, (L ++ (ents M ++ st)).Perm (ents M ++ (L ++ st)) := fun L => by
        rw [← List.append_assoc, ← List.append_assoc]
        exact (List.perm_append_comm).append_right st
      have go : ∀ S' H', Sat X.prog X.w X.K ta q S' H' ((.d d, x) :: (ents M ++ (L ++ st))) → tgOf X tg x σ H' fun σ2 H2 => tssOf X body { D' with nx := St (i + 1), ct := St (i + 1), bk := D'.nx } σ2 H2 := fun S' H' hS' => by
        refine hg.run hL (hS'.perm (.cons _ (p1 L))) (istep i d G q hd hI) fun G2 σ2 L2 h2 hL2 hS2 _ => ?_
        refine hb.run hL2 hS2 h2 ⟨fun G q σ S H L h hL hS => ⟨G, q, S, L, h, hL, hS.perm (p1 L).symm⟩, fun r q v S H h hS => lk.rt _ _ _ _ _ h (hS.sub ?_)⟩
        exact (Sub.of (List.sublist_append_right _ _)).cons _
      rcases w3 i d x H' hd y with ⟨rfl, dx⟩ | ⟨T, u, v, d1, d2, rfl, hT, rfl, rfl, du, dv⟩
      · exact go _ _ (hS.push dx)
      · exact go _ _ (hS.tup hT (.cons du (dps_one dv)))
    · have e : i = ds.length := by omega
      subst e
      exact .inl ⟨w2, lk.nx _ _ _ _ _ _ (iend G q hI) hL (hS.sub (Sub.of (List.sublist_append_right _ _)))⟩)⟩
end

/-! ## defs -/
def spT (P : Program) (w : World) (K : PySem.W.Frag) (T : List Sl → Nn → (Sl → Nn → Prop) → Prop) : Sp := fun vs H Q _ =>
  ∃ ta q S ks M Qf, ks.length = vs.length ∧ Sat P w K ta q S H (ks.zip vs ++ M) ∧ T ks q Qf ∧ ∀ r q' v H' S', Qf r q' → Sat P w K ta q' S' H' ((r, v) :: M) → Q v H'
abbrev FT := List Sl → Nn → (Sl → Nn → Prop) → Prop
def aFn (T : FT) (t : ATA) : ATE := fun G q Q => t G q fun ks G1 q1 => T ks q1 fun r q2 => Q r G1 q2
section
variable {X : Cx} {e : Expr} {es : List Expr} {tr : ATA} {pos p : Pos} {x : Str} {T : FT} {k : Nat} {f : Addr} {fd : FuncData} {ps : List Str}
theorem ae_call (F : FnOk X.prog X.w X.K X.mg X.base CX0 k f fd ps (spT X.prog X.w X.K T)) (hr : Room k X.A) (hg : Gl X x) (hm : X.mg x = some (.ref f)) (hk : PySem.W.keepIn X.K (.ref f) = true) (hb : Binds X.K fd ps [])
    (ha : AA X (e :: es) tr) (hdb : (x == ("__debug__" : Str)) = false := by decide) (he : starEach (e :: es) X.env = (false, eval e X.env) :: starEach es X.env := by rfl) (hpl : (backTo pos (starEach es X.env)).any (·.1) = false := by rfl) :
    AE X (.Call (.Name x p) (e :: es) [] pos) (aFn T tr) := ⟨fun {ta q S H σ G L st Q Q'} hL hS hq lk => pe_to (pe_call F hr hg hm hk hb .nil pass0 pa_self hdb he hpl) (ha.run hL hS hq fun rs G1 q1 vs S1 H1 L1 h1 hlen hL1 hS1 => by
  show spT X.prog X.w X.K T (vs ++ []) H1 Q' _
  rw [List.append_nil]
  exact ⟨ta, q1, S1, rs, L1 ++ st, _, hlen, hS1, h1, fun r q' v H' S' hq hs => lk _ _ _ _ _ _ _ hq hL1 hs⟩)⟩
theorem ae_call0 (F : FnOk X.prog X.w X.K X.mg X.base CX0 k f fd ps (spT X.prog X.w X.K T)) (hr : Room k X.A) (hg : Gl X x) (hm : X.mg x = some (.ref f)) (hk : PySem.W.keepIn X.K (.ref f) = true) (hb : Binds X.K fd ps [])
    (hdb : (x == ("__debug__" : Str)) = false := by decide) : AE X (.Call (.Name x p) [] [] pos) (aFn T aNil) := ⟨fun {ta q S H σ G L st Q Q'} hL hS hq lk => pe_to (pe_call0 F hr hg hm hk hb .nil pass0 hdb) (by
  show spT X.prog X.w X.K T [] H Q' E0
  exact ⟨ta, q, S, [], L ++ st, _, rfl, hS, hq, fun r q' v H' S' hq hs => lk _ _ _ _ _ _ _ hq hL hs⟩)⟩
end
section
variable {P : Program} {w : World} {K : PySem.W.Frag} {mg : Str → Option Value} {base : Heap}
theorem fn_ok {x qual : Str} {st : Stmt} {f : Addr} {fd : FuncData} {N ps : List Str} {k : Nat} {T : FT} {t : ATS} (F : Fun K x qual st f fd) (Sc : FnScope N ps (defScope st)) (len : ∀ ks q Qf, T ks q Qf → ks.length = ps.length)
    (hb : ∀ (cdv : Value) (A : Around) (outer : List Env) (s : Shared) (H : Hp) (E : XK), Room k (A.deeper (PyProof.Rows.envOfC qual (defScope st) s.heap.objs.size f cdv)) → ASs (cxOf CX0 P w K mg base N qual (defScope st) f cdv A outer s H E).nox (defBody st) t)
    (rd : ∀ ks q Qf, T ks q Qf → t ⟨fun _ q => Qf (.d .none) q, Qf⟩ (ks ++ List.replicate (N.length - ps.length) .no) q) : FnOk P w K mg base CX0 (k + 1) f fd ps (spT P w K T) := by
  refine F.ok Sc (fun vs H Q E h => ?_) fun cdv A outer s H vs Q E hr h => ?_
  · obtain ⟨ta, q, S, ks, M, Qf, hl, _, hT, _⟩ := h
    rw [← hl]
    exact len _ _ _ hT
  · obtain ⟨ta, q, S, ks, M, Qf, hl, hS, hT, hq⟩ := h
    have hlen := len _ _ _ hT
    refine ⟨_, pss_self, ?_⟩
    have hsl : SlotsE (ks ++ List.replicate (N.length - ps.length) .no) (L2.start N vs) (ks.zip vs) := by
      have h := SlotsE.params (ks := ks) (vs := vs) (N.length - ps.length) hl
      unfold L2.start
      rw [← hl, hlen]
      exact h
    refine (hb cdv A outer s H E hr).run hsl hS (rd ks q Qf hT) ⟨fun G q σ S H L h hL hS => ?_, fun r q v S H h hS => hq r q v H S h hS⟩
    exact hq _ q .non H S h ((hS.sub (Sub.of (List.sublist_append_right _ _))).push .non)
end
end Ph

set_option Elab.async false
set_option linter.all false
set_option maxRecDepth 100000
set_option maxHeartbeats 4000000
namespace Ph
open PySem L2

section
variable {X : Cx} {e a b : Expr} {t u : ATE} {pos p : Pos} {x : Str} {ta : Addr} {q : Nn} {S H : Hp} {σ : L2.St} {G : List Sl} {L st : List Ent}
/-- a known slot's entry, moved to the top -/
theorem slot_top {P : Program} {w : World} {K : PySem.W.Frag} {i : Nat} {k : Sl} (hL : SlotsE G σ L) (hS : Sat P w K ta q S H (L ++ st)) (hk : G[i]? = some k) (hne : k ≠ .no) :
    ∃ v L0, σ[i]? = some (some v) ∧ Sat P w K ta q S H ((k, v) :: (L0 ++ st)) ∧ (∀ k' q' S' H', Sat P w K ta q' S' H' ((k', v) :: (L0 ++ st)) → ∃ L', SlotsE (G.set i k') σ L' ∧ Sat P w K ta q' S' H' (L' ++ st)) := by
  obtain ⟨v, L1, L2, e1, e2, up⟩ := hL.get hk hne
  have e' : L ++ st = L1 ++ (k, v) :: (L2 ++ st) := by rw [e2]; simp
  rw [e'] at hS
  refine ⟨v, L1 ++ L2, e1, ?_, fun k' q' S' H' h => ⟨_, up k', ?_⟩⟩
  · rw [List.append_assoc]
    exact hS.perm (mid_out _ _ _)
  · rw [List.append_assoc] at h ⊢
    exact h.perm (mid_in _ _ _)
/-- x.append(e) -/
def aApp (i : Nat) (t : ATE) : ATS := fun D G q => (∃ xs, G[i]? = some (.l xs)) ∧ t G q fun r G' q' => ∃ y xs, r = .d y ∧ G'[i]? = some (.l xs) ∧ xs.length ≤ 1000000 ∧ D.nx (G'.set i (.l (xs ++ [y]))) q'
theorem same_slot {v v' : V} {i : Nat} (h : σ[i]? = some (some v)) (h' : σ[i]? = some (some v')) : v' = v := by
  rw [h] at h'
  exact (Option.some.inj (Option.some.inj h')).symm
theorem as_app (i : Nat) {ap cp : Pos} (he : AE X e t) (hN : X.N[i]? = some x := by rfl) (hv : Vis X.env.scope x := by first | exact Or.inl rfl | exact Or.inr (Or.inl rfl) | exact Or.inr (Or.inr rfl))
    (hd : (x == ("__debug__" : Str)) = false := by decide) (hcd : (x == ("__classdict__" : Str)) = false := by decide)
    (hbase : attributeBase (.Name x p) "append" X.env (eval (.Name x p) X.env) = eval (.Name x p) X.env := by rfl)
    (hfew : ((backTo cp (starEach [e] X.env)).all (fun x => !x.1) && (backToKw cp (keywordEach [] X.env)).all (fun x => x.1.isSome) && decide (([e] : List Expr).length + ([] : List Keyword).length + (if ([] : List Keyword).isEmpty then 0 else 1) < 30)) = true := by rfl)
    (hline : (ap.endLine == cp.line) = true := by rfl) (hs : starEach [e] X.env = (false, eval e X.env) :: starEach [] X.env := by rfl) (hpl : (backTo cp (starEach [] X.env)).any (·.1) = false := by rfl)
    (hsw : swapsWith (.Call (.Attribute (.Name x p) "append" ap) [e] [] cp) none pos.line X.env = pure false := by rfl) :
    AS X (.Expr (.Call (.Attribute (.Name x p) "append" ap) [e] [] cp) pos) (aApp i t) := ⟨fun {ta q S H σ G L st D D'} hL hS h lk => by
  refine ps_to (ps_expr (pe_bm PySem.F.plainAttrs_list PySem.F.slot_list_append PySem.F.type_list_append mt_append (pe_var hN hv hd hcd) (pa_cons pe_self pa_nil hs) hbase hfew hline hs hpl) hsw) ?_
  obtain ⟨⟨xs0, hk0⟩, h⟩ := h
  obtain ⟨v, L0, e1, hS0, _⟩ := slot_top hL hS hk0 (fun z => by cases z)
  obtain ⟨a, vs, rfl, _, ha, _⟩ := sat_top hS0
  refine ⟨.ref a, e1, .inl ⟨rfl, _, .of ha⟩, he.run hL hS h fun r G q y S H L hq hL hS => ?_⟩
  obtain ⟨d, xs, rfl, hk, hz, hq⟩ := hq
  obtain ⟨v', L1, e2, hS1, back⟩ := slot_top (st := (.d d, y) :: st) hL (hS.perm (mid_in _ _ _)) hk (fun z => by cases z)
  have ev := same_slot e1 e2
  subst ev
  obtain ⟨a', ws, ea, hsn, ha', hd'⟩ := sat_top hS1
  cases ea
  have hy : Dp X.K S y d := (hS.ok (.d d, y) List.mem_cons_self)
  refine ⟨a, ws, y, rfl, rfl, ha', lt_line (by rw [dps_len hd']; exact hz), ?_⟩
  have hS2 := hS1.mut (k' := .l (xs ++ [d])) rfl rfl ⟨a, ws ++ [y], rfl, hsn, upd_same, dps_app hd' (dps_one hy)⟩
  obtain ⟨L', a1, a2⟩ := back _ _ _ _ hS2
  exact lk.nx _ _ _ _ _ _ hq a1 (a2.sub (Sub.of ((List.Sublist.cons _ (.refl _)).append_left _)))⟩
/-- x.extend([..]) -/
def aExt (i : Nat) (t : ATE) : ATS := fun D G q => (∃ xs, G[i]? = some (.l xs)) ∧ t G q fun r G' q' => ∃ ys xs, r = .l ys ∧ G'[i]? = some (.l xs) ∧ xs.length + ys.length ≤ 1000000 ∧ D.nx (G'.set i (.l (xs ++ ys))) q'
theorem as_ext (i : Nat) {ap cp : Pos} (he : AE X e t) (hN : X.N[i]? = some x := by rfl) (hv : Vis X.env.scope x := by first | exact Or.inl rfl | exact Or.inr (Or.inl rfl) | exact Or.inr (Or.inr rfl))
    (hd : (x == ("__debug__" : Str)) = false := by decide) (hcd : (x == ("__classdict__" : Str)) = false := by decide)
    (hbase : attributeBase (.Name x p) "extend" X.env (eval (.Name x p) X.env) = eval (.Name x p) X.env := by rfl)
    (hfew : ((backTo cp (starEach [e] X.env)).all (fun x => !x.1) && (backToKw cp (keywordEach [] X.env)).all (fun x => x.1.isSome) && decide (([e] : List Expr).length + ([] : List Keyword).length + (if ([] : List Keyword).isEmpty then 0 else 1) < 30)) = true := by rfl)
    (hline : (ap.endLine == cp.line) = true := by rfl) (hs : starEach [e] X.env = (false, eval e X.env) :: starEach [] X.env := by rfl) (hpl : (backTo cp (starEach [] X.env)).any (·.1) = false := by rfl)
    (hsw : swapsWith (.Call (.Attribute (.Name x p) "extend" ap) [e] [] cp) none pos.line X.env = pure false := by rfl) :
    AS X (.Expr (.Call (.Attribute (.Name x p) "extend" ap) [e] [] cp) pos) (aExt i t) := ⟨fun {ta q S H σ G L st D D'} hL hS h lk => by
  refine ps_to (ps_expr (pe_bm PySem.F.plainAttrs_list PySem.F.slot_list_extend PySem.F.type_list_extend mt_extend (pe_var hN hv hd hcd) (pa_cons pe_self pa_nil hs) hbase hfew hline hs hpl) hsw) ?_
  obtain ⟨⟨xs0, hk0⟩, h⟩ := h
  obtain ⟨v, L0, e1, hS0, _⟩ := slot_top hL hS hk0 (fun z => by cases z)
  obtain ⟨a, vs, rfl, _, ha, _⟩ := sat_top hS0
  refine ⟨.ref a, e1, .inl ⟨rfl, _, .of ha⟩, he.run hL hS h fun r G q y S H L hq hL hS => ?_⟩
  obtain ⟨ys, xs, rfl, hk, hz, hq⟩ := hq
  obtain ⟨b, bs, rfl, _, hb, hbd⟩ := sat_top hS
  obtain ⟨v', L1, e2, hS1, back⟩ := slot_top (st := (.l ys, .ref b) :: st) hL (hS.perm (mid_in _ _ _)) hk (fun z => by cases z)
  have ev := same_slot e1 e2
  subst ev
  obtain ⟨a', ws, ea, hsn, ha', hd'⟩ := sat_top hS1
  cases ea
  refine ⟨a, b, ws, bs, rfl, rfl, ha', hb, le_line (by rw [dps_len hd', dps_len hbd]; exact hz), ?_⟩
  have hS2 := hS1.mut (k' := .l (xs ++ ys)) rfl rfl ⟨a, ws ++ bs, rfl, hsn, upd_same, dps_app hd' hbd⟩
  obtain ⟨L', a1, a2⟩ := back _ _ _ _ hS2
  exact lk.nx _ _ _ _ _ _ hq a1 (a2.sub (Sub.of ((List.Sublist.cons _ (.refl _)).append_left _)))⟩
/-- x[i] = e, an own list -/
def aSetO (i : Nat) (t u : ATE) : ATS := fun D G q => t G q fun r G1 q1 => (∃ xs, G1[i]? = some (.l xs)) ∧ u G1 q1 fun r2 G2 q2 => ∃ y j jj xs, r = .d y ∧ r2 = .d (.int j) ∧ G2[i]? = some (.l xs) ∧ ixN xs.length j = some jj ∧ D.nx (G2.set i (.l (xs.set jj y))) q2
theorem as_setO (i : Nat) {sp : Pos} (he : AE X e t) (hb : AE X b u) (hN : X.N[i]? = some x := by rfl) (hv : Vis X.env.scope x := by first | exact Or.inl rfl | exact Or.inr (Or.inl rfl) | exact Or.inr (Or.inr rfl))
    (hd : (x == ("__debug__" : Str)) = false := by decide) (hcd : (x == ("__classdict__" : Str)) = false := by decide)
    (ha : ∀ v, assign (.Subscript (.Name x p) b sp) X.env v = (do
      let ov ← holding [v] (eval (.Name x p) X.env)
      let iv ← holding [v, ov] (eval b X.env)
      standAt sp
      holding [v, ov, iv] (setItem ov iv v)
      release [v, ov, iv] []) := by intro _; rfl)
    (hs : swapsWithSole [.Subscript (.Name x p) b sp] e pos.line X.env = pure false := by rfl) (hw : swappedStores [.Subscript (.Name x p) b sp] e X.env = pure none := by rfl)
    (h1 : (assignEach [.Subscript (.Name x p) b sp] X.env).map (·.2) = [assign (.Subscript (.Name x p) b sp) X.env] := by rfl) : AS X (.Assign [.Subscript (.Name x p) b sp] e pos) (aSetO i t u) := ⟨fun {ta q S H σ G L st D D'} hL hS h lk => by
  refine ps_to (ps_asg pe_self (pg_sub (pe_var hN hv hd hcd) pe_self set_list ha) hs hw h1) (he.run hL hS h fun r G q y S H L hq hL hS => ?_)
  obtain ⟨⟨xs0, hk0⟩, hq⟩ := hq
  have hSp := hS.perm (mid_in L st (r, y))
  obtain ⟨v, L0, e1, hS0, _⟩ := slot_top hL hSp hk0 (fun z => by cases z)
  refine ⟨v, e1, hb.run (st := (r, y) :: st) hL hSp hq fun r2 G2 q2 jv S H L hq hL hS => ?_⟩
  obtain ⟨d, j, jj, xs, rfl, rfl, hk, hj, hq⟩ := hq
  have hjv := dp_int (sat_top hS)
  obtain ⟨v', L1, e2, hS1, back⟩ := slot_top hL hS.pop hk (fun z => by cases z)
  have ev := same_slot e1 e2
  subst ev
  have hy : Dp X.K S y d := hS1.ok (.d d, y) (List.mem_cons_of_mem _ (List.mem_append_right _ List.mem_cons_self))
  obtain ⟨a', ws, ea, hsn, ha', hd'⟩ := sat_top hS1
  refine ⟨a', ws, j, jj, ea, hjv, ha', by rw [dps_len hd']; exact hj, ?_⟩
  subst ea
  have hS2 := hS1.mut (k' := .l (xs.set jj d)) rfl rfl ⟨a', ws.set jj y, rfl, hsn, upd_same, dps_set hy jj hd'⟩
  obtain ⟨L', a1, a2⟩ := back _ _ _ _ hS2
  exact lk.nx _ _ _ _ _ _ hq a1 (a2.sub (Sub.of ((List.Sublist.cons _ (.refl _)).append_left _)))⟩

/-! ### the draws' list -/
def TinB (j n z : Int) : Prop := 0 ≤ z ∧ (j = 1 → z < 4611686018427387904) ∧ (j = 2 → z ≤ n)
theorem tin_at {P : Program} {w : World} {K : PySem.W.Frag} {i : Nat} {n : Nat} (hL : SlotsE G σ L) (hS : Sat P w K ta (some n) S H (L ++ st)) (hk : G[i]? = some .t) :
    σ[i]? = some (some (.ref ta)) ∧ ∃ g s k : Int, H ta = some (.lst [.int g, .int s, .int k]) ∧ 0 ≤ g ∧ 0 ≤ s ∧ s < 4611686018427387904 ∧ 0 ≤ k ∧ k ≤ (n : Int) := by
  obtain ⟨v, L0, e1, hS0, _⟩ := slot_top hL hS hk (fun z => by cases z)
  have ev : v = .ref ta := sat_top hS0
  subst ev
  obtain ⟨g, s, k, a, _, _, b⟩ := hS.tin n rfl
  exact ⟨e1, g, s, k, a, b⟩
/-- tin[j] -/
def aTin (i : Nat) (j : Int) : ATE := fun G q Q => ∃ n : Nat, G[i]? = some .t ∧ q = some n ∧ ∀ z : Int, TinB j n z → Q (.d (.int z)) G q
theorem ae_tin (i : Nat) {j : Int} {jc : Nat} {jp : Pos} (hj : j = 0 ∨ j = 1 ∨ j = 2) (hN : X.N[i]? = some x := by rfl) (hv : Vis X.env.scope x := by first | exact Or.inl rfl | exact Or.inr (Or.inl rfl) | exact Or.inr (Or.inr rfl))
    (hd : (x == ("__debug__" : Str)) = false := by decide) (hcd : (x == ("__classdict__" : Str)) = false := by decide) : AE X (.Subscript (.Name x p) (.Constant (.int j) jc jp) pos) (aTin i j) := ⟨fun {ta q S H σ G L st Q Q'} hL hS h lk => by
  refine pe_to (pe_ix ix_list (pe_var hN hv hd hcd) pe_int (fun _ _ => rfl)) ?_
  obtain ⟨n, hk, rfl, h⟩ := h
  obtain ⟨e1, g, s, k, a, h1, h2, h3, h4, h5⟩ := tin_at hL hS hk
  refine ⟨.ref ta, e1, ?_⟩
  rcases hj with rfl | rfl | rfl
  · exact ⟨ta, _, 0, .int g, rfl, rfl, .of a, rfl, lk _ _ _ _ _ _ _ (h g ⟨h1, fun z => absurd z (by decide), fun z => absurd z (by decide)⟩) hL (hS.push (.int _))⟩
  · exact ⟨ta, _, 1, .int s, rfl, rfl, .of a, rfl, lk _ _ _ _ _ _ _ (h s ⟨h2, fun _ => h3, fun z => absurd z (by decide)⟩) hL (hS.push (.int _))⟩
  · exact ⟨ta, _, 2, .int k, rfl, rfl, .of a, rfl, lk _ _ _ _ _ _ _ (h k ⟨h4, fun z => absurd z (by decide), fun _ => h5⟩) hL (hS.push (.int _))⟩⟩
/-- tin[j] = e -/
def aTinSet (i : Nat) (j : Int) (t : ATE) : ATS := fun D G q => t G q fun r G' q' => ∃ (n n' : Nat) (z : Int), q' = some n ∧ G'[i]? = some .t ∧ r = .d (.int z) ∧ TinB j n' z ∧ n ≤ n' ∧ D.nx G' (some n')
theorem as_tinSet (i : Nat) {j : Int} {jc : Nat} {jp sp : Pos} (hj : j = 0 ∨ j = 1 ∨ j = 2) (he : AE X e t) (hN : X.N[i]? = some x := by rfl) (hv : Vis X.env.scope x := by first | exact Or.inl rfl | exact Or.inr (Or.inl rfl) | exact Or.inr (Or.inr rfl))
    (hd : (x == ("__debug__" : Str)) = false := by decide) (hcd : (x == ("__classdict__" : Str)) = false := by decide)
    (ha : ∀ v, assign (.Subscript (.Name x p) (.Constant (.int j) jc jp) sp) X.env v = (do
      let ov ← holding [v] (eval (.Name x p) X.env)
      let iv ← holding [v, ov] (eval (.Constant (.int j) jc jp) X.env)
      standAt sp
      holding [v, ov, iv] (setItem ov iv v)
      release [v, ov, iv] []) := by intro _; rfl)
    (hs : swapsWithSole [.Subscript (.Name x p) (.Constant (.int j) jc jp) sp] e pos.line X.env = pure false := by rfl) (hw : swappedStores [.Subscript (.Name x p) (.Constant (.int j) jc jp) sp] e X.env = pure none := by rfl)
    (h1 : (assignEach [.Subscript (.Name x p) (.Constant (.int j) jc jp) sp] X.env).map (·.2) = [assign (.Subscript (.Name x p) (.Constant (.int j) jc jp) sp) X.env] := by rfl) : AS X (.Assign [.Subscript (.Name x p) (.Constant (.int j) jc jp) sp] e pos) (aTinSet i j t) := ⟨fun {ta q S H σ G L st D D'} hL hS h lk => by
  refine ps_to (ps_asg pe_self (pg_sub (pe_var hN hv hd hcd) pe_int set_list ha) hs hw h1) (he.run hL hS h fun r G q y S H L hq hL hS => ?_)
  obtain ⟨n, n', z, rfl, hk, rfl, hz, hn, hq⟩ := hq
  have hyv := dp_int (sat_top hS)
  subst hyv
  have hS := hS.pop
  obtain ⟨e1, g, s, k, a, c1, c2, c3, c4, c5⟩ := tin_at hL hS hk
  obtain ⟨_, _, _, _, hs0, hno, _⟩ := hS.tin n rfl
  refine ⟨.ref ta, e1, ta, [.int g, .int s, .int k], j, j.toNat, rfl, rfl, a, by rcases hj with rfl | rfl | rfl <;> rfl, ?_⟩
  refine lk.nx _ _ _ S _ L hq hL ?_
  have key : ∀ g' s' k' : Int, 0 ≤ g' → 0 ≤ s' → s' < 4611686018427387904 → 0 ≤ k' → k' ≤ (n' : Int) → Sat X.prog X.w X.K ta (some n') S (upd H ta (.lst [.int g', .int s', .int k'])) (L ++ st) := fun g' s' k' b1 b2 b3 b4 b5 => by
    refine ⟨fun b o eb => ?_, fun p hp => slOk_grow (hS.ok p hp) (Same.refl S) fun b eb => ?_, hS.nd, fun m em => ?_⟩
    · rw [upd_ne (ne_of_none eb hs0)]
      exact hS.ex b o eb
    · obtain ⟨_, z1, _⟩ := own_of (hS.ok p hp) eb
      refine ⟨z1, upd_ne fun c => hno ?_⟩
      rw [← c]
      exact List.mem_filterMap.mpr ⟨p, hp, eb⟩
    · cases em
      exact ⟨g', s', k', upd_same, hs0, hno, b1, b2, b3, b4, b5⟩
  obtain ⟨z0, z1, z2⟩ := hz
  rcases hj with rfl | rfl | rfl
  · exact key z s k z0 c2 c3 c4 (by omega)
  · exact key g z k c1 z0 (z1 rfl) c4 (by omega)
  · exact key g s z c1 c2 c3 z0 (z2 rfl)⟩
end
end Ph

set_option Elab.async false
set_option linter.all false
set_option maxRecDepth 100000
set_option maxHeartbeats 4000000
namespace Ph
open PySem L2

/-! ## dicts: plain tables -/
section
variable {κ β : Type} [DecidableEq κ]
/-- what the table holds -/
def look : List (κ × β) → κ → Option β
  | [], _ => none
  | (k, x) :: r, j => if k = j then some x else look r j
/-- in its place, or at the end -/
def put : List (κ × β) → κ → β → List (κ × β)
  | [], j, y => [(j, y)]
  | (k, x) :: r, j, y => if k = j then (k, y) :: r else (k, x) :: put r j y
theorem put_len (kvs : List (κ × β)) (k : κ) (y : β) : (put kvs k y).length ≤ kvs.length + 1 := by
  induction kvs with
  | nil => exact Nat.le_refl _
  | cons p r ih =>
    obtain ⟨j, x⟩ := p
    unfold put
    by_cases h : j = k
    · rw [if_pos h]; simp
    · rw [if_neg h]; simp only [List.length_cons]; omega
end
/-! ### the entries of a dict with tuple keys -/
theorem atKey_cons (k : NestedKey) (p : Addr × Value) (E : List (NestedKey × Addr × Value)) (j : NestedKey) : atKey ((k, p) :: E) j = if k = j then some p else atKey E j := by
  unfold atKey
  by_cases h : k = j
  · rw [List.find?_cons_of_pos (by simp [h]), if_pos h]; rfl
  · rw [List.find?_cons_of_neg (by simp [h]), if_neg h]
section
variable {P : Program} {w : World} {K : PySem.W.Frag} {S H : Hp}
theorem kv_look : ∀ {kvs : List (NestedKey × PyData)} {E : List (NestedKey × Addr × Value)}, Paired (KvAt K S) kvs E → ∀ k, (look kvs k = none ∧ atKey E k = none) ∨ ∃ d p v, look kvs k = some d ∧ atKey E k = some p ∧ RelV v p.2 ∧ Dp K S v d
  | _, _, .nil, k => .inl ⟨rfl, rfl⟩
  | _, _, .cons (a := (k1, d1)) (b := (k2, p2)) h t, k => by
    obtain ⟨e, _, _, v, r, dv⟩ := h
    have e : k1 = k2 := e
    subst e
    rw [atKey_cons]
    show (look ((k1, d1) :: _) k = none ∧ _) ∨ _
    by_cases hk : k1 = k
    · refine .inr ⟨d1, p2, v, ?_, if_pos hk, r, dv⟩
      unfold look
      rw [if_pos hk]
    · have ih := kv_look t k
      rw [if_neg hk]
      unfold look
      rw [if_neg hk]
      exact ih
theorem kv_nokey : ∀ {E : List (NestedKey × Addr × Value)} {k : NestedKey}, atKey E k = none → k ∉ E.map (·.1)
  | [], _, _ => by simp
  | (j, p) :: E, k, h => by
    rw [atKey_cons] at h
    by_cases hk : j = k
    · rw [if_pos hk] at h; cases h
    · rw [if_neg hk] at h
      have := kv_nokey h
      simp only [List.map_cons, List.mem_cons, not_or]
      exact ⟨fun z => hk z.symm, this⟩
theorem storedH_cons {j k : NestedKey} {p : Addr × Value} {E : List (NestedKey × Addr × Value)} {a : Addr} {u : Value} (hn : (((j, p) :: E).map (·.1)).Nodup) : storedH ((j, p) :: E) k a u = if j = k then (j, p.1, u) :: E else (j, p) :: storedH E k a u := by
  have hn2 : j ∉ E.map (·.1) := (List.nodup_cons.mp hn).1
  by_cases h : j = k
  · subst h
    have e : atKey ((j, p) :: E) j = some p := by rw [atKey_cons, if_pos rfl]
    rw [storedH_old e, if_pos rfl, List.map_cons, map_putAt_of_not_mem E j u hn2]
    unfold putAt
    rw [if_pos rfl]
  · rw [if_neg h]
    have e : atKey ((j, p) :: E) k = atKey E k := by rw [atKey_cons, if_neg h]
    cases hx : atKey E k with
    | none =>
      rw [storedH_new (e.trans hx), storedH_new hx]
      rfl
    | some z =>
      rw [storedH_old (e.trans hx), storedH_old hx, List.map_cons]
      unfold putAt
      rw [if_neg h]
theorem kv_put : ∀ {kvs : List (NestedKey × PyData)} {E : List (NestedKey × Addr × Value)}, Paired (KvAt K S) kvs E → (E.map (·.1)).Nodup → ∀ {k : NestedKey} {b : Addr} {v : V} {u : Value} {d : PyData}, Dp K S (.ref b) k.data → k.depth ≤ 8 → RelV v u → Dp K S v d →
    Paired (KvAt K S) (put kvs k d) (storedH E k b u)
  | _, _, .nil, _, k, b, v, u, d, h1, h2, r, dv => by
    have e : storedH [] k b u = [(k, b, u)] := rfl
    rw [e]
    exact .cons ⟨rfl, h1, h2, v, r, dv⟩ .nil
  | _, _, .cons (a := (k1, d1)) (b := (k2, p2)) h t, hn, k, b, v, u, d, h1, h2, r, dv => by
    obtain ⟨e, c1, c2, c3⟩ := h
    have e : k1 = k2 := e
    subst e
    rw [storedH_cons hn]
    unfold put
    by_cases hk : k1 = k
    · rw [if_pos hk, if_pos hk]
      exact .cons ⟨rfl, c1, c2, v, r, dv⟩ t
    · rw [if_neg hk, if_neg hk]
      exact .cons ⟨rfl, c1, c2, c3⟩ (kv_put t (List.nodup_cons.mp hn).2 h1 h2 r dv)
end
/-! ### keys -/
section
variable {X : Cx} {pins : List (Addr × Obj)} {σ : L2.St} {S H : Hp} {s : Shared}
mutual
theorem nested_of (I : Inv X pins σ H s) : ∀ (k : NestedKey) (v : V) (u : Value), Dp X.K H v k.data → RelV v u → NestedIs s.heap k u
  | .none, _, _, h, r => by cases h; cases r; exact .none
  | .num i, _, _, h, r => by cases h; obtain ⟨t, rfl⟩ := r; exact .int i t
  | .text x, _, _, h, r => by cases h; obtain ⟨t, rfl⟩ := r; exact .text x t
  | .tup ks, v, u, h, r => by
    have h : Dp X.K H v (.tuple (NestedKey.datas ks)) := h
    obtain ⟨a, xs, rfl, h1, h2⟩ := dp_tup h
    cases r
    obtain ⟨its, rv, ⟨o, ho, hc, n, hd⟩, _⟩ := I.tuple h1
    exact .tup ho hc hd (by simpa using nesteds_of I ks xs its h2 rv)
theorem nesteds_of (I : Inv X pins σ H s) : ∀ (ks : List NestedKey) (vs : List V) (us : List Value), DpAll X.K H vs (NestedKey.datas ks) → Vals vs us → NestedAll s.heap ks us
  | [], _, _, h, r => by cases h; cases r; exact .nil
  | k :: ks, vs, us, h, r => by
    have h : DpAll X.K H vs (k.data :: NestedKey.datas ks) := h
    cases h with
    | cons h1 h2 =>
      cases r with
      | cons r1 r2 => exact .cons (nested_of I k _ _ h1 r1) (nesteds_of I ks _ _ h2 r2)
end
theorem dc_at {a : Addr} {E : List (NestedKey × Addr × Value)} {kvs : List (NestedKey × PyData)} (I : Inv X pins σ H s) (ex : Same S H) (h : H a = some (DcO X.prog X.w a E)) (r : Paired (KvAt X.K S) kvs E) :
    s.heap.DictOfH (nestedKind X.prog X.w) a E := by
  obtain ⟨⟨o, es, ep, h1, h2, h3, h4, h5⟩, _⟩ : ObjOk X.prog X.w H s.heap a (DcO X.prog X.w a E) := I.hok a _ h
  refine ⟨o, es, ep, h1, h2, h3, h4, fun x hx => ?_, h5⟩
  have key : ∀ {l : List (NestedKey × PyData)} {m : List (NestedKey × Addr × Value)}, Paired (KvAt X.K S) l m → ∀ x ∈ m, (nestedKind X.prog X.w).is s.heap x.1 x.2.1 := by
    intro l m q
    induction q with
    | nil => intro x hx; cases hx
    | cons h t ih =>
      intro x hx
      rcases List.mem_cons.mp hx with rfl | hx
      · obtain ⟨e, c1, c2, _⟩ := h
        rw [e] at c1 c2
        exact ⟨nested_of I _ _ _ (dp_mono ex _ _ c1) rfl, c2⟩
      · exact ih x hx
  exact key r x hx
/-- the dict is written -/
theorem dc_write {a : Addr} {E E' : List (NestedKey × Addr × Value)} {h' : Heap} {tk : Nat} (I : Inv X pins σ H s) (h : H a = some (DcO X.prog X.w a E)) (hs : Heap.SameBut a s.heap h') (d : h'.DictOfH (nestedKind X.prog X.w) a E') :
    Inv X pins σ (upd H a (DcO X.prog X.w a E')) { s with heap := h', toks := tk } := by
  obtain ⟨o, es, ep, h1, h2, h3, h4, _, h5⟩ := d
  refine I.write (x := a) (e := a) (by rw [h]; exact trivial) (.inl rfl) (fun b u hb e => (hs.2 b hb).trans e) ⟨o, h1⟩ ?_
  exact ⟨⟨o, es, ep, h1, h2, h3, h4, h5⟩, ⟨o, h1⟩, fun g1 g2 ⟨o', es', ep', c1, c2⟩ kp => ⟨o', es', ep', kp o' c1, c2⟩⟩
theorem room8 {A : Around} (hu : A.units + 64 < cLine) : A.in1.units + 8 < cLine := by
  show A.units + 1 + 8 < cLine
  omega
end
/-! ## the rules -/
section
variable {X : Cx} {e a b : Expr} {t u : ATE} {pos p : Pos} {x : Str}
def neg? (n c : Bool) : Bool := if n then !c else c
/-- k in d, k not in d -/
def aInD (n : Bool) (i : Nat) (t : ATE) : ATE := fun G q Q => t G q fun r G' q' =>
  (∃ (k : List NestedKey) (kvs : List (NestedKey × PyData)), r = .d (NestedKey.tup k).data ∧ (NestedKey.tup k).depth ≤ 8 ∧ G'[i]? = some (.k kvs) ∧ Q (.d (.bool (neg? n (look kvs (.tup k)).isSome))) G' q') ∨
  (∃ (j : Int) (kvs : List (Int × PyData)), r = .d (.int j) ∧ G'[i]? = some (.i kvs) ∧ Q (.d (.bool (neg? n (look kvs j).isSome))) G' q')
theorem iv_look {K : PySem.W.Frag} {S : Hp} : ∀ {kvs : List (Int × PyData)} {vs : List (Key × V)}, Paired (IvAt K S) kvs vs → ∀ k, (look kvs k = none ∧ valV vs (.inl k) = none) ∨ ∃ d v, look kvs k = some d ∧ valV vs (.inl k) = some v ∧ Dp K S v d
  | _, _, .nil, k => .inl ⟨rfl, rfl⟩
  | _, _, .cons (a := (k1, d1)) (b := (k2, v2)) h t, k => by
    obtain ⟨e, dv⟩ := h
    have e : k2 = .inl k1 := e
    subst e
    by_cases hk : k1 = k
    · subst hk
      refine .inr ⟨d1, v2, ?_, valV_pos rfl, dv⟩
      unfold look
      rw [if_pos rfl]
    · have ih := iv_look t k
      rw [valV_neg (fun z => hk (Sum.inl.inj z))]
      unfold look
      rw [if_neg hk]
      exact ih
theorem iv_put {K : PySem.W.Frag} {S : Hp} {k : Int} {d : PyData} {v : V} (dv : Dp K S v d) : ∀ {kvs : List (Int × PyData)} {vs : List (Key × V)}, Paired (IvAt K S) kvs vs → (vs.map (·.1)).Nodup → Paired (IvAt K S) (put kvs k d) (putK vs (.inl k) v)
  | _, _, .nil, _ => .cons ⟨rfl, dv⟩ .nil
  | _, _, .cons (a := (k1, d1)) (b := (k2, v2)) (l₁ := kvs) (l₂ := vs) h t, hn => by
    obtain ⟨e, dv1⟩ := h
    have e : k2 = .inl k1 := e
    subst e
    have hn1 : (Sum.inl k1 : Key) ∉ vs.map (·.1) := (List.nodup_cons.mp hn).1
    have hn2 : (vs.map (·.1)).Nodup := (List.nodup_cons.mp hn).2
    unfold put
    by_cases hk : k1 = k
    · subst hk
      rw [if_pos rfl]
      have e1 : putK ((Sum.inl k1, v2) :: vs) (.inl k1) v = (Sum.inl k1, v) :: vs := by
        unfold putK
        rw [if_pos (by simp), List.map_cons, if_pos rfl]
        congr 1
        conv => rhs; rw [← List.map_id vs]
        refine List.map_congr_left fun z hz => ?_
        rw [if_neg fun c => hn1 (List.mem_map.mpr ⟨z, hz, c⟩)]
        rfl
      rw [e1]
      exact .cons ⟨rfl, dv⟩ t
    · rw [if_neg hk]
      have hk' : ¬ (Sum.inl k1 : Key) = Sum.inl k := fun z => hk (Sum.inl.inj z)
      have e1 : putK ((Sum.inl k1, v2) :: vs) (.inl k) v = (Sum.inl k1, v2) :: putK vs (.inl k) v := by
        unfold putK
        rw [List.any_cons, decide_eq_false hk', Bool.false_or]
        split
        · rw [List.map_cons, if_neg hk']
        · rfl
      rw [e1]
      exact .cons ⟨rfl, dv1⟩ (iv_put dv t hn2)
theorem din_run (hu : X.A.units + 64 < cLine) {n : Bool} {i : Nat} {ta : Addr} {q : Nn} {S H : Hp} {σ : L2.St} {G : List Sl} {L st : List Ent} {Q : Sl → List Sl → Nn → Prop} {Q' : VK} {pins : List (Addr × Obj)} {s : Shared} {r : Sl} {y v : V} {uy uv : Value} {p : Pos} (I : Inv X pins σ H s) (hL : SlotsE G σ L)
    (hS : Sat X.prog X.w X.K ta q S H ((r, y) :: (L ++ st))) (hv : σ[i]? = some (some v)) (ry : RelV y uy) (rv : RelV v uv)
    (h : (∃ (k : List NestedKey) (kvs : List (NestedKey × PyData)), r = .d (NestedKey.tup k).data ∧ (NestedKey.tup k).depth ≤ 8 ∧ G[i]? = some (.k kvs) ∧ Q (.d (.bool (neg? n (look kvs (.tup k)).isSome))) G q) ∨
      (∃ (j : Int) (kvs : List (Int × PyData)), r = .d (.int j) ∧ G[i]? = some (.i kvs) ∧ Q (.d (.bool (neg? n (look kvs j).isSome))) G q)) (lk : Lk X ta σ st Q Q') :
    wpAny (model X.prog X.w) X.A (compareOp (if n then .NotIn else .In) uy uv) (EP X pins σ Q') X.xe s := by
  rcases h with ⟨k, kvs, rfl, hdep, hk, hq⟩ | ⟨j, kvs, rfl, hk, hq⟩
  · obtain ⟨v', L0, e1, hS0, _⟩ := slot_top (st := (.d (NestedKey.tup k).data, y) :: st) hL (hS.perm (mid_in _ _ _)) hk (fun z => by cases z)
    have ev := same_slot hv e1
    subst ev
    obtain ⟨d, E, rfl, _, hd, hsm, hp⟩ := sat_top hS0
    cases rv
    have hkey : Dp X.K S y (NestedKey.tup k).data := sat_top hS
    obtain ⟨b, xs, rfl, _, _⟩ := dp_tup hkey
    cases ry
    have hm := dc_at I hS.ex hd hp
    have hki : (nestedKind X.prog X.w).is s.heap (.tup k) b := ⟨nested_of I _ _ _ (dp_mono hS.ex _ _ hkey) rfl, hdep⟩
    have e2 : (look kvs (.tup k)).isSome = (atKey E (.tup k)).isSome := by
      rcases kv_look hp (.tup k) with ⟨z1, z2⟩ | ⟨_, _, _, z1, z2, _⟩ <;> rw [z1, z2] <;> rfl
    rw [e2] at hq
    have fin : ∀ tk, EP X pins σ Q' (.bool (neg? n (atKey E (.tup k)).isSome)) { s with toks := tk } := fun tk =>
      ⟨.bl _, H, I.tok tk, rfl, lk _ _ _ _ _ _ _ hq hL (hS.pop.push (.bl _))⟩
    cases n with
    | false => exact wpAny_in_heap (room8 hu) hki hsm hm (fin _)
    | true => exact notIn_keyed (room8 hu) hki hsm ⟨E, hm, rfl⟩ (by rw [valueAt_pairsH, Option.isSome_map]; exact fin _)
  · obtain ⟨v', L0, e1, hS0, _⟩ := slot_top (st := (.d (.int j), y) :: st) hL (hS.perm (mid_in _ _ _)) hk (fun z => by cases z)
    have ev := same_slot hv e1
    subst ev
    obtain ⟨d, vs, rfl, _, hd, hp⟩ := sat_top hS0
    cases rv
    have hy := dp_int (sat_top hS)
    subst hy
    have e2 : (look kvs j).isSome = (valV vs (.inl j)).isSome := by
      rcases iv_look hp j with ⟨z1, z2⟩ | ⟨_, _, z1, z2, _⟩ <;> rw [z1, z2] <;> rfl
    rw [e2] at hq
    cases n with
    | false => exact d_in (o := valV vs (.inl j)) (by omega) I (DGet.k (k := .inl j) hd) ry fun s' I' => ⟨.bl _, H, I', rfl, lk _ _ _ _ _ _ _ hq hL (hS.pop.push (.bl _))⟩
    | true => exact d_notIn (o := valV vs (.inl j)) (by omega) I (DGet.k (k := .inl j) hd) ry fun s' I' => ⟨.bl _, H, I', rfl, lk _ _ _ _ _ _ _ hq hL (hS.pop.push (.bl _))⟩
theorem pc_inX {n : Bool} {te tv : TE} {op : CmpOp} (hop : op = if n then .NotIn else .In) (he : PE X e te) (hv : PE X a tv) : PC X op e a (fun σ H Q => te σ H fun y H1 => tv σ H1 fun v H2 => ∀ pins s uy uv, Inv X pins σ H2 s → RelV y uy → RelV v uv → wpAny (model X.prog X.w) X.A (compareOp op uy uv) (EP X pins σ Q) X.xe s) :=
  ⟨fun pins s σ H Q I h => thn (he.run pins s σ H _ I h) fun iv s1 ⟨y, H1, I1, ry, q1⟩ => thn (hv.run pins s1 σ H1 _ I1 q1) fun u s2 ⟨v, H2, I2, rv, q2⟩ => q2 pins s2 iv u I2 ry rv⟩
theorem at_inD (n : Bool) (i : Nat) {op : CmpOp} (hop : op = if n then .NotIn else .In) (hu : X.A.units + 64 < cLine) (he : AE X e t) (hN : X.N[i]? = some x := by rfl) (hv : Vis X.env.scope x := by first | exact Or.inl rfl | exact Or.inr (Or.inl rfl) | exact Or.inr (Or.inr rfl))
    (hd : (x == ("__debug__" : Str)) = false := by decide) (hcd : (x == ("__classdict__" : Str)) = false := by decide) (hm : behindInMarks op (.Name x p) = false := by rfl) : AT X (.Compare e [op] [.Name x p] pos) (aTest (aInD n i t)) := ⟨fun {ta q S H σ G L st Q Q'} hL hS h lk => by
  refine pt_to (pt_cmp (pc_inX (n := n) hop pe_self (pe_var hN hv hd hcd)) hm) (he.run hL hS h fun r G q y S H L hq hL hS => ?_)
  have hkk : ∃ k, G[i]? = some k ∧ k ≠ .no := by
    rcases hq with ⟨_, _, _, _, hk, _⟩ | ⟨_, _, _, hk, _⟩
    · exact ⟨_, hk, fun z => by cases z⟩
    · exact ⟨_, hk, fun z => by cases z⟩
  obtain ⟨k0, hk0, hne⟩ := hkk
  obtain ⟨v, L0, e1, _, _⟩ := slot_top (st := (r, y) :: st) hL (hS.perm (mid_in _ _ _)) hk0 hne
  refine ⟨v, e1, fun pins s uy uv I ry rv => ?_⟩
  rw [hop]
  refine din_run hu (p := pos) (Q := fun r G' q' => ∃ c, r = .d (.bool c) ∧ Q c G' q') (Q' := fun z H' => ∃ c, z = .bl c ∧ Q' c H') I hL hS e1 ry rv hq ?_
  intro r2 G2 q2 v2 S2 H2 L2 hq2 hL2 hS2
  obtain ⟨c, rfl, hq2⟩ := hq2
  rw [dp_bl (sat_top hS2)]
  exact ⟨c, rfl, lk _ _ _ _ _ _ hq2 hL2 hS2.pop⟩⟩
/-- d[k] -/
def aGetD (i : Nat) (t : ATE) : ATE := fun G q Q => (∃ k, G[i]? = some k ∧ k ≠ .no) ∧ t G q fun r G' q' =>
  (∃ (k : List NestedKey) (kvs : List (NestedKey × PyData)) (d : PyData), r = .d (NestedKey.tup k).data ∧ (NestedKey.tup k).depth ≤ 8 ∧ G'[i]? = some (.k kvs) ∧ look kvs (.tup k) = some d ∧ Q (.d d) G' q') ∨
  (∃ (j : Int) (kvs : List (Int × PyData)) (d : PyData), r = .d (.int j) ∧ G'[i]? = some (.i kvs) ∧ look kvs j = some d ∧ Q (.d d) G' q')
theorem pe_subX {te tv : TE} (ho : PE X a te) (hi : PE X e tv) (hs : NoSl e) : PE X (.Subscript a e pos) (fun σ H Q => te σ H fun o H1 => tv σ H1 fun y H2 => ∀ pins s uo uy, Inv X pins σ H2 s → RelV o uo → RelV y uy → s.TypeIs uo "dict" ∧ wpAny (model X.prog X.w) X.A (getItem uo uy) (EP X pins σ Q) X.xe s) :=
  ⟨fun pins s σ H Q I h => subD_of PySem.F.slot_dict_getitem.lookup hs (thn (ho.run pins s σ H _ I h) fun u s1 ⟨o, H1, I1, ro, q1⟩ => thn (hi.run pins s1 σ H1 _ I1 q1) fun iv s2 ⟨y, H2, I2, ry, q2⟩ => q2 pins s2 u iv I2 ro ry)⟩
theorem ae_getD (i : Nat) (hu : X.A.units + 64 < cLine) (he : AE X e t) (hN : X.N[i]? = some x := by rfl) (hv : Vis X.env.scope x := by first | exact Or.inl rfl | exact Or.inr (Or.inl rfl) | exact Or.inr (Or.inr rfl))
    (hd : (x == ("__debug__" : Str)) = false := by decide) (hcd : (x == ("__classdict__" : Str)) = false := by decide) (hs : NoSl e := by exact fun _ _ => rfl) : AE X (.Subscript (.Name x p) e pos) (aGetD i t) := ⟨fun {ta q S H σ G L st Q Q'} hL hS h lk => by
  obtain ⟨⟨k0, hk0, hne⟩, h⟩ := h
  obtain ⟨v, L0, e1, _, _⟩ := slot_top hL hS hk0 hne
  refine pe_to (pe_subX (pe_var hN hv hd hcd) pe_self hs) ⟨v, e1, he.run hL hS h fun r G q y S H L hq hL hS => fun pins s uo uy I rv ry => ?_⟩
  rcases hq with ⟨k, kvs, dd, rfl, hdep, hk, hlk, hq⟩ | ⟨j, kvs, dd, rfl, hk, hlk, hq⟩
  · obtain ⟨v', L0, e1', hS0, _⟩ := slot_top (st := (.d (NestedKey.tup k).data, y) :: st) hL (hS.perm (mid_in _ _ _)) hk (fun z => by cases z)
    have ev := same_slot e1 e1'
    subst ev
    obtain ⟨d, E, rfl, _, hd, hsm, hp⟩ := sat_top hS0
    cases rv
    have hkey : Dp X.K S y (NestedKey.tup k).data := sat_top hS
    obtain ⟨b, xs, rfl, _, _⟩ := dp_tup hkey
    cases ry
    have hm := dc_at I hS.ex hd hp
    have hki : (nestedKind X.prog X.w).is s.heap (.tup k) b := ⟨nested_of I _ _ _ (dp_mono hS.ex _ _ hkey) rfl, hdep⟩
    rcases kv_look hp (.tup k) with ⟨z1, _⟩ | ⟨dd', pp, vv, z1, z2, z3, z4⟩
    · rw [hlk] at z1; cases z1
    · rw [hlk] at z1
      cases z1
      exact ⟨hm.typeIs, wpAny_getItem_heap (room8 hu) hki hm z2 ⟨vv, H, I.tok _, z3, lk _ _ _ _ _ _ _ hq hL (hS.pop.push z4)⟩⟩
  · obtain ⟨v', L0, e1', hS0, _⟩ := slot_top (st := (.d (.int j), y) :: st) hL (hS.perm (mid_in _ _ _)) hk (fun z => by cases z)
    have ev := same_slot e1 e1'
    subst ev
    obtain ⟨d, vs, rfl, _, hd, hp⟩ := sat_top hS0
    cases rv
    have hy := dp_int (sat_top hS)
    subst hy
    rcases iv_look hp j with ⟨z1, _⟩ | ⟨dd', vv, z1, z2, z4⟩
    · rw [hlk] at z1; cases z1
    · rw [hlk] at z1
      cases z1
      have g := DGet.k (k := Sum.inl j) hd
      rw [z2] at g
      exact ⟨dict_typeIs I g, d_getItem (by omega) I g ry fun w' s' I' rw' => ⟨vv, H, I', rw', lk _ _ _ _ _ _ _ hq hL (hS.pop.push z4)⟩⟩⟩
/-- d[k] = e -/
def aPutD (i : Nat) (t u : ATE) : ATS := fun D G q => t G q fun r G1 q1 => ∃ y, r = .d y ∧ (∃ k, G1[i]? = some k ∧ k ≠ .no) ∧ u G1 q1 fun r2 G2 q2 =>
  (∃ (k : List NestedKey) (kvs : List (NestedKey × PyData)), r2 = .d (NestedKey.tup k).data ∧ (NestedKey.tup k).depth ≤ 8 ∧ G2[i]? = some (.k kvs) ∧ kvs.length ≤ 1000000 ∧ D.nx (G2.set i (.k (put kvs (.tup k) y))) q2) ∨
  (∃ (j : Int) (kvs : List (Int × PyData)), r2 = .d (.int j) ∧ G2[i]? = some (.i kvs) ∧ kvs.length ≤ 1000000 ∧ D.nx (G2.set i (.i (put kvs j y))) q2)
def RSet (X : Cx) : V → V → V → Hp → (Hp → Prop) → Prop := fun o i v H Q => ∀ pins s σ uo ui uv, Inv X pins σ H s → RelV o uo → RelV i ui → RelV v uv → wpAny (model X.prog X.w) X.A (setItem uo ui uv) (fun _ s' => ∃ H', Inv X pins σ H' s' ∧ Q H') X.xe s
theorem set_X : PSet X (RSet X) := fun pins s σ H o i v ov iv u Q I ro ri rv h => h pins s σ ov iv u I ro ri rv
theorem dk_nodup {P : Program} {w : World} {H : Hp} {h : Heap} {a : Addr} {vs : List (Key × V)} (ok : HOk P w H h) (e : H a = some (.dK vs)) : (vs.map (·.1)).Nodup := by
  obtain ⟨_, _, us, r, dd⟩ := dk_of ok e
  obtain ⟨_, _, _, _, _, _, _, _, hn⟩ := dd
  have e2 : vs.map (·.1) = us.map (·.1) := by
    have key : ∀ {l : List (Key × V)} {m : List (Key × Value)}, KV l m → l.map (·.1) = m.map (·.1) := by
      intro l m q
      unfold KV at q
      induction q with
      | nil => rfl
      | cons h t ih => rw [List.map_cons, List.map_cons, h.1, ih]
    exact key r
  rw [e2]
  exact hn
theorem paired_len {α β : Type} {F : α → β → Prop} {l : List α} {m : List β} (h : Paired F l m) : l.length = m.length := Paired.length h
theorem as_putD (i : Nat) {sp : Pos} (hu : X.A.units + 64 < cLine) (he : AE X e t) (hb : AE X b u) (hN : X.N[i]? = some x := by rfl) (hv : Vis X.env.scope x := by first | exact Or.inl rfl | exact Or.inr (Or.inl rfl) | exact Or.inr (Or.inr rfl))
    (hd : (x == ("__debug__" : Str)) = false := by decide) (hcd : (x == ("__classdict__" : Str)) = false := by decide)
    (ha : ∀ v, assign (.Subscript (.Name x p) b sp) X.env v = (do
      let ov ← holding [v] (eval (.Name x p) X.env)
      let iv ← holding [v, ov] (eval b X.env)
      standAt sp
      holding [v, ov, iv] (setItem ov iv v)
      release [v, ov, iv] []) := by intro _; rfl)
    (hs : swapsWithSole [.Subscript (.Name x p) b sp] e pos.line X.env = pure false := by rfl) (hw : swappedStores [.Subscript (.Name x p) b sp] e X.env = pure none := by rfl)
    (h1 : (assignEach [.Subscript (.Name x p) b sp] X.env).map (·.2) = [assign (.Subscript (.Name x p) b sp) X.env] := by rfl) : AS X (.Assign [.Subscript (.Name x p) b sp] e pos) (aPutD i t u) := ⟨fun {ta q S H σ G L st D D'} hL hS h lk => by
  refine ps_to (ps_asg pe_self (pg_sub (pe_var hN hv hd hcd) pe_self set_X ha) hs hw h1) (he.run hL hS h fun r G q y S H L hq hL hS => ?_)
  obtain ⟨dy, rfl, ⟨k0, hk0, hne⟩, hq⟩ := hq
  have hSp := hS.perm (mid_in L st (.d dy, y))
  obtain ⟨v, L0, e1, _, _⟩ := slot_top hL hSp hk0 hne
  refine ⟨v, e1, hb.run (st := (.d dy, y) :: st) hL hSp hq fun r2 G2 q2 kv S H L hq hL hS => fun pins s σ' uo ui uv I ro ri rv => ?_⟩
  rcases hq with ⟨k, kvs, rfl, hdep, hk, hz, hq⟩ | ⟨j, kvs, rfl, hk, hz, hq⟩
  · obtain ⟨v', L1, e2, hS1, back⟩ := slot_top hL hS.pop hk (fun z => by cases z)
    have ev := same_slot e1 e2
    subst ev
    have hy : Dp X.K S y dy := hS1.ok (.d dy, y) (List.mem_cons_of_mem _ (List.mem_append_right _ List.mem_cons_self))
    obtain ⟨d, E, rfl, hsn, hdd, hsm, hp⟩ := sat_top hS1
    cases ro
    have hkey : Dp X.K S kv (NestedKey.tup k).data := sat_top hS
    obtain ⟨bk, xs, rfl, _, _⟩ := dp_tup hkey
    cases ri
    have hm := dc_at I hS.ex hdd hp
    have hki : (nestedKind X.prog X.w).is s.heap (.tup k) bk := ⟨nested_of I _ _ _ (dp_mono hS.ex _ _ hkey) rfl, hdep⟩
    refine wpAny_setItem_heap (hsz := by rw [← paired_len hp]; exact le_line hz) (room8 hu) hki hm fun h' hm' hsb => ?_
    refine ⟨_, dc_write I hdd hsb hm', ?_⟩
    obtain ⟨_, _, _, _, _, _, _, _, hnd⟩ := hm
    have hS2 := hS1.mut (k' := .k (put kvs (.tup k) dy)) rfl rfl ⟨d, storedH E (.tup k) bk uv, rfl, hsn, upd_same, hsm, kv_put hp hnd hkey hdep rv hy⟩
    obtain ⟨L', a1, a2⟩ := back _ _ _ _ hS2
    exact lk.nx _ _ _ _ _ _ hq a1 (a2.sub (Sub.of ((List.Sublist.cons _ (.refl _)).append_left _)))
  · obtain ⟨v', L1, e2, hS1, back⟩ := slot_top hL hS.pop hk (fun z => by cases z)
    have ev := same_slot e1 e2
    subst ev
    have hy : Dp X.K S y dy := hS1.ok (.d dy, y) (List.mem_cons_of_mem _ (List.mem_append_right _ List.mem_cons_self))
    obtain ⟨d, vs, rfl, hsn, hdd, hp⟩ := sat_top hS1
    cases ro
    have hkv := dp_int (sat_top hS)
    subst hkv
    refine d_setItem (by omega) I (DPut.k (k := .inl j) hdd (lt_line (by rw [← paired_len hp]; exact hz))) ri rv fun s' I' => ⟨_, I', ?_⟩
    have hS2 := hS1.mut (k' := .i (put kvs j dy)) rfl rfl ⟨d, putK vs (.inl j) y, rfl, hsn, upd_same, iv_put hy hp (dk_nodup I.hok hdd)⟩
    obtain ⟨L', a1, a2⟩ := back _ _ _ _ hS2
    exact lk.nx _ _ _ _ _ _ hq a1 (a2.sub (Sub.of ((List.Sublist.cons _ (.refl _)).append_left _)))⟩
end
end Ph

set_option Elab.async false
set_option linter.all false
set_option maxRecDepth 100000
set_option maxHeartbeats 4000000
namespace Ph
open PySem L2
def topS (i : Nat) : Stmt := PySem.Challenge.pw_placehues_k15_whole_books_that_go_by_wor.main.body.getD i (.Pass ⟨0, 0, 0, 0⟩)
/-- the built-ins are what they are -/
structure Blt (mg : Str → Option Value) : Prop where
  len : mg "len" = none
  range : mg "range" = none
  tuple : mg "tuple" = none
  list : mg "list" = none
  isinstance : mg "isinstance" = none
  enumerate : mg "enumerate" = none
  zip : mg "zip" = none
  all : mg "all" = none
  int : mg "int" = none
  abs : mg "abs" = none
  set : mg "set" = none
  bool : mg "bool" = none
  str : mg "str" = none
/-- a def of the text, as the top leaves it -/
structure Fn (K : PySem.W.Frag) (mg : Str → Option Value) (x : Str) (st : Stmt) (ps : List Str) : Prop where
  ex : ∃ f fd, mg x = some (.ref f) ∧ Fun K x x st f fd ∧ Binds K fd ps []
/-- a def that may be called, by what it does -/
structure Can (P : Program) (w : World) (K : PySem.W.Frag) (mg : Str → Option Value) (base : Heap) (k : Nat) (x : Str) (ps : List Str) (T : FT) : Prop where
  ex : ∃ f fd, mg x = some (.ref f) ∧ FnOk P w K mg base CX0 k f fd ps (spT P w K T) ∧ PySem.W.keepIn K (.ref f) = true ∧ Binds K fd ps []
section
variable {X : Cx} {e : Expr} {es : List Expr} {tr : ATA} {pos p : Pos} {x : Str} {T : FT} {k j : Nat} {ps : List Str}
theorem ae_can (C : Can X.prog X.w X.K X.mg X.base k x ps T) (hr : Room j X.A) (hk : k ≤ j) (ha : AA X (e :: es) tr) (hg : Gl X x := by rfl) (hdb : (x == ("__debug__" : Str)) = false := by decide) (he : starEach (e :: es) X.env = (false, eval e X.env) :: starEach es X.env := by rfl) (hpl : (backTo pos (starEach es X.env)).any (·.1) = false := by rfl) :
    AE X (.Call (.Name x p) (e :: es) [] pos) (aFn T tr) := by
  obtain ⟨f, fd, h1, h2, h3, h4⟩ := C.ex
  exact ae_call h2 (hr.mono hk) hg h1 h3 h4 ha hdb he hpl
theorem ae_can0 (C : Can X.prog X.w X.K X.mg X.base k x ps T) (hr : Room j X.A) (hk : k ≤ j) (hg : Gl X x := by rfl) (hdb : (x == ("__debug__" : Str)) = false := by decide) :
    AE X (.Call (.Name x p) [] [] pos) (aFn T aNil) := by
  obtain ⟨f, fd, h1, h2, h3, h4⟩ := C.ex
  exact ae_call0 h2 (hr.mono hk) hg h1 h3 h4 hdb
end
theorem can_of {P : Program} {w : World} {K : PySem.W.Frag} {mg : Str → Option Value} {base : Heap} {x : Str} {st : Stmt} {N ps : List Str} {k : Nat} {T : FT} {t : ATS} (F : Fn K mg x st ps) (Sc : FnScope N ps (defScope st)) (len : ∀ ks q Qf, T ks q Qf → ks.length = ps.length)
    (hb : ∀ (f : Addr) (cdv : Value) (A : Around) (outer : List Env) (s : Shared) (H : Hp) (E : XK), Room k (A.deeper (PyProof.Rows.envOfC x (defScope st) s.heap.objs.size f cdv)) → ASs (cxOf CX0 P w K mg base N x (defScope st) f cdv A outer s H E).nox (defBody st) t)
    (rd : ∀ ks q Qf, T ks q Qf → t ⟨fun _ q => Qf (.d .none) q, Qf⟩ (ks ++ List.replicate (N.length - ps.length) .no) q) : Can P w K mg base (k + 1) x ps T := by
  obtain ⟨f, fd, h1, h2, h3⟩ := F.ex
  exact ⟨f, fd, h1, fn_ok h2 Sc len (hb f) rd, h2.kp, h3⟩

end Ph

set_option Elab.async false
set_option linter.all false
set_option maxRecDepth 100000
set_option maxHeartbeats 4000000
namespace Ph
open PySem L2 PyProof.Rows

section
variable {X : Cx} {e a b tg : Expr} {t u : ATE} {pos p : Pos} {x : Str}

/-! ### a list or a tuple, walked -/
def aiLT (t : ATE) : ATI := fun G q Q => t G q fun r G' q' => ∃ ds, (r = .d (.list ds) ∨ r = .d (.tuple ds)) ∧ Q ds G' q'
theorem ai_lt (h : AE X e t) : AI X tg e (aiLT t) := ⟨fun {ta q S H σ G L st Q R} hL hS hq lk pins s I => by
  refine thn ((h.run hL hS hq (Q' := fun v H1 => (∃ a, v = .ref a ∧ (∃ xs, SqL X.K H1 a xs) ∧ R (Itl X.K a) H1) ∨ (∃ a, v = .ref a ∧ (∃ xs, SqT X.K H1 a xs) ∧ R (Itt X.K a) H1)) fun r G q v S H L hq hl hs => ?_) pins s I) fun v s1 ⟨x, H1, I1, r1, q1⟩ => ?_
  · obtain ⟨ds, rfl | rfl, hq⟩ := hq
    · obtain ⟨a, xs, rfl, h1, h2⟩ := dp_lst (sat_top hs)
      exact .inl ⟨a, rfl, ⟨xs, hs.ex.seq h1⟩, lk ds G q _ [(.list ds, .ref a)] S H L hq hl hs walk_lst⟩
    · obtain ⟨a, xs, rfl, h1, h2⟩ := dp_tup (sat_top hs)
      exact .inr ⟨a, rfl, ⟨xs, same_t hs.ex h1⟩, lk ds G q _ [(.tuple ds, .ref a)] S H L hq hl hs walk_tpl⟩
  · rcases q1 with ⟨a, rfl, ⟨xs, hq⟩, hr⟩ | ⟨a, rfl, ⟨xs, hq⟩, hr⟩
    · cases r1
      obtain ⟨its, rv, hp, hz⟩ := I1.list hq
      refine wpAny_pyIter_list hp.isList ⟨s1.heap.objs.size, [s1.heap.objs.size], _, _, H1, rfl, I1.kept (t' := s1.toks) fun b o e => Heap.get?_push_of_some _ e, turn_list a _, ⟨_, Heap.get?_push_size _ rfl, rfl, rfl⟩, fun b hb => ?_, hr⟩
      rw [List.mem_singleton.mp hb]
      exact I1.fpOk (Nat.le_refl _) (I1.hok.fresh (Nat.le_refl _))
    · cases r1
      obtain ⟨its, rv, hp, hz⟩ := I1.tuple hq
      refine wpAny_pyIter_tuple (show s1.heap.IsTuple a its.toArray from hp) ⟨s1.heap.objs.size, [s1.heap.objs.size], _, _, H1, rfl, I1.kept (t' := s1.toks) fun b o e => Heap.get?_push_of_some _ e, turn_tuple a _, ⟨_, Heap.get?_push_size _ rfl, rfl, rfl⟩, fun b hb => ?_, hr⟩
      rw [List.mem_singleton.mp hb]
      exact I1.fpOk (Nat.le_refl _) (I1.hok.fresh (Nat.le_refl _))⟩

/-! ### {} of either kind -/
def aNew : ATE := fun G q Q => Q (.k []) G q ∨ Q (.i []) G q
theorem ae_new : AE X (.Dict [] [] pos) aNew := ⟨fun hL hS h lk => h.elim (fun h => ae_newK.run hL hS h lk) fun h => ae_newI.run hL hS h lk⟩

/-! ### a text dict leaves its slot -/
def aVarS (i : Nat) : ATE := fun G q Q => ∃ xs, G[i]? = some (.s xs) ∧ Q (.s xs) (G.set i .no) q
theorem ae_varS (i : Nat) {x : Str} (hN : X.N[i]? = some x := by rfl) (hv : Vis X.env.scope x := by first | exact Or.inl rfl | exact Or.inr (Or.inl rfl) | exact Or.inr (Or.inr rfl))
    (hd : (x == ("__debug__" : Str)) = false := by decide) (hcd : (x == ("__classdict__" : Str)) = false := by decide) : AE X (.Name x pos) (aVarS i) := by
  refine ⟨fun {tA q S H σ G L st Q Q'} hL hS h lk => pe_to (pe_var hN hv hd hcd) ?_⟩
  obtain ⟨xs, hk, h⟩ := h
  obtain ⟨v, L0, e1, hS1, up⟩ := slot_top hL hS hk (fun z => by cases z)
  refine ⟨v, e1, ?_⟩
  have hS2 : Sat X.prog X.w X.K tA q S H ((.no, v) :: (.s xs, v) :: (L0 ++ st)) := by
    have eo : owns ((Sl.no, v) :: (Sl.s xs, v) :: (L0 ++ st)) = owns ((Sl.s xs, v) :: (L0 ++ st)) := by cases v <;> rfl
    refine ⟨hS1.ex, fun p hp => ?_, by rw [eo]; exact hS1.nd, fun n en => ?_⟩
    · rcases List.mem_cons.mp hp with rfl | hp
      · trivial
      · exact hS1.ok p hp
    · obtain ⟨g, s, kk, a1, a2, a3, a4⟩ := hS1.tin n en
      exact ⟨g, s, kk, a1, a2, by rw [eo]; exact a3, a4⟩
  obtain ⟨v2, L1, L2, f1, f2, up2⟩ := hL.get hk (fun z => by cases z)
  have ev := same_slot e1 f1
  subst ev
  refine lk _ _ _ v2 S H _ h (up2 .no) ?_
  have e' : L ++ st = L1 ++ (Sl.s xs, v2) :: (L2 ++ st) := by rw [f2]; simp
  rw [e'] at hS
  have hS1 := hS.perm (mid_out L1 (L2 ++ st) (Sl.s xs, v2))
  have eo : owns ((Sl.no, v2) :: (Sl.s xs, v2) :: (L1 ++ (L2 ++ st))) = owns ((Sl.s xs, v2) :: (L1 ++ (L2 ++ st))) := by cases v2 <;> rfl
  have hS3 : Sat X.prog X.w X.K tA q S H ((.no, v2) :: (.s xs, v2) :: (L1 ++ (L2 ++ st))) := by
    refine ⟨hS1.ex, fun p hp => ?_, by rw [eo]; exact hS1.nd, fun n en => ?_⟩
    · rcases List.mem_cons.mp hp with rfl | hp
      · trivial
      · exact hS1.ok p hp
    · obtain ⟨g, s, kk, a1, a2, a3, a4⟩ := hS1.tin n en
      exact ⟨g, s, kk, a1, a2, by rw [eo]; exact a3, a4⟩
  have p1 : ((Sl.s xs, v2) :: (L1 ++ (Sl.no, v2) :: L2 ++ st)).Perm ((Sl.no, v2) :: (Sl.s xs, v2) :: (L1 ++ (L2 ++ st))) := by
    have e3 : L1 ++ (Sl.no, v2) :: L2 ++ st = L1 ++ (Sl.no, v2) :: (L2 ++ st) := by simp
    rw [e3]
    exact (List.Perm.cons _ (mid_in L1 (L2 ++ st) (Sl.no, v2))).trans (.swap _ _ _)
  exact hS3.perm p1

/-! ### d.setdefault(k, x), the keys tuples -/
theorem pe_sdX {o f : Expr} {td : TE} {tr : TA} {apos cpos : Pos} (ho : PE X o td) (ha : PA X [e, f] tr) (hbase : attributeBase o "setdefault" X.env (eval o X.env) = eval o X.env := by rfl)
    (hfew : ((backTo cpos (starEach [e, f] X.env)).all (fun x => !x.1) && (backToKw cpos (keywordEach [] X.env)).all (fun x => x.1.isSome) && decide (([e, f] : List Expr).length + ([] : List Keyword).length + (if ([] : List Keyword).isEmpty then 0 else 1) < 30)) = true := by rfl)
    (hline : (apos.endLine == cpos.line) = true := by rfl) (hs : starEach [e, f] X.env = (false, eval e X.env) :: starEach [f] X.env := by rfl) (hpl : (backTo cpos (starEach [f] X.env)).any (·.1) = false := by rfl) :
    PE X (.Call (.Attribute o "setdefault" apos) [e, f] [] cpos) (fun σ H Q => td σ H fun x H1 => (∀ pins s uo, Inv X pins σ H1 s → RelV x uo → s.TypeIs uo "dict" ∧ (∀ b, uo = .ref b → ∃ ob, s.heap.get? b = some ob ∧ ob.dict = none)) ∧
      tr σ H1 fun vs H2 => ∀ pins s uo us, Inv X pins σ H2 s → RelV x uo → Vals vs us → wpAny (model X.prog X.w) X.A (call (.builtin "dict.setdefault") (uo :: us)) (EP X pins σ Q) X.xe s) := by
  refine ⟨fun pins s σ H Q I h => ?_⟩
  refine wpAny_Call_method_late hbase hfew hline rfl (thn (ho.run pins s σ H _ I h) fun v s1 ⟨x, H1, I1, r1, hty, q1⟩ => ?_)
  obtain ⟨h1, h2⟩ := hty pins s1 v I1 r1
  refine ⟨"dict", "dict.setdefault", PySem.F.plainAttrs_dict, PySem.F.slot_dict_setdefault, PySem.F.type_dict_setdefault, h1, h2, ?_⟩
  have hA := ha.run cpos pins s1 σ H1 _ I1 q1
  rw [hs] at hA ⊢
  refine Calls.callWith_builtin (by show (false || (backTo cpos (starEach [f] X.env)).any (·.1)) = false; rw [hpl] <;> rfl) (Calls.evalArgs_plain ?_)
  exact thn hA fun us s2 ⟨vs, H2, I2, r2, q2⟩ => q2 pins s2 v us I2 r1 r2
def aSetDf (i : Nat) (t : ATA) : ATE := fun G q Q => (∃ kvs, G[i]? = some (.k kvs)) ∧ t G q fun rs G2 q2 => ∃ (k : List NestedKey) (kvs : List (NestedKey × PyData)) (d : PyData),
  rs = [.d (NestedKey.tup k).data, .d d] ∧ (NestedKey.tup k).depth ≤ 8 ∧ G2[i]? = some (.k kvs) ∧ kvs.length ≤ 1000000 ∧
  (∀ z, look kvs (.tup k) = some z → Q (.d z) G2 q2) ∧ (look kvs (.tup k) = none → Q (.d d) (G2.set i (.k (put kvs (.tup k) d))) q2)
theorem dc_type {pins : List (Addr × Obj)} {σ : L2.St} {S H : Hp} {s : Shared} {d : Addr} {E : List (NestedKey × Addr × Value)} {kvs : List (NestedKey × PyData)} (I : Inv X pins σ H s) (ex : Same S H) (hd : H d = some (DcO X.prog X.w d E)) (hp : Paired (KvAt X.K S) kvs E) :
    s.TypeIs (.ref d) "dict" ∧ (∀ b, Value.ref d = .ref b → ∃ ob, s.heap.get? b = some ob ∧ ob.dict = none) := by
  have hm := dc_at I ex hd hp
  refine ⟨hm.typeIs, fun b q => ?_⟩
  cases q
  obtain ⟨ob, _, _, h1, h2, _⟩ := hm
  exact ⟨ob, h1, h2.2.1⟩
theorem ae_setDf (i : Nat) {f : Expr} {tr : ATA} {apos cpos : Pos} (hu : X.A.units + 64 < cLine) (ha : AA X [e, f] tr) (hN : X.N[i]? = some x := by rfl) (hv : Vis X.env.scope x := by first | exact Or.inl rfl | exact Or.inr (Or.inl rfl) | exact Or.inr (Or.inr rfl))
    (hd : (x == ("__debug__" : Str)) = false := by decide) (hcd : (x == ("__classdict__" : Str)) = false := by decide)
    (hbase : attributeBase (.Name x p) "setdefault" X.env (eval (.Name x p) X.env) = eval (.Name x p) X.env := by rfl)
    (hfew : ((backTo cpos (starEach [e, f] X.env)).all (fun x => !x.1) && (backToKw cpos (keywordEach [] X.env)).all (fun x => x.1.isSome) && decide (([e, f] : List Expr).length + ([] : List Keyword).length + (if ([] : List Keyword).isEmpty then 0 else 1) < 30)) = true := by rfl)
    (hline : (apos.endLine == cpos.line) = true := by rfl) (hs : starEach [e, f] X.env = (false, eval e X.env) :: starEach [f] X.env := by rfl) (hpl : (backTo cpos (starEach [f] X.env)).any (·.1) = false := by rfl) :
    AE X (.Call (.Attribute (.Name x p) "setdefault" apos) [e, f] [] cpos) (aSetDf i tr) := ⟨fun {ta q S H σ G L st Q Q'} hL hS h lk => by
  refine pe_to (pe_sdX (pe_var hN hv hd hcd) pa_self hbase hfew hline hs hpl) ?_
  obtain ⟨⟨kvs0, hk0⟩, h⟩ := h
  obtain ⟨v, L0, e1, hS0, _⟩ := slot_top hL hS hk0 (fun z => by cases z)
  obtain ⟨d0, E0, rfl, _, hd0, _, hp0⟩ := sat_top hS0
  refine ⟨.ref d0, e1, fun pins s uo I ro => ?_, ha.run hL hS h fun rs G2 q2 vs S2 H2 L2 hq hlen hL2 hS2 => fun pins s uo us I ro rvs => ?_⟩
  · cases ro
    exact dc_type I hS.ex hd0 hp0
  · obtain ⟨k, kvs, d, rfl, hdep, hk, hz, hyes, hno⟩ := hq
    cases ro
    obtain ⟨kv, yv, rfl⟩ : ∃ y z, vs = [y, z] := by
      match vs, hlen with
      | [y, z], _ => exact ⟨y, z, rfl⟩
    obtain ⟨uk, uy, rfl, ri, rv⟩ : ∃ uk uy, us = [uk, uy] ∧ RelV kv uk ∧ RelV yv uy := by
      cases rvs with
      | cons r1 r2 =>
        cases r2 with
        | cons r2 r3 =>
          cases r3
          exact ⟨_, _, rfl, r1, r2⟩
    have hS2 : Sat X.prog X.w X.K ta q2 S2 H2 ((.d (NestedKey.tup k).data, kv) :: (.d d, yv) :: (L2 ++ st)) := hS2
    have hSt : Sat X.prog X.w X.K ta q2 S2 H2 ((.d d, yv) :: (L2 ++ st)) := hS2.pop
    obtain ⟨v', L1, e2, hS1, back⟩ := slot_top (st := (.d d, yv) :: st) hL2 (hSt.perm (mid_in _ _ _)) hk (fun z => by cases z)
    have ev := same_slot e1 e2
    subst ev
    have hy : Dp X.K S2 yv d := sat_top hSt
    obtain ⟨dd, E, ed, hsn, hdd, hsm, hp⟩ := sat_top hS1
    cases ed
    have hkey : Dp X.K S2 kv (NestedKey.tup k).data := sat_top hS2
    obtain ⟨bk, xs, rfl, _, _⟩ := dp_tup hkey
    cases ri
    have hm := dc_at I hS2.ex hdd hp
    have hki : (nestedKind X.prog X.w).is s.heap (.tup k) bk := ⟨nested_of I _ _ _ (dp_mono hS2.ex _ _ hkey) rfl, hdep⟩
    refine call_setdefault_heap (room8 hu) hki hsm hm (fun pz hpz => ?_) (fun hnz h' hm' hsb => ?_) (by rw [← paired_len hp]; exact le_line hz)
    · rcases kv_look hp (.tup k) with ⟨_, z2⟩ | ⟨z, pp, vv, z1, z2, z3, z4⟩
      · rw [hpz] at z2; cases z2
      · rw [hpz] at z2
        cases z2
        exact ⟨vv, H2, I.tok _, z3, lk _ _ _ _ _ _ _ (hyes z z1) hL2 (hSt.pop.push z4)⟩
    · rcases kv_look hp (.tup k) with ⟨z1, _⟩ | ⟨z, pp, vv, _, z2, _, _⟩
      · refine ⟨yv, _, dc_write I hdd hsb hm', rv, ?_⟩
        obtain ⟨_, _, _, _, _, _, _, _, hnd⟩ := hm
        have hS3 := hS1.mut (k' := .k (put kvs (.tup k) d)) rfl rfl ⟨d0, storedH E (.tup k) bk uy, rfl, hsn, upd_same, hsm, kv_put hp hnd hkey hdep rv hy⟩
        obtain ⟨L', a1, a2⟩ := back _ _ _ _ hS3
        exact lk _ _ _ _ _ _ _ (hno z1) a1 (a2.perm (mid_out _ _ _))
      · rw [hnz] at z2; cases z2⟩
end
end Ph

set_option Elab.async false
set_option linter.all false
set_option maxRecDepth 100000
set_option maxHeartbeats 4000000
namespace Ph
open PySem L2 PyProof.Rows

section
variable {X : Cx} {e a b tg : Expr} {t u : ATE} {pos p : Pos} {x : Str}

/-! ### {'a': .., 'b': ..} -/
structure APs (X : Cx) (pos : Pos) (keys : List (Option Expr)) (es : List Expr) (ks : List Str) (tr : ATA) : Prop where
  ex : ∃ trs, PPs X pos keys es trs ∧ ∀ {ta : Addr} {q : Nn} {S H : Hp} {σ : L2.St} {G : List Sl} {L st : List Ent} {Q : List Sl → List Sl → Nn → Prop} {F : List (V × V) → Hp → Prop},
    SlotsE G σ L → Sat X.prog X.w X.K ta q S H (L ++ st) → tr G q Q → LkA X ta σ st Q (fun vs H => F ((ks.map V.str).zip vs) H) → tPairs trs σ H F
theorem aps_nil : APs X pos [] [] [] aNil := ⟨[], pps_nil, fun hL hS h lk => lk [] _ _ [] _ _ _ h rfl hL hS⟩
theorem aps_cons {ks : List (Option Expr)} {es : List Expr} {ss : List Str} {tr : ATA} {w : Str} {j : Nat} {kp : Pos} (he : AE X e t) (hr : APs X pos ks es ss tr) : APs X pos (some (.Constant (.str w) j kp) :: ks) (e :: es) (w :: ss) (aCons t tr) := by
  obtain ⟨trs, h1, h2⟩ := hr.ex
  refine ⟨_, pps_cons (pe_str (X := X)) (pe_self (X := X) (e := e)) h1, fun {tA q S H σ G L st Q F} hL hS h lk => ?_⟩
  show teOf X e σ H fun y H2 => tPairs trs σ H2 fun ps H3 => F ((V.str w, y) :: ps) H3
  refine he.run hL hS h fun r1 G1 q1 x S1 H1 L1 q2 hL1 hS1 => ?_
  refine h2 (st := (r1, x) :: st) (Q := fun rs G2 q2 => Q (r1 :: rs) G2 q2) hL1 (hS1.perm (mid_in _ _ _)) q2 fun rs G2 q2 vs S2 H2 L2 h2 hlen hL2 hS2 => ?_
  refine lk (r1 :: rs) G2 q2 (x :: vs) S2 H2 L2 h2 (by simp [hlen]) hL2 (hS2.perm ?_)
  have e1 : rs.zip vs ++ (L2 ++ (r1, x) :: st) = (rs.zip vs ++ L2) ++ (r1, x) :: st := by simp
  have e2 : (r1 :: rs).zip (x :: vs) ++ (L2 ++ st) = (r1, x) :: ((rs.zip vs ++ L2) ++ st) := by simp
  rw [e1, e2]
  exact mid_out _ _ _
theorem merge_fresh : ∀ (more kvs : List (Key × V)), ((kvs ++ more).map (·.1)).Nodup → mergeK kvs more = kvs ++ more
  | [], kvs, _ => by rw [List.append_nil]; rfl
  | (k, y) :: r, kvs, h => by
    have hk : k ∉ kvs.map (·.1) := by
      intro z
      rw [List.map_append] at h
      exact (List.nodup_append.mp h).2.2 k z k (by simp) rfl
    have e1 : putK kvs k y = kvs ++ [(k, y)] := by
      unfold putK
      rw [if_neg]
      intro z
      rw [List.any_eq_true] at z
      obtain ⟨q, hq, eq⟩ := z
      exact hk (List.mem_map.mpr ⟨q, hq, by simpa using eq⟩)
    show mergeK (putK kvs k y) r = _
    rw [e1, merge_fresh r (kvs ++ [(k, y)]) (by simpa using h)]
    simp
def aDisp (ks : List Str) (tr : ATA) : ATE := fun G q Q => tr G q fun rs G' q' => ∃ ds, rs = ds.map Sl.d ∧ ds.length = ks.length ∧ Q (.s (ks.zip ds)) G' q'
theorem sv_zip {K : PySem.W.Frag} {S : Hp} : ∀ {ks : List Str} {ds : List PyData} {vs : List V}, DpAll K S vs ds → Paired (SvAt K S) (ks.zip ds) ((ks.zip vs).map fun p => ((Sum.inr p.1 : Key), p.2))
  | [], _, _, _ => .nil
  | k :: ks, _, _, .nil => .nil
  | k :: ks, _, _, .cons h t => .cons ⟨rfl, h⟩ (sv_zip t)
theorem zip_keys : ∀ (ks : List Str) (vs : List V), (ks.map V.str).zip vs = ((ks.zip vs).map fun p => ((Sum.inr p.1 : Key), p.2)).map fun kv => (kV kv.1, kv.2)
  | [], _ => rfl
  | _ :: _, [] => rfl
  | k :: ks, v :: vs => by
    rw [List.map_cons, List.zip_cons_cons, List.zip_cons_cons, List.map_cons, List.map_cons, zip_keys ks vs]
    rfl
theorem zip_fst : ∀ (ks : List Str) (vs : List V), vs.length = ks.length → ((ks.zip vs).map fun p => ((Sum.inr p.1 : Key), p.2)).map (·.1) = (ks.map fun k => (Sum.inr k : Key))
  | [], _, _ => rfl
  | _ :: _, [], h => by simp at h
  | k :: ks, v :: vs, h => by rw [List.zip_cons_cons, List.map_cons, List.map_cons, List.map_cons, zip_fst ks vs (by simpa using h)]
theorem inr_nodup : ∀ ks : List Str, ks.Nodup → (ks.map fun k => (Sum.inr k : Key)).Nodup
  | [], _ => List.nodup_nil
  | k :: ks, h => by
    obtain ⟨h1, h2⟩ := List.nodup_cons.mp h
    refine List.nodup_cons.mpr ⟨fun z => ?_, inr_nodup ks h2⟩
    obtain ⟨y, hy, ey⟩ := List.mem_map.mp z
    exact h1 (Sum.inr.inj ey ▸ hy)
theorem ae_disp {keys : List (Option Expr)} {es : List Expr} {ks : List Str} {tr : ATA} (h : APs X pos keys es ks tr) (hnd : ks.Nodup) (h15 : keys.length ≤ 15) (hk15 : ks.length ≤ 15) (hall : keys.all (·.isSome) = true := by rfl) (hl : keys.length = es.length := by rfl) (h0 : keys ≠ [] := by exact fun z => nomatch z) :
    AE X (.Dict keys es pos) (aDisp ks tr) := ⟨fun {tA q S H σ G L st Q Q'} hL hS hq lk => by
  obtain ⟨trs, hp, hrun⟩ := h.ex
  refine pe_to (pe_disp hp hall hl h0 h15) fun p hpn => ?_
  have hS0 : Sat X.prog X.w X.K tA q S (upd H p (.dK [])) ((.s [], .ref p) :: (L ++ st)) := hS.mine hpn rfl ⟨p, [], rfl, hS.ex.free hpn, upd_same, .nil⟩
  refine hrun (st := (.s [], .ref p) :: st) hL (hS0.perm (mid_in _ _ _)) hq fun rs G2 q2 vs S2 H2 L2 h2 hlen hL2 hS2 => ?_
  obtain ⟨ds, rfl, hdl, h2⟩ := h2
  obtain ⟨hd, hS3⟩ := sat_ds hlen hS2
  have hS4 : Sat X.prog X.w X.K tA q2 S2 H2 ((.s [], .ref p) :: (L2 ++ st)) := hS3.perm (mid_out _ _ _)
  obtain ⟨p', vs', ep, hsn, hH, hpp⟩ := sat_top hS4
  cases ep
  cases hpp
  have hvl : vs.length = ks.length := by rw [dps_len hd]; exact hdl
  refine ⟨hH, (ks.zip vs).map fun p => ((Sum.inr p.1 : Key), p.2), zip_keys ks vs, ?_, ?_⟩
  · rw [List.length_map, List.length_zip]; omega
  · have hn : (((ks.zip vs).map fun p => ((Sum.inr p.1 : Key), p.2)).map (·.1)).Nodup := by
      rw [zip_fst ks vs hvl]
      exact inr_nodup ks hnd
    rw [merge_fresh _ [] (by rw [List.nil_append]; exact hn), List.nil_append]
    exact lk _ _ _ _ _ _ _ h2 hL2 (hS4.mut (k' := .s (ks.zip ds)) rfl rfl ⟨p, _, rfl, hsn, upd_same, sv_zip hd⟩)⟩

/-! ### d.get(w, x) of such a dict -/
theorem sv_look {K : PySem.W.Frag} {S : Hp} : ∀ {kvs : List (Str × PyData)} {vs : List (Key × V)}, Paired (SvAt K S) kvs vs → ∀ k, (look kvs k = none ∧ valV vs (.inr k) = none) ∨ ∃ d v, look kvs k = some d ∧ valV vs (.inr k) = some v ∧ Dp K S v d
  | _, _, .nil, k => .inl ⟨rfl, rfl⟩
  | _, _, .cons (a := (k1, d1)) (b := (k2, v2)) h t, k => by
    obtain ⟨e, dv⟩ := h
    have e : k2 = .inr k1 := e
    subst e
    by_cases hk : k1 = k
    · subst hk
      refine .inr ⟨d1, v2, ?_, valV_pos rfl, dv⟩
      unfold look
      rw [if_pos rfl]
    · have ih := sv_look t k
      rw [valV_neg (fun z => hk (Sum.inr.inj z))]
      unfold look
      rw [if_neg hk]
      exact ih
def aGet (t u v : ATE) : ATE := fun G q Q => t G q fun r G1 q1 => ∃ kvs, r = .s kvs ∧ u G1 q1 fun r1 G2 q2 => v G2 q2 fun r2 G3 q3 => ∃ w d, r1 = .d (.str w) ∧ r2 = .d d ∧ Q (.d ((look kvs w).getD d)) G3 q3
theorem ae_get {o f : Expr} {apos cpos : Pos} {v : ATE} (hu : X.A.units + 64 < cLine) (ho : AE X o t) (he : AE X e u) (hf : AE X f v) (m : M2 X o "get" apos e f cpos := by exact ⟨rfl, rfl, rfl, rfl⟩) : AE X (.Call (.Attribute o "get" apos) [e, f] [] cpos) (aGet t u v) :=
  ⟨fun {tA q S H σ G L st Q Q'} hL hS hq lk => pe_to (pe_dget2 (by omega) pe_self pe_self pe_self m) (ho.run hL hS hq fun r G1 q1 o S1 H1 L1 h1 hL1 hS1 => by
    obtain ⟨kvs, rfl, h1⟩ := h1
    obtain ⟨a, vs, rfl, hsn, ha, hp⟩ := sat_top hS1
    refine ⟨a, rfl, .inl ⟨vs, .inl ha⟩, ?_⟩
    refine he.run (st := (.s kvs, .ref a) :: st) hL1 (hS1.perm (mid_in _ _ _)) h1 fun r1 G2 q2 y S2 H2 L2 h2 hL2 hS2 => ?_
    refine hf.run (st := (r1, y) :: (.s kvs, .ref a) :: st) hL2 (hS2.perm (mid_in _ _ _)) h2 fun r2 G3 q3 z S3 H3 L3 h3 hL3 hS3 => ?_
    obtain ⟨w, d, rfl, rfl, h3⟩ := h3
    have hS4 : Sat X.prog X.w X.K tA q3 S3 H3 ((.d (.str w), y) :: (.s kvs, .ref a) :: (.d d, z) :: (L3 ++ st)) := hS3.perm (by
      have p1 : ((Sl.d (.str w), y) :: (Sl.s kvs, V.ref a) :: (Sl.d d, z) :: (L3 ++ st)).Perm ((Sl.d d, z) :: (Sl.d (.str w), y) :: (Sl.s kvs, V.ref a) :: (L3 ++ st)) :=
        (List.Perm.cons _ (.swap _ _ _)).trans (.swap _ _ _)
      refine p1.trans (.cons _ ?_)
      have p2 : ((Sl.d (.str w), y) :: (Sl.s kvs, V.ref a) :: (L3 ++ st)).Perm (L3 ++ ((Sl.d (.str w), y) :: (Sl.s kvs, V.ref a) :: st)) :=
        (List.Perm.cons _ (mid_out _ _ _)).trans (mid_out _ _ _)
      exact p2)
    have hy := dp_str (sat_top hS4)
    subst hy
    obtain ⟨a', vs', ea, _, ha', hp'⟩ := sat_snd hS4
    cases ea
    have hz : Dp X.K S3 z d := sat_top hS4.pop.pop
    have hS5 := hS4.pop.pop.pop
    rcases sv_look hp' w with ⟨z1, z2⟩ | ⟨d', v', z1, z2, z3⟩
    · refine ⟨none, .inl ⟨vs', .inr w, .inl ha', rfl, z2.symm⟩, ?_⟩
      rw [z1] at h3
      exact lk _ _ _ _ _ _ _ h3 hL3 (hS5.push hz)
    · refine ⟨some v', .inl ⟨vs', .inr w, .inl ha', rfl, z2.symm⟩, ?_⟩
      rw [z1] at h3
      exact lk _ _ _ _ _ _ _ h3 hL3 (hS5.push z3))⟩

/-! ### xs.index(y), the xs data -/
def aIdx (t u : ATE) : ATE := fun G q Q => t G q fun r G1 q1 => ∃ ds, r = .d (.list ds) ∧ u G1 q1 fun r1 G2 q2 => ∃ d j z, r1 = .d d ∧ SeqAt.shaped (.list ds) = true ∧ SeqAt.shaped d = true ∧ ds[j]? = some z ∧ PyData.eqv z d = true ∧
  (∀ (m : Nat) (z' : PyData), m < j → ds[m]? = some z' → PyData.eqv z' d = false) ∧ Q (.d (.int (j : Nat))) G2 q2
theorem ae_idx {o : Expr} {apos cpos : Pos} (hu : X.A.units + 65 < cLine) (ho : AE X o t) (he : AE X e u) (hbase : attributeBase o "index" X.env (eval o X.env) = eval o X.env := by rfl)
    (hfew : ((backTo cpos (starEach [e] X.env)).all (fun x => !x.1) && (backToKw cpos (keywordEach [] X.env)).all (fun x => x.1.isSome) && decide (([e] : List Expr).length + ([] : List Keyword).length + (if ([] : List Keyword).isEmpty then 0 else 1) < 30)) = true := by rfl)
    (hline : (apos.endLine == cpos.line) = true := by rfl) (hs : starEach [e] X.env = (false, eval e X.env) :: starEach [] X.env := by rfl) (hpl : (backTo cpos (starEach [] X.env)).any (·.1) = false := by rfl) :
    AE X (.Call (.Attribute o "index" apos) [e] [] cpos) (aIdx t u) :=
  ⟨fun {tA q S H σ G L st Q Q'} hL hS hq lk => pe_to (pe_bm PySem.F.plainAttrs_list PySem.F.slot_list_index PySem.F.type_list_index (mt_indexD hu) pe_self (pa_cons pe_self pa_nil hs) hbase hfew hline hs hpl) (ho.run hL hS hq fun r G1 q1 o S1 H1 L1 h1 hL1 hS1 => by
    obtain ⟨ds, rfl, h1⟩ := h1
    obtain ⟨a, xs, rfl, hx, _⟩ := dp_lst (sat_top hS1)
    refine ⟨.inl ⟨rfl, xs, hS1.ex.seq hx⟩, ?_⟩
    refine he.run (st := (.d (.list ds), .ref a) :: st) hL1 (hS1.perm (mid_in _ _ _)) h1 fun r1 G2 q2 y S2 H2 L2 h2 hL2 hS2 => ?_
    obtain ⟨d, j, z, rfl, s1, s2, hz, hzd, hno, h2⟩ := h2
    have hS3 : Sat X.prog X.w X.K tA q2 S2 H2 ((.d d, y) :: (.d (.list ds), .ref a) :: (L2 ++ st)) := hS2.perm (.cons _ (mid_out _ _ _))
    exact ⟨a, y, d, ds, j, z, rfl, rfl, dp_mono hS3.ex _ _ (sat_snd hS3), dp_mono hS3.ex _ _ (sat_top hS3), s1, s2, hz, hzd, hno, lk _ _ _ _ _ _ _ h2 hL2 (hS3.pop.pop.push (.int _))⟩)⟩

/-! ### xs or ys -/
def aOrL (t u : ATE) : ATE := fun G q Q => t G q fun r G1 q1 => ∃ xs, r = .l xs ∧ (xs ≠ [] → Q (.l xs) G1 q1) ∧ (xs = [] → u G1 q1 Q)
theorem ae_orL {rest : List Expr} (ha : AE X a t) (hb : AE X (.BoolOp .Or (b :: rest) pos) u) : AE X (.BoolOp .Or (a :: b :: rest) pos) (aOrL t u) :=
  ⟨fun {tA q S H σ G L st Q Q'} hL hS hq lk => pe_to (pe_orT pe_self pe_self) (ha.run hL hS hq fun r G1 q1 o S1 H1 L1 h1 hL1 hS1 => by
    obtain ⟨xs, rfl, h1, h2⟩ := h1
    obtain ⟨a, vs, rfl, _, ha, hd⟩ := sat_top hS1
    refine ⟨!vs.isEmpty, .inl ⟨vs, .of ha, rfl⟩, ?_⟩
    have hl := dps_len hd
    cases xs with
    | nil =>
      have e : vs = [] := List.eq_nil_of_length_eq_zero hl
      subst e
      exact iteF (hb.run hL1 hS1.pop (h2 rfl) lk)
    | cons z zs =>
      have e : (!vs.isEmpty) = true := by
        cases vs with
        | nil => simp at hl
        | cons _ _ => rfl
      rw [e]
      exact iteT (lk _ _ _ _ _ _ _ (h1 (fun c => nomatch c)) hL1 hS1))⟩

/-! ### a global tuple -/
def GlD (K : PySem.W.Frag) (mg : Str → Option Value) (x : Str) (d : PyData) : Prop := ∃ a, mg x = some (.ref a) ∧ ∀ S, Dp K S (.ref a) d
theorem ae_glob {d : PyData} (h : GlD X.K X.mg x d) (hg : Gl X x := by rfl) (hd : (x == ("__debug__" : Str)) = false := by decide) : AE X (.Name x pos) (aC d) :=
  ⟨fun {tA q S H σ G L st Q Q'} hL hS hq lk => by
    obtain ⟨a, h1, h2⟩ := h
    exact pe_to (pe_glob hg h1 (show RelV (V.ref a) (.ref a) from rfl) hd) (lk _ _ _ _ _ _ _ hq hL (hS.push (h2 S)))⟩
end
end Ph

set_option Elab.async false
set_option linter.all false
set_option maxRecDepth 100000
set_option maxHeartbeats 4000000
namespace Ph
open PySem L2 PyProof.Rows PySem.Spec HT

/-! ### a pair backwards -/
section
variable {prog : Program} {w : World} {A : Around} {E : Value → Shared → Prop} {s : Shared}
theorem sl_back {sl : Addr} {vl vu vs : Value} {Q : Int × Int × Nat → Shared → Prop} (hs : s.heap.IsSliceOf sl vl vu vs) (pl : IsPart vl none) (pu : IsPart vu none) (ps : IsPart vs (some (-1)))
    (h : Q (1, -1, 2) s) : wpAny (model prog w) A (Builtin.Slice.sliceApplied (.ref sl) (pure ((2 : Nat) : Int))) Q E s := by
  obtain ⟨os, hos, hcs, hds⟩ := id hs
  unfold Builtin.Slice.sliceApplied Builtin.Slice.sliceFields
  refine wpAny_bind (wpAny_bind (wpAny_field hos hds (x := vl) rfl (wpAny_bind (wpAny_field hos hds (x := vu) rfl (wpAny_bind (wpAny_field hos hds (x := vs) rfl (wpAny_pure ?_)))))))
  refine wpAny_bind (slicePart_ ps ?_)
  show wpAny _ _ (if ((-1 : Int) == 0) = true then _ else _) _ _ s
  rw [if_neg (by decide)]
  refine wpAny_bind (slicePart_ pl (wpAny_bind (slicePart_ pu (wpAny_bind (wpAny_pure ?_)))))
  exact wpAny_pure h
theorem pair_back {t sl : Addr} {u1 u2 vl vu vs : Value} {Q : Value → Shared → Prop} (ht : IsTup s.heap t [u1, u2].toArray) (hs : s.heap.IsSliceOf sl vl vu vs) (pl : IsPart vl none) (pu : IsPart vu none) (ps : IsPart vs (some (-1)))
    (h : Q (.ref s.heap.objs.size) { s with heap := s.heap.push { cls := .type "tuple", data := .seq [u2, u1].toArray } }) : wpAny (model prog w) A (getItem (.ref t) (.ref sl)) Q E s := by
  obtain ⟨os, hos, hcs, hds⟩ := id hs
  have hT : s.TypeIs (.ref sl) "slice" := ⟨os, hos, hcs⟩
  unfold getItem
  try with_reducible refine wpAny_holding ?_
  first | refine wpAny_bind (wpAny_pure ?_) | skip
  refine wpAny_bind (wpAny_sequenceKey ht.typeIs (by decide) ?_)
  refine wpAny_bind (wpAny_callSpecial?_slot (name := Str.ofString "__getitem__") ht.typeIs PyProof.Rows.slot_tuple_getitem
    (wpAny_call_entry PyProof.Rows.slot_tuple_getitem ht.typeIs entry_tuple_getitem ?_ (args_tuple_getitem _ _)))
  show wpAny _ _ (Builtin.Tuple.tupleItemsOf (.ref t) >>= _) _ _ s
  refine wpAny_bind (tupleItemsOf_ ht ?_)
  refine wpAny_bind (wpAny_typeOf hT ?_)
  rw [if_pos (by decide)]
  refine wpAny_bind (sl_back hs pl pu ps ?_)
  have hno : ¬ (((1 : Int) == 0 && (-1 : Int) == 1 && (2 : Nat) == [u1, u2].toArray.size) = true) := by
    rw [show ((1 : Int) == 0) = false from by decide]
    exact Bool.false_ne_true
  show wpAny _ _ (if ((1 : Int) == 0 && (-1 : Int) == 1 && (2 : Nat) == [u1, u2].toArray.size) = true then _ else _) _ _ s
  rw [if_neg hno]
  have epk : ((List.range 2).filterMap fun (k : Nat) => [u1, u2].toArray[((1 : Int) + (k : Int) * (-1)).toNat]?).toArray = [u2, u1].toArray := by
    rfl
  show wpAny _ _ ((Builtin.Tuple.tupleExact ((List.range 2).filterMap fun (k : Nat) => [u1, u2].toArray[((1 : Int) + (k : Int) * (-1)).toNat]?).toArray) >>= _) _ _ s
  rw [epk]
  have hz : sizeOk (.seq [u2, u1].toArray) := by
    exact le_line (by simp)
  first
    | exact wpAny_bind (m := Builtin.Tuple.tupleExact _) (wpAny_newObj_type (wpAny_pure ⟨_, rfl, wpAny_pure h⟩) hz)
    | exact wpAny_bind (m := Builtin.Tuple.tupleExact _) (wpAny_newObj_type (wpAny_bind (wpAny_pure (wpAny_pure ⟨_, rfl, wpAny_pure h⟩))) hz)
    | exact wpAny_bind (wpAny_bind (m := Builtin.Tuple.tupleExact _) (wpAny_newObj_type (wpAny_pure (wpAny_pure ⟨_, rfl, wpAny_pure h⟩)) hz))
    | exact wpAny_bind (wpAny_bind (m := Builtin.Tuple.tupleExact _) (wpAny_newObj_type (wpAny_pure ⟨_, rfl, wpAny_pure h⟩) hz))
end
section
variable {X : Cx} {e : Expr} {t : ATE} {pos : Pos}
def tBack (K : PySem.W.Frag) (te : TE) : TE := fun σ H Q => te σ H fun x H1 => ∃ a y z, x = .ref a ∧ SqT K H1 a [y, z] ∧ ∀ p, H1 p = none → Q (.ref p) (upd H1 p (.tup [z, y]))
theorem pe_back {te : TE} {k : Nat} {p1 p2 p3 : Pos} (he : PE X e te) : PE X (.Subscript e (.Slice none none (some (.UnaryOp .USub (.Constant (.int 1) k p1) p2)) p3) pos) (tBack X.K te) := by
  refine ⟨fun pins s σ H Q I h => ?_⟩
  refine Subscript_ (thn (he.run pins s σ H _ I h) fun v s1 ⟨x, H1, I1, r1, a, y, z, ex, hx, q⟩ => ?_)
  subst ex
  cases r1
  have hst : PO X (some (.UnaryOp .USub (.Constant (.int 1) k p1) p2)) (tPart (tUn (rU fun i => .int (-i)) (tC (.int 1)))) := po_some (pe_un un_neg pe_int)
  refine wpAny_Slice (thn (po_none.run pins s1 σ H1 (fun o H2 => o = none ∧ H2 = H1) I1 ⟨rfl, rfl⟩) fun vl s2 ⟨l, H2, I2, pl, el, e2⟩ => ?_)
  subst el e2
  refine thn (po_none.run pins s2 σ H2 (fun o H3 => o = none ∧ H3 = H2) I2 ⟨rfl, rfl⟩) fun vu s3 ⟨u, H3, I3, pu, eu, e3⟩ => ?_
  subst eu e3
  refine thn (hst.run pins s3 σ H3 (fun o H4 => o = some (-1) ∧ H4 = H3) I3 ⟨1, rfl, -1, rfl, rfl, rfl⟩) fun vs s4 ⟨o, H4, I4, ps, eo, e4⟩ => ?_
  subst eo e4
  have I5 : Inv X pins σ H4 { s4 with heap := s4.heap.push { cls := .type "slice", data := .fields #[vl, vu, vs] } } := I4.kept (t' := s4.toks) fun b ob q => Heap.get?_push_of_some _ q
  obtain ⟨its, r, ht, hz⟩ := I5.tuple hx
  obtain ⟨u1, u2, rfl, ra, rb⟩ : ∃ u1 u2, its = [u1, u2] ∧ RelV y u1 ∧ RelV z u2 := by
    cases r with
    | cons r1 r2 =>
      cases r2 with
      | cons r2 r3 =>
        cases r3
        exact ⟨_, _, rfl, r1, r2⟩
  show wpAny (model X.prog X.w) X.A (subscriptTail e (.Slice none none (some (.UnaryOp .USub (.Constant (.int 1) k p1) p2)) p3) (.ref a) (.ref s4.heap.objs.size)) (EP X pins σ Q) X.xe { s4 with heap := s4.heap.push { cls := .type "slice", data := .fields #[vl, vu, vs] } }
  refine tail_any (ops := [.ref a, .ref s4.heap.objs.size]) (IsTup.typeIs ht) (PyProof.Rows.slot_tuple_getitem.lookup) ?_ (by with_unfolding_all rfl)
  refine pair_back ht (Heap.IsSliceOf.new _ vl vu vs) pl pu ps ?_
  refine ⟨.ref _, _, I5.laid (t' := s4.toks) (o := .tup [z, y]) (fun b ob q => Heap.get?_push_of_some _ q) (Nat.le_refl _) ?_, rfl, q _ (I5.hok.fresh (Nat.le_refl _))⟩
  exact ⟨le_line (by simp), [u2, u1], .cons rb (.cons ra .nil), ⟨_, Heap.get?_push_size _ rfl, rfl, 0, rfl⟩⟩
def aBack (t : ATE) : ATE := fun G q Q => t G q fun r G1 q1 => ∃ x y, r = .d (.tuple [x, y]) ∧ Q (.d (.tuple [y, x])) G1 q1
theorem ae_back {k : Nat} {p1 p2 p3 : Pos} (he : AE X e t) : AE X (.Subscript e (.Slice none none (some (.UnaryOp .USub (.Constant (.int 1) k p1) p2)) p3) pos) (aBack t) :=
  ⟨fun hL hS hq lk => pe_to (pe_back pe_self) (he.run hL hS hq fun r G1 q1 o S1 H1 L1 h1 hL1 hS1 => by
    obtain ⟨x, y, rfl, h1⟩ := h1
    obtain ⟨a, vs, rfl, ht, hd⟩ := dp_tup (sat_top hS1)
    cases hd with
    | cons d1 hd =>
      cases hd with
      | cons d2 hd =>
        cases hd
        exact ⟨a, _, _, rfl, same_t hS1.ex ht, fun p hp => lk _ _ _ _ _ _ _ h1 hL1 (hS1.pop.tup hp (.cons d2 (dps_one d1)))⟩)⟩

/-! ### two clauses -/
variable {elt tg iter tg1 iter1 : Expr} {scope : Scope} {own : List (Str × Nat)} {ti ti1 : ATI} {g g1 : AGT} {te : ATE} {is is1 vs1 : List Nat}
def aLc2 (ti : ATI) (g : AGT) (ti1 : ATI) (g1 : AGT) (te : ATE) (vs vs1 : List Nat) : ATE := fun G q Q => ti G q fun ds G1 q1 => ∃ I : Nat → List PyData → List Sl → Nn → Prop, I 0 [] (wipeG G1 vs) q1 ∧
  (∀ i d acc G q, ds[i]? = some d → I i acc G q → g d G fun G' => ti1 G' q fun es G2 q2 => ∃ J : Nat → List PyData → List Sl → Nn → Prop, J 0 acc (wipeG G2 vs1) q2 ∧
    (∀ j d acc G q, es[j]? = some d → J j acc G q → acc.length ≤ 1000000 ∧ g1 d G fun G' => te G' q fun r G3 q3 => ∃ x, r = .d x ∧ J (j + 1) (acc ++ [x]) (wipeG G3 vs1) q3) ∧
    (∀ acc G q, J es.length acc G q → I (i + 1) acc (wipeG G vs) q)) ∧
  (∀ acc G q, I ds.length acc G q → Q (.l acc) G q)
def tiB (X : Cx) (scope : Scope) (tg iter : Expr) : TI := fun σ H R => ∀ (s : Shared) (H0 : Hp) (C : Addr) (cl : List (Str × Addr)) (fp : List Addr), tiOf (X.blk s H0 scope (compEnvC scope cl C X.env) fp) tg iter σ H R
theorem pi_B : Blk X scope fun Y => PI Y tg iter (tiB X scope tg iter) := fun s0 H0 C cl fp => ⟨fun pins s σ H R I h => h s0 H0 C cl fp pins s I⟩
theorem wipe_wipe {σ : L2.St} {vs vs1 : List Nat} (h : ∀ i ∈ vs1, i ∈ vs) : L2.wipe (L2.wipe σ vs1) vs = L2.wipe σ vs := by
  apply List.ext_getElem?
  intro i
  rw [wipe_get (L2.wipe σ vs1) vs, wipe_get σ vs, wipe_length]
  by_cases hi : i ∈ vs
  · rw [if_pos hi, if_pos hi]
  · rw [if_neg hi, if_neg hi, wipe_get, if_neg fun z => hi (h i z)]
def LcS (X : Cx) (ta : Addr) (σ : L2.St) (vs : List Nat) (st : List Ent) (M : List (PyData × V)) (D : Addr) (I : Nat → List PyData → List Sl → Nn → Prop) (i : Nat) (H : Hp) : Prop :=
  ∃ acc G q S L, I i acc G q ∧ SlotsE G (L2.wipe σ vs) L ∧ Sat X.prog X.w X.K ta q S H ((.l acc, .ref D) :: (ents M ++ (L ++ st)))
theorem perm_in {α : Type} (a b : α) (M L st : List α) : (a :: (L ++ (b :: (M ++ st)))).Perm (a :: b :: (M ++ (L ++ st))) := by
  refine .cons _ ((mid_in L (M ++ st) _).trans (.cons _ ?_))
  rw [← List.append_assoc, ← List.append_assoc]
  exact (List.perm_append_comm).append_right st
theorem perm_out {α : Type} (b : α) (M L st : List α) : (b :: (M ++ (L ++ st))).Perm (L ++ (b :: (M ++ st))) := by
  refine List.Perm.trans (.cons _ ?_) (mid_out L (M ++ st) _)
  rw [← List.append_assoc, ← List.append_assoc]
  exact (List.perm_append_comm).append_right st
theorem lc2_run {vs : List Nat} {ta : Addr} {q : Nn} {S H : Hp} {σ : L2.St} {G : List Sl} {L st : List Ent} {Q : Sl → List Sl → Nn → Prop} {Q' : VK} (hi : AI X tg iter ti) (hg : Blk X scope fun Y => AG Y tg is g) (hi1 : Blk X scope fun Y => AI Y tg1 iter1 ti1) (hg1 : Blk X scope fun Y => AG Y tg1 is1 g1) (he : Blk X scope fun Y => AE Y elt te)
    (his : ∀ i ∈ is, i ∈ vs) (his1 : ∀ i ∈ is1, i ∈ vs1) (hv : ∀ i ∈ vs1, i ∈ vs) (hL : SlotsE G σ L) (hS : Sat X.prog X.w X.K ta q S H (L ++ st)) (h : aLc2 ti g ti1 g1 te vs vs1 G q Q) (lk : Lk X ta σ st Q Q') :
    tLc2 (tiOf X tg iter) (tgB X scope tg) tYes (tiB X scope tg1 iter1) (tgB X scope tg1) tYes (teB X scope elt) vs vs1 σ H Q' := by
  refine hi.run hL hS h fun ds G1 q1 J M S1 H1 L1 h1 hL1 hS1 hw => ?_
  obtain ⟨I, i0, istep, iend⟩ := h1
  intro D hD
  refine ⟨fun i m H => m = ds.length - i ∧ i ≤ ds.length ∧ LcS X ta σ vs st M D I i H, ⟨_, rfl, Nat.zero_le _, ?_⟩, ?_⟩
  · obtain ⟨L5, w1, w2⟩ := hL1.wipe vs
    have hS2 := sat_new (ds := []) (vs := []) hS1 hD .nil
    exact ⟨[], _, q1, S1, L5, i0, w1, hS2.sub (Sub.cons (Sub.of ((w2.append_right st).append_left (ents M))) _)⟩
  · rintro i m H ⟨rfl, hile, hst⟩
    obtain ⟨acc, G, q, S, L, hI, hL, hS⟩ := id hst
    have hM := ents_dp hS fun p hp => List.mem_cons_of_mem _ (List.mem_append_left _ hp)
    obtain ⟨w1, w2, w3⟩ := hw S H hS.ex hM
    by_cases hlt : i < ds.length
    · refine .inr ⟨w1 i hlt, LcS X ta σ vs st M D I (i + 1), fun H' h' => ⟨ds.length - (i + 1), by omega, rfl, hlt, h'⟩, fun x H' y => ?_⟩
      obtain ⟨d, hd⟩ := get_some hlt
      have go : ∀ S' H', Sat X.prog X.w X.K ta q S' H' ((.d d, x) :: (.l acc, .ref D) :: (ents M ++ (L ++ st))) → tgB X scope tg x (L2.wipe σ vs) H' fun σ2 H2 => L2.wipe σ2 vs = L2.wipe σ vs ∧ tYes σ2 H2 fun b H3 =>
          if b = true then tiB X scope tg1 iter1 σ2 H3 fun J1 H4 => ∃ W1 : Nat → Nat → Hp → Prop, (∃ m, W1 0 m H4) ∧ ∀ j k H, W1 j k H →
            (J1.stop j H ∧ LcS X ta σ vs st M D I (i + 1) H) ∨ (J1.go j H ∧ ∃ Nx1 : Hp → Prop, (∀ H', Nx1 H' → ∃ k', k' < k ∧ W1 (j + 1) k' H') ∧ ∀ x H', J1.yld j H x H' → tgB X scope tg1 x (L2.wipe σ2 vs1) H' fun σ3 H5 => L2.wipe σ3 vs1 = L2.wipe σ2 vs1 ∧ tYes σ3 H5 fun b H6 =>
              if b = true then teB X scope elt σ3 H6 fun y H7 => ∃ acc, H7 D = some (.lst acc) ∧ acc.length < sizeLine ∧ Nx1 (upd H7 D (.lst (acc ++ [y]))) else Nx1 H6)
          else LcS X ta σ vs st M D I (i + 1) H3 := by
        intro S' H' hS' s0 H0 C cl fp
        refine (hg s0 H0 C cl fp).run hL (hS'.perm (perm_in _ _ _ _ _)) (istep i d acc G q hd hI) fun G2 σ2 Lb h2 hL2 hS2 off => ?_
        have hwp := wipe_off off his
        refine ⟨hwp, ?_⟩
        unfold tYes
        refine iteT fun s0 H0 C cl fp => ?_
        refine (hi1 s0 H0 C cl fp).run hL2 hS2 h2 fun es G3 q3 J1 M1 S3 H3 L3 h3 hL3 hS3 hw1 => ?_
        obtain ⟨I1, j0, jstep, jend⟩ := h3
        refine ⟨fun j m H => m = es.length - j ∧ j ≤ es.length ∧ LcS X ta σ2 vs1 (ents M ++ st) M1 D I1 j H, ⟨_, rfl, Nat.zero_le _, ?_⟩, ?_⟩
        · obtain ⟨L5, w1, w2⟩ := hL3.wipe vs1
          refine ⟨acc, _, q3, S3, L5, j0, w1, hS3.sub ?_⟩
          have p1 : ((Sl.l acc, V.ref D) :: (ents M1 ++ (L5 ++ (ents M ++ st)))).Perm (ents M1 ++ (L5 ++ ((Sl.l acc, V.ref D) :: (ents M ++ st)))) := by
            have e1 : ents M1 ++ (L5 ++ (ents M ++ st)) = (ents M1 ++ L5) ++ (ents M ++ st) := by simp
            have e2 : ents M1 ++ (L5 ++ ((Sl.l acc, V.ref D) :: (ents M ++ st))) = (ents M1 ++ L5) ++ ((Sl.l acc, V.ref D) :: (ents M ++ st)) := by simp
            rw [e1, e2]
            exact mid_out _ _ _
          exact (Sub.perm p1).trans (Sub.of ((w2.append_right _).append_left (ents M1)))
        · rintro j m H ⟨rfl, hjle, hst⟩
          obtain ⟨acc, G, q, S, L, hJ, hL, hS⟩ := id hst
          have hM1 := ents_dp hS fun p hp => List.mem_cons_of_mem _ (List.mem_append_left _ hp)
          obtain ⟨u1, u2, u3⟩ := hw1 S H hS.ex hM1
          by_cases hjl : j < es.length
          · refine .inr ⟨u1 j hjl, LcS X ta σ2 vs1 (ents M ++ st) M1 D I1 (j + 1), fun H' h' => ⟨es.length - (j + 1), by omega, rfl, hjl, h'⟩, fun x H' y => ?_⟩
            obtain ⟨d, hd⟩ := get_some hjl
            have go1 : ∀ S' H', Sat X.prog X.w X.K ta q S' H' ((.d d, x) :: (.l acc, .ref D) :: (ents M1 ++ (L ++ (ents M ++ st)))) → tgB X scope tg1 x (L2.wipe σ2 vs1) H' fun σ3 H5 => L2.wipe σ3 vs1 = L2.wipe σ2 vs1 ∧ tYes σ3 H5 fun b H6 =>
                if b = true then teB X scope elt σ3 H6 fun y H7 => ∃ acc, H7 D = some (.lst acc) ∧ acc.length < sizeLine ∧ LcS X ta σ2 vs1 (ents M ++ st) M1 D I1 (j + 1) (upd H7 D (.lst (acc ++ [y]))) else LcS X ta σ2 vs1 (ents M ++ st) M1 D I1 (j + 1) H6 := by
              intro S' H' hS' s0 H0 C cl fp
              obtain ⟨hacc, jst⟩ := jstep j d acc G q hd hJ
              refine (hg1 s0 H0 C cl fp).run hL (hS'.perm (perm_in _ _ _ _ _)) jst fun G5 σ5 L5 h5 hL5 hS5 off => ?_
              have hwp1 := wipe_off off his1
              refine ⟨hwp1, ?_⟩
              unfold tYes
              refine iteT fun s0 H0 C cl fp => (he s0 H0 C cl fp).run hL5 hS5 h5 fun r G6 q6 y S6 H6 L6 h6 hL6 hS6 => ?_
              obtain ⟨z, rfl, hJ6⟩ := h6
              have hS7 : Sat X.prog X.w X.K ta q6 S6 H6 ((Sl.l acc, V.ref D) :: (Sl.d z, y) :: (ents M1 ++ (L6 ++ (ents M ++ st)))) :=
                hS6.perm ((List.Perm.swap _ _ _).trans (.cons _ (perm_out _ _ _ _)))
              obtain ⟨a, accv, e1, e2, e3, e4⟩ := sat_top hS7
              cases e1
              have hy : Dp X.K S6 y z := sat_snd hS7
              refine ⟨accv, e3, lt_line (by rw [dps_len e4]; exact hacc), acc ++ [z], wipeG G6 vs1, q6, S6, ?_⟩
              have hS8 := hS7.mut (k' := .l (acc ++ [z])) rfl rfl ⟨D, accv ++ [y], rfl, e2, upd_same, dps_app e4 (dps_one hy)⟩
              obtain ⟨L7, x1, x2⟩ := hL6.wipe vs1
              rw [hwp1] at x1
              refine ⟨L7, hJ6, x1, hS8.sub (Sub.cons ?_ _)⟩
              exact Sub.trans (Sub.of ((x2.append_right _).append_left (ents M1))) (Sub.tail _)
            rcases u3 j d x H' hd y with ⟨rfl, dx⟩ | ⟨T, u, v, d1, d2, rfl, hT, rfl, rfl, du, dv⟩
            · exact go1 S _ (hS.push dx)
            · exact go1 _ _ (hS.tup hT (.cons du (dps_one dv)))
          · have e : j = es.length := by omega
            subst e
            refine .inl ⟨u2, acc, wipeG G vs, q, S, ?_⟩
            obtain ⟨L5, x1, x2⟩ := hL.wipe vs
            rw [wipe_wipe hv, hwp] at x1
            refine ⟨L5, jend acc G q hJ, x1, hS.sub (Sub.cons ?_ _)⟩
            have p1 : (ents M ++ (L5 ++ st)).Perm (L5 ++ (ents M ++ st)) := by
              rw [← List.append_assoc, ← List.append_assoc]
              exact (List.perm_append_comm).append_right st
            exact (Sub.perm p1).trans (Sub.of ((x2.append_right _).trans (List.sublist_append_right _ _)))
      rcases w3 i d x H' hd y with ⟨rfl, dx⟩ | ⟨T, u, v, d1, d2, rfl, hT, rfl, rfl, du, dv⟩
      · exact go S _ (hS.push dx)
      · exact go _ _ (hS.tup hT (.cons du (dps_one dv)))
    · have e : i = ds.length := by omega
      subst e
      refine .inl ⟨w2, lk _ _ _ _ _ _ _ (iend acc G q hI) (unwipe_of hL) (hS.sub (Sub.cons ?_ _))⟩
      exact Sub.of (List.sublist_append_right _ _)
theorem ae_lc2 (vs1 : List Nat) (hc : X.calm = true) (hN : X.N.Nodup) (hi : AI X tg iter ti) (ok : BlkOk X.N X.env.scope scope own) (hg : Blk X scope fun Y => AG Y tg is g) (hi1 : Blk X scope fun Y => AI Y tg1 iter1 ti1) (hg1 : Blk X scope fun Y => AG Y tg1 is1 g1) (he : Blk X scope fun Y => AE Y elt te)
    (his : ∀ i ∈ is, i ∈ own.map (·.2)) (his1 : ∀ i ∈ is1, i ∈ vs1) (hv : ∀ i ∈ vs1, i ∈ own.map (·.2)) (hs : ∀ x, foldedSetIterable iter X.env x = pure x := by intro _; rfl) (hs1 : ∀ env x, foldedSetIterable iter1 env x = pure x := by intro _ _; rfl) :
    AE X (.ListComp elt [⟨tg, iter, [], 0⟩, ⟨tg1, iter1, [], 0⟩] scope pos) (aLc2 ti g ti1 g1 te (own.map (·.2)) vs1) :=
  ⟨fun hL hS h lk => pe_to (pe_lc2 hc hN pi_self ok hv pg_B (fun _ _ _ _ _ => pts_nil) pi_B pg_B (fun _ _ _ _ _ => pts_nil) pe_B hs hs1) (lc2_run hi hg hi1 hg1 he his his1 hv hL hS h lk)⟩
end

/-! ### an own list [g, s, 0] becomes the draws' list of a call -/
def unT : Ent → Ent
  | (.t, v) => (.no, v)
  | p => p
theorem owns_unT : ∀ M : List Ent, owns (M.map unT) = owns M
  | [] => rfl
  | (k, v) :: M => by
    have e : ownA (unT (k, v)) = ownA (k, v) := by
      cases k <;> cases v <;> rfl
    unfold owns
    rw [List.map_cons, List.filterMap_cons, List.filterMap_cons, e]
    have ih := owns_unT M
    unfold owns at ih
    rw [ih]
theorem slOk_ta {P : Program} {w : World} {K : PySem.W.Frag} {ta ta' : Addr} {S H : Hp} {k : Sl} {v : V} (hk : k ≠ .t) (h : SlOk P w K ta S H k v) : SlOk P w K ta' S H k v := by
  cases k <;> first
    | exact h
    | exact absurd rfl hk
theorem unT_ne (k : Sl) (v : V) (h : k ≠ .t) : unT (k, v) = (k, v) := by
  cases k <;> first
    | rfl
    | exact absurd rfl h
/-- the own list on top becomes the draws' list -/
theorem sat_tin {P : Program} {w : World} {K : PySem.W.Frag} {ta a : Addr} {S H : Hp} {M : List Ent} {g s k : Int} {q : Nn} (h : Sat P w K ta q S H ((.l [.int g, .int s, .int k], .ref a) :: M)) (n : Nat) (h1 : 0 ≤ g) (h2 : 0 ≤ s) (h3 : s < 4611686018427387904) (h4 : 0 ≤ k) (h5 : k ≤ (n : Int)) :
    Sat P w K a (some n) S H ((.t, .ref a) :: M.map unT) := by
  obtain ⟨b, vs, e, hs, hh, hd⟩ := sat_top h
  cases e
  have nd : (a :: owns M).Nodup := h.nd
  obtain ⟨no, nd⟩ := List.nodup_cons.mp nd
  refine ⟨h.ex, fun p hp => ?_, ?_, fun m em => ?_⟩
  · rcases List.mem_cons.mp hp with rfl | hp
    · rfl
    · obtain ⟨⟨k, v⟩, hr, rfl⟩ := List.mem_map.mp hp
      have ok := h.ok (k, v) (List.mem_cons_of_mem _ hr)
      by_cases hk : k = .t
      · subst hk; trivial
      · rw [unT_ne k v hk]
        exact slOk_ta hk ok
  · show (owns (M.map unT)).Nodup
    rw [owns_unT]
    exact nd
  · cases em
    refine ⟨g, s, k, ?_, hs, ?_, h1, h2, h3, h4, h5⟩
    · rw [hh]
      cases hd with
      | cons d1 hd =>
        cases hd with
        | cons d2 hd =>
          cases hd with
          | cons d3 hd =>
            cases hd
            rw [dp_int d1, dp_int d2, dp_int d3]
    · show a ∉ owns (M.map unT)
      rw [owns_unT]
      exact no
theorem sat_untin {P : Program} {w : World} {K : PySem.W.Frag} {ta a : Addr} {S0 H0 S H : Hp} {M : List Ent} {q0 q : Nn} {p : Ent} (h0 : Sat P w K ta q0 S0 H0 M) (h : Sat P w K a q S H (p :: M.map unT)) (hp : p.1 ≠ .t) : Sat P w K ta none S H (p :: M) := by
  have eo : owns (p :: M.map unT) = owns (p :: M) := by
    have e := owns_unT M
    unfold owns at e ⊢
    rw [List.filterMap_cons, List.filterMap_cons, e]
  refine ⟨h.ex, fun r hr => ?_, by rw [← eo]; exact h.nd, fun m em => nomatch em⟩
  rcases List.mem_cons.mp hr with rfl | hr
  · exact slOk_ta hp (h.ok _ List.mem_cons_self)
  · obtain ⟨k, v⟩ := r
    by_cases hk : k = .t
    · subst hk
      exact h0.ok (.t, v) hr
    · have := h.ok (unT (k, v)) (List.mem_cons_of_mem _ (List.mem_map.mpr ⟨(k, v), hr, rfl⟩))
      rw [unT_ne k v hk] at this
      exact slOk_ta hk this
section
variable {X : Cx} {e : Expr} {es : List Expr} {t : ATE} {pos p : Pos} {x : Str} {T : FT} {k : Nat} {f : Addr} {fd : FuncData} {ps : List Str}
def aFnT (T : FT) (t : ATE) : ATE := fun G q Q => t G q fun r G1 q1 => q1 = none ∧ ∃ g s k : Int, r = .l [.int g, .int s, .int k] ∧ 0 ≤ g ∧ 0 ≤ s ∧ s < 4611686018427387904 ∧ 0 ≤ k ∧ ∃ n : Nat, k ≤ (n : Int) ∧ T [.t] (some n) fun r q2 => ∃ d, r = .d d ∧ Q (.d d) G1 none
theorem ae_callT (F : FnOk X.prog X.w X.K X.mg X.base CX0 k f fd ps (spT X.prog X.w X.K T)) (hr : Room k X.A) (hg : Gl X x) (hm : X.mg x = some (.ref f)) (hk : PySem.W.keepIn X.K (.ref f) = true) (hb : Binds X.K fd ps [])
    (ha : AE X e t) (hdb : (x == ("__debug__" : Str)) = false := by decide) (he : starEach [e] X.env = (false, eval e X.env) :: starEach [] X.env := by rfl) (hpl : (backTo pos (starEach [] X.env)).any (·.1) = false := by rfl) :
    AE X (.Call (.Name x p) [e] [] pos) (aFnT T t) := ⟨fun {ta q S H σ G L st Q Q'} hL hS hq lk => pe_to (pe_call F hr hg hm hk hb .nil pass0 (pa_cons pe_self pa_nil he) hdb he hpl) (ha.run hL hS hq fun r G1 q1 v S1 H1 L1 h1 hL1 hS1 => by
  obtain ⟨rfl, g, s, kk, rfl, b1, b2, b3, b4, n, b5, hT⟩ := h1
  obtain ⟨a, vs, rfl, _⟩ := sat_top hS1
  have go : ∀ E, spT X.prog X.w X.K T [V.ref a] H1 Q' E := fun E => ?_
  · exact go E0
  refine ⟨a, some n, S1, [.t], (L1 ++ st).map unT, fun r q2 => ∃ d, r = .d d ∧ Q (.d d) G1 none, rfl, sat_tin hS1 n b1 b2 b3 b4 b5, hT, fun r q' v H' S' hq hs => ?_⟩
  obtain ⟨d, rfl, hq⟩ := hq
  exact lk _ _ _ _ _ _ _ hq hL1 (sat_untin hS1.pop hs (fun z => nomatch z)))⟩
end
end Ph

set_option Elab.async false
set_option linter.all false
set_option maxRecDepth 100000
set_option maxHeartbeats 4000000
namespace Ph
open PySem L2 PySem.Spec PyProof.Rows

/-! ## keys of numbers alone -/
mutual
def plainKey : NestedKey → Bool
  | .none => true
  | .num _ => true
  | .text _ => false
  | .tup ks => plainKeys ks
def plainKeys : List NestedKey → Bool
  | [] => true
  | k :: ks => plainKey k && plainKeys ks
end
section
variable {P : Program} {w : World}
mutual
theorem no_class : ∀ (k : NestedKey) (u : Value) (n : Nat) (s : Shared), NestedIs s.heap k u → k.depth ≤ n → ∀ (A : Around) (E : Value → Shared → Prop) (Q : Bool → Shared → Prop), Q false s → wpAny (model P w) A (ofAClassStatement n u) Q E s
  | .none, _, n, s, x, _, A, E, Q, q => by cases x; cases n <;> exact wpAny_pure q
  | .num _, _, n, s, x, _, A, E, Q, q => by cases x <;> cases n <;> exact wpAny_pure q
  | .text _, _, n, s, x, _, A, E, Q, q => by cases x; cases n <;> exact wpAny_pure q
  | .tup ks, u, n, s, x, hn, A, E, Q, q => by
    cases x with
    | @tup a o vs m _ hg hc hd hk =>
      simp only [NestedKey.depth] at hn
      cases n with
      | zero => omega
      | succ n =>
        have hT : s.TypeIs (.ref a) "tuple" := ⟨o, hg, hc⟩
        have hall := no_classes ks vs.toList n s hk (by omega)
        unfold ofAClassStatement
        refine wpAny_bind (wpAny_typeOf hT ?_)
        dsimp only
        have e : (("tuple" : String) == "tuple") = true := by decide
        simp only [e, if_true, Bool.not_true, Bool.false_eq_true, if_false]
        try refine wpAny_bind (wpAny_pure ?_)
        try simp only [Bool.not_true, Bool.false_eq_true, if_false]
        show wpAny _ _ (seqItems? (.ref a) >>= _) _ _ s
        refine wpAny_bind (wpAny_seqItems hg hd ?_)
        dsimp only
        refine wpAny_bind ?_
        show wpAny _ _ (forIn vs _ _) _ _ s
        rw [← Array.forIn_toList]
        refine wpAny_forIn_list _ (fun rest r s' => r.1 = none ∧ s' = s ∧ ∀ v ∈ rest, v ∈ vs.toList) _ ?_ ?_ _ _ ⟨rfl, rfl, fun v hv => hv⟩
        · rintro v rest r s' ⟨hr, rfl, hin⟩
          refine wpAny_bind (hall v (hin v List.mem_cons_self) _ _ _ ?_)
          simp only [Bool.false_eq_true, if_false]
          exact wpAny_pure ⟨rfl, rfl, fun y hy => hin y (List.mem_cons_of_mem _ hy)⟩
        · rintro ⟨r1, r2⟩ s' ⟨hr, rfl, _⟩
          simp only at hr
          subst hr
          exact wpAny_pure q
theorem no_classes : ∀ (ks : List NestedKey) (us : List Value) (n : Nat) (s : Shared), NestedAll s.heap ks us → NestedKey.depthAll ks ≤ n → ∀ u ∈ us, ∀ (A : Around) (E : Value → Shared → Prop) (Q : Bool → Shared → Prop), Q false s → wpAny (model P w) A (ofAClassStatement n u) Q E s
  | [], _, n, s, x, _, u, hu => by cases x; cases hu
  | k :: ks, _, n, s, x, hn, u, hu => by
    cases x with
    | cons x1 x2 =>
      simp only [NestedKey.depthAll] at hn
      rcases List.mem_cons.mp hu with e | hu
      · rw [e]; exact no_class k _ n s x1 (by omega)
      · exact no_classes ks _ n s x2 (by omega) u hu
end
mutual
theorem by_value : ∀ (k : NestedKey) (u : Value) (n : Nat) (s : Shared), NestedIs s.heap k u → k.depth ≤ n → plainKey k = true → ∀ (A : Around) (E : Value → Shared → Prop) (Q : Bool → Shared → Prop), Q true s → wpAny (model P w) A (hashByValue n u) Q E s
  | .none, _, n, s, x, _, _, A, E, Q, q => by cases x; cases n <;> exact wpAny_pure q
  | .num _, _, n, s, x, _, _, A, E, Q, q => by cases x <;> cases n <;> exact wpAny_pure q
  | .text _, _, n, s, x, _, hp, A, E, Q, q => by cases hp
  | .tup ks, u, n, s, x, hn, hp, A, E, Q, q => by
    cases x with
    | @tup a o vs m _ hg hc hd hk =>
      simp only [NestedKey.depth] at hn
      cases n with
      | zero => omega
      | succ n =>
        have hT : s.TypeIs (.ref a) "tuple" := ⟨o, hg, hc⟩
        have hall := by_values ks vs.toList n s hk (by omega) hp
        unfold hashByValue
        refine wpAny_bind (wpAny_specialOf hT F.slot_tuple_hash.lookup ?_)
        show wpAny _ _ (seqItems? (.ref a) >>= _) _ _ s
        refine wpAny_bind (wpAny_seqItems hg hd ?_)
        refine wpAny_bind ?_
        show wpAny _ _ (forIn vs _ _) _ _ s
        rw [← Array.forIn_toList]
        refine wpAny_forIn_list _ (fun rest r s' => r.1 = none ∧ s' = s ∧ ∀ v ∈ rest, v ∈ vs.toList) _ ?_ ?_ _ _ ⟨rfl, rfl, fun v hv => hv⟩
        · rintro v rest r s' ⟨hr, rfl, hin⟩
          refine wpAny_bind (hall v (hin v List.mem_cons_self) _ _ _ ?_)
          simp only [Bool.not_true, Bool.false_eq_true, if_false]
          exact wpAny_pure ⟨rfl, rfl, fun y hy => hin y (List.mem_cons_of_mem _ hy)⟩
        · rintro ⟨r1, r2⟩ s' ⟨hr, rfl, _⟩
          simp only at hr
          subst hr
          exact wpAny_pure q
theorem by_values : ∀ (ks : List NestedKey) (us : List Value) (n : Nat) (s : Shared), NestedAll s.heap ks us → NestedKey.depthAll ks ≤ n → plainKeys ks = true → ∀ u ∈ us, ∀ (A : Around) (E : Value → Shared → Prop) (Q : Bool → Shared → Prop), Q true s → wpAny (model P w) A (hashByValue n u) Q E s
  | [], _, n, s, x, _, _, u, hu => by cases x; cases hu
  | k :: ks, _, n, s, x, hn, hp, u, hu => by
    have hp : (plainKey k && plainKeys ks) = true := hp
    rw [Bool.and_eq_true] at hp
    cases x with
    | cons x1 x2 =>
      simp only [NestedKey.depthAll] at hn
      rcases List.mem_cons.mp hu with e | hu
      · rw [e]; exact by_value k _ n s x1 (by omega) hp.1
      · exact by_values ks _ n s x2 (by omega) hp.2 u hu
end
end
/-- the tuple at b is the key k, of numbers alone -/
def NKey (P : Program) (w : World) (h : Heap) (k : NestedKey) (b : Addr) : Prop := (nestedKind P w).is h k b ∧ plainKey k = true
abbrev nh (P : Program) (w : World) (k : NestedKey) : Int := (nestedKind P w).hash k
section
variable {P : Program} {w : World} {A : Around} {E : Value → Shared → Prop} {s : Shared}
theorem seen_keys {k : NestedKey} {b : Addr} {Q : Bool → Shared → Prop} (hk : NKey P w s.heap k b) {ys : List Value} (hy : ∀ y ∈ ys, ∃ k' c, y = Value.ref c ∧ NKey P w s.heap k' c) (q : Q false s) :
    wpAny (model P w) A (searchCouldBeSeen (.ref b) ys) Q E s := by
  unfold searchCouldBeSeen
  refine wpAny_bind ?_
  refine wpAny_forIn_list _ (fun rest r s' => r.1 = none ∧ s' = s ∧ ∀ y ∈ rest, ∃ k' c, y = Value.ref c ∧ NKey P w s.heap k' c) _ ?_ ?_ _ _ ⟨rfl, rfl, hy⟩
  · rintro v rest r s' ⟨hr, rfl, hall⟩
    obtain ⟨k', c, rfl, hc⟩ := hall v List.mem_cons_self
    have more : ∀ y ∈ rest, ∃ k' c, y = Value.ref c ∧ NKey P w s'.heap k' c := fun u hu' => hall u (List.mem_cons_of_mem _ hu')
    dsimp only
    by_cases hv : (b == c || (carriedByValue (.ref b) && carriedByValue (.ref c))) = true
    · exact wp_if_pos hv (wpAny_pure ⟨rfl, rfl, more⟩)
    · refine wp_if_neg hv (wpAny_bind ((nestedKind P w).quiet hk.1 ?_))
      simp only [Bool.not_true, Bool.false_eq_true, if_false]
      refine wpAny_bind ((nestedKind P w).quiet hc.1 ?_)
      simp only [Bool.not_true, Bool.false_eq_true, if_false]
      refine wpAny_bind (no_class _ _ 8 _ hk.1.1 hk.1.2 _ _ _ ?_)
      simp only [Bool.false_eq_true, if_false]
      refine wpAny_bind (no_class _ _ 8 _ hc.1.1 hc.1.2 _ _ _ ?_)
      simp only [Bool.false_eq_true, if_false]
      exact wpAny_pure ⟨rfl, rfl, more⟩
  · rintro ⟨r1, r2⟩ s' ⟨hr, rfl, _⟩
    simp only at hr
    subst hr
    exact wpAny_pure q
end
end Ph

set_option Elab.async false
set_option linter.all false
set_option maxRecDepth 100000
set_option maxHeartbeats 4000000
namespace Ph
open PySem L2 PySem.Spec PyProof.Rows
/-! ## a set of such keys -/
def rowsN (P : Program) (w : World) (L : List (Addr × NestedKey)) : List (Int × Value) := L.map fun p => (nh P w p.2, Value.ref p.1)
structure SetN (P : Program) (w : World) (h : Heap) (a : Addr) (L : List (Addr × NestedKey)) (es : Array (Int × Value)) (ep : Nat) (t : SetTable) : Prop where
  obj : ∃ o, h.get? a = some o ∧ o.ExactSet ∧ o.data = .set es ep t
  ents : es.toList = rowsN P w L
  tab : TabOk t (L.map fun p => nh P w p.2)
  uniq : (L.map (·.2)).Nodup
  keys : ∀ p ∈ L, NKey P w h p.2 p.1
  byv : t.plain = true
  leads : w.params.followText "set-order" = true ∨ t.led = true
  room : L.length * 5 < t.mask * 3
  small : L.length < 64
section
variable {P : Program} {w : World} {A : Around} {E : Value → Shared → Prop} {s : Shared} {a : Addr} {L : List (Addr × NestedKey)} {es : Array (Int × Value)} {ep : Nat} {t : SetTable}
theorem rowsN_len (h : es.toList = rowsN P w L) : es.size = L.length := by
  have e := congrArg List.length h
  unfold rowsN at e
  rw [Array.length_toList, List.length_map] at e
  exact e
theorem rowsN_at (h : es.toList = rowsN P w L) {i : Nat} {p : Addr × NestedKey} (hp : L[i]? = some p) : es[i]? = some (nh P w p.2, Value.ref p.1) := by
  rw [← Array.getElem?_toList, h]
  unfold rowsN
  rw [List.getElem?_map, hp]
  rfl
theorem fits_of (h1 : t.place.size = es.size) (h2 : t.dummies = #[]) (h3 : es.size ≤ t.mask) : t.fits es.size = true := by
  unfold SetTable.fits SetTable.fill
  rw [h2, Bool.and_eq_true, beq_iff_eq, decide_eq_true_eq]
  show t.place.size = es.size ∧ t.place.size + 0 ≤ t.mask
  omega
theorem SetN.place (R : SetN P w s.heap a L es ep t) : t.place.size = L.length := by
  have e := R.tab.sz
  rw [List.length_map] at e
  exact e
theorem SetN.fit (R : SetN P w s.heap a L es ep t) : t.fits es.size = true := by
  have e1 := rowsN_len R.ents
  have e2 := R.place
  have e3 := R.room
  exact fits_of (by omega) R.tab.dm (by omega)
theorem odd_gave (hm : MaskOk t.mask) : ¬ t.gaveWay = true := by
  unfold SetTable.gaveWay
  rw [mask_odd hm]
  decide
theorem stand_dummy (m : Nat) : ∀ (n : Nat) (p : SetTable.Probe), p.dummy = none → (nth m p n).dummy = none
  | 0, _, h => h
  | n + 1, p, h => by
    refine stand_dummy m n (adv m p) ?_
    unfold adv
    split <;> exact h
/-- the place where the way of a hash begins -/
abbrev start (m : Nat) (h : Int) : SetTable.Probe := runAt m (SetTable.bits h % (m + 1)) (SetTable.bits h)
theorem find_key (R : SetN P w s.heap a L es ep t) {x : Addr} {k : NestedKey} (hx : NKey P w s.heap k x) (hu : A.units + 8 < cLine) {K : Nat} (hKf : K < 10 * SetTable.turns t.mask) (hK : way t.mask (nh P w k) K ∉ t.place.toList) (hKb : ∀ c, c < K → way t.mask (nh P w k) c ∈ t.place.toList)
    {Q : SetFound → Shared → Prop} (yes : k ∈ L.map (·.2) → Q (.there none) s) (no : k ∉ L.map (·.2) → Q (.free (way t.mask (nh P w k) K) false) s) : ∀ (f c : Nat) (stand : Option SetTable.Probe),
      stand.getD (t.probeStart (nh P w k)) = nth t.mask (start t.mask (nh P w k)) c → c ≤ K → K - c < f → (∀ (i : Nat) p, L[i]? = some p → p.2 = k → ∃ c', c ≤ c' ∧ c' < K ∧ t.place.toList[i]? = some (way t.mask (nh P w k) c')) →
      wpAny (model P w) A (setSearchFrom a (.ref x) (nh P w k) true f stand) Q E s
  | 0, c, stand, _, _, hf, _ => absurd hf (Nat.not_lt_zero _)
  | f + 1, c, stand, hst, hc, hf, hrest => by
    obtain ⟨o, ho, _, hd⟩ := R.obj
    rw [setSearchFrom_succ]
    refine wpAny_bind (wpAny_setState_of ho hd R.fit ?_)
    dsimp only
    refine wp_if_neg (odd_gave R.tab.mok) ?_
    try refine wpAny_bind (wpAny_pure ?_)
    have shift : ∀ q, nth t.mask (nth t.mask (start t.mask (nh P w k)) c) q = nth t.mask (start t.mask (nh P w k)) (c + q) := fun q => (nth_add t.mask c _ q).symm
    have jat : ∀ q, (nth t.mask (nth t.mask (start t.mask (nh P w k)) c) q).j = way t.mask (nh P w k) (c + q) := fun q => congrArg SetTable.Probe.j (shift q)
    have hv : ∀ (i : Nat) p, L[i]? = some p → (fun i => (es[i]?.map (·.1)).getD 0) i = nh P w p.2 := fun i p hp => by
      show (es[i]?.map (·.1)).getD 0 = _
      rw [rowsN_at R.ents hp]
      rfl
    have spec := go_spec t R.tab.ris R.tab.dm (fun i => (es[i]?.map (·.1)).getD 0) (nh P w k) (10 * SetTable.turns t.mask) (K - c) _ (stand_dummy t.mask c (start t.mask (nh P w k)) rfl) (by omega)
      (fun q hq => by rw [jat]; exact hKb (c + q) (by omega)) (by rw [jat, show c + (K - c) = K by omega]; exact hK)
    rcases spec with ⟨q, i, hq, hi, _, hno, hpr⟩ | ⟨hno, hpr⟩
    · have hpr2 : t.probe (fun i => (es[i]?.map (·.1)).getD 0) (nh P w k) (stand.getD (t.probeStart (nh P w k))) = some (.candidate (way t.mask (nh P w k) (c + q)) i (nth t.mask (start t.mask (nh P w k)) (c + (q + 1)))) := by
        rw [hst, ← jat, ← shift]
        exact hpr
      rw [hpr2]
      dsimp only
      rw [jat] at hi
      have hil : i < L.length := by
        have e1 := (List.getElem?_eq_some_iff.mp hi).1
        have e2 := R.place
        rw [Array.length_toList] at e1
        omega
      obtain ⟨p, hp⟩ : ∃ p, L[i]? = some p := ⟨L[i], List.getElem?_eq_getElem hil⟩
      have hpm : p ∈ L := List.mem_of_getElem? hp
      have hpk := R.keys p hpm
      have go : wpAny (model P w) A (searchRest a (.ref x) (nh P w k) true f es t (way t.mask (nh P w k) (c + q)) i (nth t.mask (start t.mask (nh P w k)) (c + (q + 1)))) Q E s := by
        unfold searchRest
        rw [rowsN_at R.ents hp]
        dsimp only
        refine wpAny_bind (wpAny_holding ((nestedKind P w).eqBool hu hpk.1 hx.1 ?_))
        refine wpAny_bind (wpAny_setState_of ho hd R.fit ?_)
        dsimp only
        by_cases hkk : p.2 = k
        · refine wp_if_pos (by simp [hkk]) (wpAny_pure (yes ?_))
          exact List.mem_map.mpr ⟨p, hpm, hkk⟩
        · refine wp_if_neg (by simp [hkk]) ?_
          try refine wpAny_bind (wpAny_pure ?_)
          rw [sameMem]
          dsimp only
          have hsl : t.slot (way t.mask (nh P w k) (c + q)) = .live i := slot_live R.tab.ris hi
          simp only [if_true, hsl, rowsN_at R.ents hp]
          refine wpAny_bind (wpAny_isSame_ref_self (wpAny_bind (wpAny_pure ?_)))
          simp only [if_true]
          refine wp_if_neg (by simp [hkk]) ?_
          refine find_key R hx hu hKf hK hKb yes no f (c + (q + 1)) _ rfl (by omega) (by omega) fun i0 p0 h0 hk0 => ?_
          obtain ⟨c', a1, a2, a3⟩ := hrest i0 p0 h0 hk0
          refine ⟨c', ?_, a2, a3⟩
          rcases Nat.lt_or_ge c' (c + q) with z | z
          · exact absurd ((hv i0 p0 h0).trans (congrArg (nh P w) hk0)) (hno (c' - c) i0 (by omega) (by rw [jat, show c + (c' - c) = c' by omega]; exact a3))
          · rcases Nat.lt_or_ge (c + q) c' with y | y
            · omega
            · exfalso
              have ec : c' = c + q := Nat.le_antisymm y z
              rw [ec] at a3
              have s0 := slot_live R.tab.ris a3
              rw [hsl] at s0
              injection s0 with s0
              rw [← s0, hp] at h0
              exact hkk ((congrArg Prod.snd (Option.some.inj h0)).trans hk0)
      by_cases hl : t.led = true
      · refine wp_if_neg (by simp [hl]) ?_
        try refine wpAny_bind (wpAny_pure ?_)
        exact go
      · refine wp_if_pos (by simp [hl]) (wpAny_bind (seen_keys hx (fun y hy => ?_) ?_))
        · obtain ⟨e, he, ee⟩ := List.mem_map.mp hy
          have he1 : e ∈ es ∧ e.1 = nh P w k := by simpa using he
          have he2 : e ∈ es.toList := by simpa using he1.1
          rw [R.ents] at he2
          obtain ⟨p2, hp2, e2⟩ := List.mem_map.mp he2
          exact ⟨p2.2, p2.1, by rw [← ee, ← e2], R.keys p2 hp2⟩
        · refine wp_if_neg (by decide) ?_
          try refine wpAny_bind (wpAny_pure ?_)
          exact go
    · have hpr2 : t.probe (fun i => (es[i]?.map (·.1)).getD 0) (nh P w k) (stand.getD (t.probeStart (nh P w k))) = some (.empty (way t.mask (nh P w k) K) none) := by
        have e2 : way t.mask (nh P w k) K = (nth t.mask (nth t.mask (start t.mask (nh P w k)) c) (K - c)).j := by rw [jat, show c + (K - c) = K by omega]
        rw [hst, e2]
        exact hpr
      rw [hpr2]
      dsimp only
      refine wpAny_pure (no fun hm => ?_)
      obtain ⟨p0, h0, hk0⟩ := List.mem_map.mp hm
      obtain ⟨i0, hi0, e0⟩ := List.getElem_of_mem h0
      have h00 : L[i0]? = some p0 := by rw [List.getElem?_eq_getElem hi0, e0]
      obtain ⟨c', a1, a2, a3⟩ := hrest i0 p0 h00 hk0
      exact hno (c' - c) i0 (by omega) (by rw [jat, show c + (c' - c) = c' by omega]; exact a3) ((hv i0 p0 h00).trans (congrArg (nh P w) hk0))
theorem find_in (R : SetN P w s.heap a L es ep t) {x : Addr} {k : NestedKey} (hx : NKey P w s.heap k x) (hu : A.units + 8 < cLine) {Q : SetFound → Shared → Prop} (yes : k ∈ L.map (·.2) → Q (.there none) s)
    (no : ∀ K, k ∉ L.map (·.2) → way t.mask (nh P w k) K ∉ t.place.toList → (∀ c, c < K → way t.mask (nh P w k) c ∈ t.place.toList) → Q (.free (way t.mask (nh P w k) K) false) s) : wpAny (model P w) A (setSearch a (.ref x) (nh P w k) true) Q E s := by
  have hroom := R.room
  obtain ⟨K, hKf, hK, hKb⟩ := R.tab.first (by rw [List.length_map]; omega) (nh P w k)
  have hbig : K < 100000 := by
    have : 10 * SetTable.turns t.mask ≤ 1420 := by
      unfold SetTable.turns
      rcases R.tab.mok with e | e | e <;> omega
    omega
  unfold setSearch
  refine find_key R hx hu hKf hK hKb yes (fun hn => no K hn hK hKb) 100000 0 none rfl (Nat.zero_le _) (by omega) fun i p hp hk => ?_
  have hi : (L.map fun p => nh P w p.2)[i]? = some (nh P w k) := by
    rw [List.getElem?_map, hp, ← hk]
    rfl
  have hil : i < t.place.toList.length := by
    have e1 := (List.getElem?_eq_some_iff.mp hp).1
    have e2 := R.place
    rw [Array.length_toList]
    omega
  have hj := List.getElem?_eq_getElem hil
  obtain ⟨c, hc, e⟩ := R.tab.before hK hi hj
  exact ⟨c, Nat.zero_le _, hc, by rw [hj, e]⟩
end
end Ph

set_option Elab.async false
set_option linter.all false
set_option maxRecDepth 100000
set_option maxHeartbeats 4000000
namespace Ph
open PySem L2 PySem.Spec PyProof.Rows
section
variable {P : Program} {w : World} {A : Around} {E : Value → Shared → Prop} {s : Shared} {a : Addr} {L : List (Addr × NestedKey)} {es : Array (Int × Value)} {ep : Nat} {t : SetTable}
/-! ## adding -/
theorem key_stay {h h' : Heap} {k : NestedKey} {b : Addr} (x : NKey P w h k b) (hk : ∀ c o, h.get? c = some o → (∃ vs n, o.data = .seq vs n) → h'.get? c = some o) : NKey P w h' k b :=
  ⟨nestedKind_stays.stays (fun c o vs n e d => hk c o e ⟨vs, n, d⟩) x.1, x.2⟩
theorem key_beside {h h' : Heap} {k : NestedKey} {b : Addr} {o : Obj} (x : NKey P w h k b) (ho : h.get? a = some o) (hd : o.data = .set es ep t) (hs : Heap.SameBut a h h') : NKey P w h' k b :=
  key_stay x fun c u e ⟨vs, n, d⟩ => (hs.2 c fun z => by
    rw [z, ho] at e
    rw [← Option.some.inj e, hd] at d
    cases d).trans e
theorem order_ents {order : Array Nat} (hr : es.toList = rowsN P w L) (hp : order.toList.Perm (List.range L.length)) :
    ∃ L2, (order.filterMap (es[·]?)).toList = rowsN P w L2 ∧ L2.Perm L ∧ (L2.map fun p => nh P w p.2) = order.toList.map fun i => (es.map (·.1)).getD i 0 := by
  have step : ∀ l : List Nat, (∀ i ∈ l, i < L.length) → ∃ L2 : List (Addr × NestedKey), l.filterMap (fun i => es[i]?) = rowsN P w L2 ∧ L2 = l.filterMap (fun i => L[i]?) ∧ (L2.map fun p => nh P w p.2) = l.map fun i => (es.map (·.1)).getD i 0 := by
    intro l
    induction l with
    | nil => exact fun _ => ⟨[], rfl, rfl, rfl⟩
    | cons i l ih =>
      intro hl
      have hi := hl i List.mem_cons_self
      have hLi : L[i]? = some L[i] := List.getElem?_eq_getElem hi
      have hei := rowsN_at hr hLi
      obtain ⟨L2, e1, e2, e3⟩ := ih fun j hj => hl j (List.mem_cons_of_mem _ hj)
      refine ⟨L[i] :: L2, ?_, by rw [List.filterMap_cons_some hLi, e2], ?_⟩
      · rw [List.filterMap_cons_some hei, e1]
        rfl
      · rw [List.map_cons, List.map_cons, e3]
        have e5 : (es.map (·.1))[i]? = some (nh P w (L[i]).2) := by
          rw [Array.getElem?_map, hei]
          rfl
        have e4 : (es.map (·.1)).getD i 0 = nh P w (L[i]).2 := by simp [Array.getD_eq_getD_getElem?, e5]
        rw [e4]
  obtain ⟨L2, e1, e2, e3⟩ := step order.toList fun i hi => List.mem_range.mp (hp.mem_iff.mp hi)
  have whole : ∀ n, n ≤ L.length → (List.range n).filterMap (fun i => L[i]?) = L.take n := by
    intro n
    induction n with
    | zero => exact fun _ => rfl
    | succ n ih =>
      intro hn
      have hlt : n < L.length := hn
      rw [List.range_succ, List.filterMap_append, ih (Nat.le_of_lt hlt), List.take_succ, List.getElem?_eq_getElem hlt, List.filterMap_cons_some (List.getElem?_eq_getElem hlt)]
      rfl
  refine ⟨L2, by first | (rw [Array.toList_filterMap]; exact e1) | simpa using e1, ?_, e3⟩
  have h1 := hp.filterMap (fun i => L[i]?)
  rw [← e2, whole L.length (Nat.le_refl _), List.take_length] at h1
  exact h1
theorem lay_anew {o : Obj} (ho : s.heap.get? a = some o) (hex : o.ExactSet) (hd : o.data = .set es ep t) (hents : es.toList = rowsN P w L) (hsz : t.place.size = es.size) (hdm : t.dummies = #[]) (hfl : es.size ≤ t.mask) (uq : (L.map (·.2)).Nodup)
    (ks : ∀ p ∈ L, NKey P w s.heap p.2 p.1) (bv : t.plain = true) (ld : w.params.followText "set-order" = true ∨ t.led = true) (sm : L.length < 64) {want M : Nat} (hw : SetTable.sizeAbove want - 1 = M) (hM : MaskOk M) (hw2 : SetTable.sizeAbove want ≤ 128) (hn : L.length * 5 < M * 3)
    {Q : Unit → Shared → Prop} (hQ : ∀ h' L' es' ep' t', Heap.SameBut a s.heap h' → SetN P w h' a L' es' ep' t' → L'.Perm L → Q () { s with heap := h' }) : wpAny (model P w) A (setRelay a want) Q E s := by
  have hel := rowsN_len hents
  obtain ⟨t', order, e, hp, T, em, el, epl, ed⟩ := relaid_ok t (hs := es.map (·.1)) (wanted := want) hw hM (by rw [Array.size_map, hel]; omega)
  rw [Array.size_map, hel] at hp
  obtain ⟨L2, r1, r2, r3⟩ := order_ents hents hp
  rw [← r3] at T
  have hs2 : (order.filterMap (es[·]?)).size = es.size := by rw [rowsN_len r1, r2.length_eq, hel]
  rw [setRelay_eq]
  refine wpAny_bind (wpAny_setState_of ho hd (fits_of hsz hdm hfl) ?_)
  dsimp only
  refine wp_if_neg (by rw [sizeLine_eq]; omega) ?_
  try refine wpAny_bind (wpAny_pure ?_)
  rw [e]
  dsimp only
  refine wpAny_bind (wp_if_neg (by rw [hs2]; simp) ?_)
  try refine wpAny_bind (wpAny_pure ?_)
  refine wpAny_pure ?_
  dsimp only
  refine wpAny_storeSet_of ho hd ?_ (by rw [hs2, hel, sizeLine_eq]; omega)
  have sb : Heap.SameBut a s.heap (s.heap.update a (Obj.putSet (order.filterMap (es[·]?)) t')) := Heap.SameBut.update ..
  refine hQ _ L2 (order.filterMap (es[·]?)) (ep + 1) t' sb ⟨⟨_, store_at ho hd, ⟨hex.1, hex.2.1, hex.2.2⟩, rfl⟩, r1, T, (r2.map (·.2)).nodup_iff.mpr uq, fun p hpm => key_beside (ks p (r2.mem_iff.mp hpm)) ho hd sb, by rw [epl]; exact bv, by rw [el]; exact ld, ?_, by rw [r2.length_eq]; exact sm⟩ r2
  rw [r2.length_eq, em]
  exact hn
theorem add_key (R : SetN P w s.heap a L es ep t) {x : Addr} {k : NestedKey} (hx : NKey P w s.heap k x) (hu : A.units + 8 < cLine) (hsm : L.length + 1 < 64) {Q : Bool → Shared → Prop}
    (hQ : ∀ b h' L' es' ep' t', Heap.SameBut a s.heap h' → SetN P w h' a L' es' ep' t' → (k ∈ L.map (·.2) → L' = L) → (k ∉ L.map (·.2) → L'.Perm ((x, k) :: L)) → Q b { s with heap := h' }) : wpAny (model P w) A (setAddHashed a (.ref x) (nh P w k)) Q E s := by
  obtain ⟨o, ho, hex, hd⟩ := R.obj
  have hel := rowsN_len R.ents
  have hroom := R.room
  unfold setAddHashed
  refine wpAny_holding ?_
  rw [show (100000 : Nat) = 99999 + 1 from rfl, setAddHashedIn_succ]
  refine wpAny_bind (wpAny_setState_of ho hd R.fit ?_)
  dsimp only
  refine wp_if_neg (by simp [byScan, Value.scannable]) ?_
  try refine wpAny_bind (wpAny_pure ?_)
  refine wpAny_bind (find_in R hx hu (fun hm => ?_) fun K hm hK hb => ?_)
  · dsimp only
    exact wpAny_pure (hQ false s.heap L es ep t (Heap.SameBut.refl a s.heap) R (fun _ => rfl) fun z => absurd hm z)
  · dsimp only
    refine wpAny_bind (wpAny_setState_of ho hd R.fit ?_)
    dsimp only
    obtain ⟨q1, q2, q3, q4, q5, q6, q7, q8, q9⟩ := R.tab.put hK hb
    have bv1 : (t.put (way t.mask (nh P w k) K)).1.plain = true := by rw [q6]; exact R.byv
    generalize hpt : t.put (way t.mask (nh P w k) K) = pt at q1 q3 q4 q5 q6 q7 q8 q9 bv1 ⊢
    obtain ⟨t1, pos⟩ := pt
    dsimp only at q1 q3 q4 q5 q6 q7 q8 q9 bv1 ⊢
    subst q1
    first
      | (refine wpAny_bind ?_; refine wp_if_pos bv1 ?_; refine by_value _ _ 8 _ hx.1.1 hx.1.2 hx.2 _ _ _ ?_)
      | refine wp_if_pos bv1 (wpAny_bind (by_value _ _ 8 _ hx.1.1 hx.1.2 hx.2 _ _ _ ?_))
    simp only [if_true]
    have hin : (SetTable.insertAt es (SetTable.below t.place (way t.mask (nh P w k) K)) (nh P w k, Value.ref x)).toList = rowsN P w (L.take (SetTable.below t.place (way t.mask (nh P w k) K)) ++ (x, k) :: L.drop (SetTable.below t.place (way t.mask (nh P w k) K))) := by
      rw [SetTable.toList_insertAt, R.ents]
      unfold rowsN
      rw [List.map_append, List.map_cons, List.map_take, List.map_drop]
    generalize hpp : SetTable.below t.place (way t.mask (nh P w k) K) = pos at q2 q3 hin ⊢
    have pm := put_perm L pos (x, k)
    have hlen : (L.take pos ++ (x, k) :: L.drop pos).length = L.length + 1 := pm.length_eq
    have hhs : (L.take pos ++ (x, k) :: L.drop pos).map (fun p => nh P w p.2) = (L.map fun p => nh P w p.2).take pos ++ nh P w k :: (L.map fun p => nh P w p.2).drop pos := by rw [List.map_append, List.map_cons, List.map_take, List.map_drop]
    rw [← hhs] at q3
    have uq1 : ((L.take pos ++ (x, k) :: L.drop pos).map (·.2)).Nodup := by
      refine (pm.map (·.2)).nodup_iff.mpr ?_
      rw [List.map_cons]
      exact List.nodup_cons.mpr ⟨hm, R.uniq⟩
    have hes := rowsN_len hin
    rw [hlen] at hes
    generalize SetTable.insertAt es pos (nh P w k, Value.ref x) = es1 at hin hes ⊢
    generalize L.take pos ++ (x, k) :: L.drop pos = L1 at pm hlen q3 uq1 hin
    refine wpAny_bind (wpAny_storeSet_of ho hd ?_ (by rw [hes, sizeLine_eq]; omega))
    have sb : Heap.SameBut a s.heap (s.heap.update a (Obj.putSet es1 t1)) := Heap.SameBut.update ..
    have ho1 := store_at (es' := es1) (t' := t1) ho hd
    generalize s.heap.update a (Obj.putSet es1 t1) = h1 at sb ho1 ⊢
    have ks1 : ∀ p ∈ L1, NKey P w h1 p.2 p.1 := fun p hp => by
      rcases List.mem_cons.mp (pm.mem_iff.mp hp) with e | hp
      · rw [e]; exact key_beside hx ho hd sb
      · exact key_beside (R.keys p hp) ho hd sb
    have ld1 : w.params.followText "set-order" = true ∨ t1.led = true := by rw [q5]; exact R.leads
    by_cases hf : t1.tooFull = true
    · first
        | (refine wpAny_bind ?_; refine wp_if_pos (by simp [hf]) ?_)
        | (refine wp_if_pos (by simp [hf]) ?_; refine wpAny_bind ?_)
      have hfull : (L.length + 1) * 5 ≥ t1.mask * 3 := by
        have h := hf
        unfold SetTable.tooFull at h
        rw [decide_eq_true_eq, q9, List.length_map] at h
        exact h
      rw [hel]
      have hsz1 : t1.place.size = es1.size := by
        have h := q3.sz
        rw [List.length_map, hlen] at h
        rw [h, hes]
      have two : (t.mask = 7 ∧ L.length = 4) ∨ (t.mask = 31 ∧ L.length = 18) := by
        rcases R.tab.mok with e | e | e
        · left; rw [q4, e] at hfull; rw [e] at hroom; exact ⟨e, by omega⟩
        · right; rw [q4, e] at hfull; rw [e] at hroom; exact ⟨e, by omega⟩
        · exfalso; rw [q4, e] at hfull; omega
      have go : ∀ M, SetTable.sizeAbove (SetTable.grown (L.length + 1)) - 1 = M → MaskOk M → SetTable.sizeAbove (SetTable.grown (L.length + 1)) ≤ 128 → (L.length + 1) * 5 < M * 3 →
          wpAny (model P w) A (setRelay a (SetTable.grown (L.length + 1))) (fun _ s' => wpAny (model P w) A (pure true) Q E s') E { s with heap := h1 } := fun M m1 m2 m3 m4 =>
        lay_anew (s := { s with heap := h1 }) ho1 ⟨hex.1, hex.2.1, hex.2.2⟩ rfl hin hsz1 q3.dm (by rw [hes, q4]; rcases two with ⟨e, e2⟩ | ⟨e, e2⟩ <;> omega) uq1 ks1 bv1 ld1 (by rw [hlen]; exact hsm) m1 m2 m3 (by rw [hlen]; exact m4)
          fun h2 L2 es2 ep2 t2 sb2 R2 pm2 => wpAny_pure (hQ true h2 L2 es2 ep2 t2 (sb.trans sb2) R2 (fun z => absurd z hm) fun _ => pm2.trans pm)
      rcases two with ⟨_, e2⟩ | ⟨_, e2⟩
      · exact go 31 (by rw [e2, size_20]) (.inr (.inl rfl)) (by rw [e2, size_20]; decide) (by omega)
      · exact go 127 (by rw [e2, size_76]) (.inr (.inr rfl)) (by rw [e2, size_76]; decide) (by omega)
    · first
        | refine wp_if_neg (by simp [hf]) ?_
        | (refine wpAny_bind ?_; refine wp_if_neg (by simp [hf]) ?_; refine wpAny_pure ?_)
      refine wpAny_pure (hQ true h1 L1 es1 (ep + 1) t1 sb ⟨⟨_, ho1, ⟨hex.1, hex.2.1, hex.2.2⟩, rfl⟩, hin, q3, uq1, ks1, bv1, ld1, ?_, by rw [hlen]; exact hsm⟩ (fun z => absurd z hm) fun _ => pm)
      have h := hf
      unfold SetTable.tooFull at h
      rw [decide_eq_true_eq, q9, List.length_map] at h
      rw [hlen]
      omega
end
end Ph

set_option Elab.async false
set_option linter.all false
set_option maxRecDepth 100000
set_option maxHeartbeats 4000000
namespace Ph
open PySem L2 PySem.Spec PyProof.Rows
/-! ## set([..]) of such keys -/
/-- what is in the set behind the first i items -/
structure Upto (ks : List (Addr × NestedKey)) (i : Nat) (L : List (Addr × NestedKey)) : Prop where
  of : ∀ p ∈ L, p ∈ ks.take i
  has : ∀ p ∈ ks.take i, p.2 ∈ L.map (·.2)
  le : L.length ≤ i
theorem Upto.old {ks L : List (Addr × NestedKey)} {i : Nat} {x : Addr × NestedKey} (g : Upto ks i L) (h : ks[i]? = some x) (hm : x.2 ∈ L.map (·.2)) : Upto ks (i + 1) L := by
  have e : ks.take (i + 1) = ks.take i ++ [x] := by rw [List.take_succ, h]; rfl
  refine ⟨fun p hp => ?_, fun p hp => ?_, Nat.le_succ_of_le g.le⟩
  · rw [e]
    exact List.mem_append_left _ (g.of p hp)
  · rw [e] at hp
    rcases List.mem_append.mp hp with z | z
    · exact g.has p z
    · rw [List.mem_singleton.mp z]
      exact hm
theorem Upto.new {ks L L' : List (Addr × NestedKey)} {i : Nat} {x : Addr × NestedKey} (g : Upto ks i L) (h : ks[i]? = some x) (pm : L'.Perm (x :: L)) : Upto ks (i + 1) L' := by
  have e : ks.take (i + 1) = ks.take i ++ [x] := by rw [List.take_succ, h]; rfl
  refine ⟨fun p hp => ?_, fun p hp => ?_, by rw [pm.length_eq, List.length_cons]; exact Nat.succ_le_succ g.le⟩
  · rw [e]
    rcases List.mem_cons.mp (pm.mem_iff.mp hp) with z | z
    · rw [z]
      exact List.mem_append_right _ (List.mem_singleton.mpr rfl)
    · exact List.mem_append_left _ (g.of p z)
  · rw [(pm.map (·.2)).mem_iff, List.map_cons]
    rw [e] at hp
    rcases List.mem_append.mp hp with z | z
    · exact List.mem_cons_of_mem _ (g.has p z)
    · rw [List.mem_singleton.mp z]
      exact List.mem_cons_self
section
variable {P : Program} {w : World} {A : Around} {E : Value → Shared → Prop} {s : Shared}
theorem key_keep {h h' : Heap} {k : NestedKey} {b : Addr} (x : NKey P w h k b) (hk : ∀ c o, h.get? c = some o → h'.get? c = some o) : NKey P w h' k b := key_stay x fun c o e _ => hk c o e
theorem SetN.at {h h' : Heap} {a : Addr} {L : List (Addr × NestedKey)} {es : Array (Int × Value)} {ep : Nat} {t : SetTable} (R : SetN P w h a L es ep t) (ha : ∀ o, h.get? a = some o → h'.get? a = some o) (hk : ∀ p ∈ L, NKey P w h' p.2 p.1) : SetN P w h' a L es ep t := by
  obtain ⟨o, ho, r⟩ := R.obj
  exact ⟨⟨o, ha o ho, r⟩, R.ents, R.tab, R.uniq, hk, R.byv, R.leads, R.room, R.small⟩
/-- the new set's object -/
abbrev emptyO (w : World) : Obj := { cls := .type "set", dict := none, data := .set #[] 0 (.fresh 0 0 (!w.params.followText "set-order")) }
theorem setN_new {h : Heap} {a : Addr} (ho : h.get? a = some (emptyO w)) : SetN P w h a [] #[] 0 (.fresh 0 0 (!w.params.followText "set-order")) where
  obj := ⟨_, ho, ⟨rfl, rfl, rfl⟩, rfl⟩
  ents := rfl
  tab := ⟨List.Pairwise.nil, rfl, rfl, .inl rfl, fun x hx => (by cases hx), fun i h j hi => (by simp at hi)⟩
  uniq := List.nodup_nil
  keys := fun p hp => (by cases hp)
  byv := rfl
  leads := by
    show _ ∨ (!w.params.followText "set-order") = true
    cases w.params.followText "set-order" with
    | false => exact .inr rfl
    | true => exact .inl rfl
  room := by
    show 0 * 5 < 7 * 3
    decide
  small := by
    show 0 < 64
    decide
/-- the update's loop -/
theorem update_keys {I : Addr} {fp wr : List Addr} {G : Array GenState → Array GenState → Prop} {n : Nat} {Pv : Nat → Value → Prop} {St : Nat → Shared → Prop} {R : Result → Shared → Prop} (W : WalksS P w A.in1 I fp wr G n Pv St) (S : Addr) (hSf : S ∉ fp) (ks : List (Addr × NestedKey)) (hn : n = ks.length) (hsm : ks.length < 64)
    (hval : ∀ i v, Pv i v → ∃ p, ks[i]? = some p ∧ v = .ref p.1) (h0 : Heap) (hk : ∀ p ∈ ks, NKey P w h0 p.2 p.1) (hS0 : h0.get? S = none) (hw0 : ∀ b ∈ wr, h0.get? b = none) (hu : A.in1.units + 8 < cLine) : ∀ (k i : Nat) (s : Shared), n - i = k → i ≤ n → St i s →
      (∀ b o, h0.get? b = some o → s.heap.get? b = some o) → (∃ L es ep t, SetN P w s.heap S L es ep t ∧ Upto ks i L) →
      (∀ s' L es ep t, Moved (S :: wr) G s s' → SetN P w s'.heap S L es ep t → Upto ks n L → (∀ b o, h0.get? b = some o → s'.heap.get? b = some o) → R (.ok (.ret .none)) s') →
      codeAny (model P w) A (.builtin "set.update.loop" ⟨[.ref S, .ref I], []⟩) R s := by
  have hSw : S ∉ wr := fun h => hSf (W.sub _ h)
  have more : ∀ b ∈ wr, b ∈ S :: wr := fun b hb => List.mem_cons_of_mem _ hb
  have keepM : ∀ {s s' : Shared}, Moved wr G s s' → (∀ b o, h0.get? b = some o → s.heap.get? b = some o) → ∀ b o, h0.get? b = some o → s'.heap.get? b = some o := fun hm hkp b o e =>
    hm.heap b o (fun hb => by rw [hw0 b hb] at e; cases e) (hkp b o e)
  intro k
  induction k with
  | zero =>
    intro i s hki hi hst hkp ⟨L, es, ep, t, hS, g⟩ hR
    obtain rfl : i = n := by omega
    refine codeAny_builtin F.entry_set_update_loop ?_
    rw [Around.under_plainId F.plain_set_update_loop _]
    show wpAny _ A.in1 (pyNext (.ref I) >>= _) _ _ s
    refine wpAny_bind (W.done s _ _ hst fun s' hm => ?_)
    show wpAny _ A.in1 (ret Value.none) _ _ s'
    have hkp2 := keepM hm hkp
    exact wpAny_pure (hR s' L es ep t (hm.mono more) (hS.at (fun o e => hm.heap S o hSw e) fun p hp => key_keep (hk p (List.mem_of_mem_take (g.of p hp))) hkp2) g hkp2)
  | succ k ih =>
    intro i s hki hi hst hkp ⟨L, es, ep, t, hS, g⟩ hR
    refine codeAny_builtin F.entry_set_update_loop ?_
    rw [Around.under_plainId F.plain_set_update_loop _]
    show wpAny _ A.in1 (pyNext (.ref I) >>= _) _ _ s
    refine wpAny_bind (W.item i s _ _ (by omega) hst fun v s' hP hst2 hm => ?_)
    obtain ⟨p, hp, rfl⟩ := hval i v hP
    have hkp2 := keepM hm hkp
    have hS2 : SetN P w s'.heap S L es ep t := hS.at (fun o e => hm.heap S o hSw e) fun q hq => key_keep (hk q (List.mem_of_mem_take (g.of q hq))) hkp2
    have hx : NKey P w s'.heap p.2 p.1 := key_keep (hk p (List.mem_of_getElem? hp)) hkp2
    show wpAny _ A.in1 (holding [Value.ref p.1] (setAdd S (.ref p.1)) >>= _) _ _ s'
    refine wpAny_bind (wpAny_holding ?_)
    unfold setAdd
    refine wpAny_holding (wpAny_bind ((nestedKind P w).pyHash hu hx.1 ?_))
    refine add_key (s := { s' with toks := s'.toks + (nestedKind P w).draws p.2 }) hS2 hx hu (by have := g.le; omega) fun b h' L' es' ep' t' hsb hS3 c1 c2 => ?_
    have g2 : Upto ks (i + 1) L' := by
      rcases Classical.em (p.2 ∈ L.map (·.2)) with c | c
      · rw [c1 c]
        exact g.old hp c
      · exact g.new hp (c2 c)
    have hkp3 : ∀ b o, h0.get? b = some o → h'.get? b = some o := fun b o e => (hsb.2 b (fun z => by rw [z, hS0] at e; cases e)).trans (hkp2 b o e)
    refine wpAny_pure ⟨plainId_quiet F.plain_set_update_loop _, ih (i + 1) _ (by omega) (by omega) (W.frame _ s' _ _ hst2 (Nat.le_add_right _ _) fun b hb o e => ?_) hkp3 ⟨L', es', ep', t', hS3, g2⟩ fun s3 L2 es2 ep2 t2 hm3 hS4 g3 hkp4 => ?_⟩
    · rw [hsb.2 b (fun h : b = S => hSf (by rw [← h]; exact hb))]
      exact e
    · refine hR s3 L2 es2 ep2 t2 (Moved.trans W.gtrans ((hm.mono more).then_heap (Nat.le_add_right _ _) fun b o hb e => ?_) hm3) hS4 g3 hkp4
      rw [hsb.2 b (fun h : b = S => hb (by rw [h]; exact List.mem_cons_self))]
      exact e
set_option maxHeartbeats 8000000 in
theorem call_set_keys {l : Addr} {items : Array Value} (ks : List (Addr × NestedKey)) {Q : Value → Shared → Prop} (hh : A.handled = none) (hl : s.heap.IsList l items) (hit : items.toList = ks.map fun p => Value.ref p.1) (hk : ∀ p ∈ ks, NKey P w s.heap p.2 p.1) (hsm : ks.length < 64) (hu : A.units + 12 < cLine)
    (h : ∀ (h' : Heap) (tk : Nat) L es ep t, SetN P w h' s.heap.objs.size L es ep t → Upto ks ks.length L → (∀ b o, s.heap.get? b = some o → h'.get? b = some o) → Q (.ref s.heap.objs.size) { s with heap := h', toks := tk }) : wpAny (model P w) A (call (.type "set") [.ref l]) Q E s := by
  have hisz : items.size = ks.length := by
    have q := congrArg List.length hit
    rw [Array.length_toList, List.length_map] at q
    exact q
  obtain ⟨c, tl, hmro⟩ := F.called_set.mro
  have hmade := F.called_set.made
  have hsub := F.called_set.sub
  refine wpAny_call (codeAny_of_tree ?_)
  show wpAny _ _ (callAny (.type "set") _) _ _ _
  refine wpAny_pure ⟨Code.quiet_builtin _ (by decide +kernel), codeAny_builtin F.entry_type_call ?_⟩
  rw [Around.under_plain (weight_type_call_type "set" [.ref l] []) rfl]
  have h1 := F.called_set.notType
  have h2 := F.called_set.canCreate
  have hct := F.typeCall_set_1 (.ref l)
  repeat (any_goals (first | assumption | wp_step))
  refine codeAny_mono (code_set_led1 (.ref l) (E := E) (Q₁ := fun obj s₁ => obj = .ref s.heap.objs.size ∧ s₁ = { s with heap := s.heap.push (emptyO w) }) ⟨rfl, rfl⟩) fun r s₁ hr => ?_
  cases r with
  | error e => exact hr
  | ok fl =>
    cases fl with
    | ret obj =>
      obtain ⟨rfl, rfl⟩ := hr
      have hS : (s.heap.push (emptyO w)).get? s.heap.objs.size = some (emptyO w) := Heap.get?_push_size _ rfl
      have hT : Shared.TypeIs { s with heap := s.heap.push (emptyO w) } (.ref s.heap.objs.size) "set" := ⟨_, hS, rfl⟩
      have hli := F.called_set.init.lookup
      have hbi := F.called_set.init.bind (.ref s.heap.objs.size)
      repeat (any_goals (first | assumption | wp_step))
      refine codeAny_mono (codeAny_call_builtin (R := wants (fun r s₂ => r = .none ∧ ∃ h' tk L es ep t, s₂ = { s with heap := h', toks := tk } ∧ SetN P w h' s.heap.objs.size L es ep t ∧ Upto ks ks.length L ∧ (∀ b o, s.heap.get? b = some o → h'.get? b = some o)) E)
        F.called_set.init.plain F.entry_set_init (check_set_init_1 hT ?_)) fun r₂ s₂ hr₂ => ?_
      · obtain ⟨⟨ocls, odict, odata, oslots⟩, hol, hcl, nl, hdl⟩ := hl
        simp only at hcl hdl
        subst hcl; subst hdl
        have hol2 : (s.heap.push (emptyO w)).get? l = some { cls := .type "list", dict := odict, data := .seq items nl, slots := oslots } := Heap.get?_push_of_some _ hol
        have hsls := F.sub_list_set
        have hslf := F.sub_list_frozenset
        have hne : (Value.type "list" == Value.type "dict") = false := by decide
        have hl1 : (s.heap.push (emptyO w)).IsList l items := ⟨_, hol2, rfl, nl, rfl⟩
        unfold Builtin.«set.__init__» noKeywords Builtin.Frozenset.updateFrom
        generalize hPI : pyIter = PI
        wp_walk
        subst hPI
        refine wpAny_pyIter_list hl1 (wpAny_bind (wpAny_runValue ?_))
        have hlS : l < s.heap.objs.size := Heap.lt_size hol
        have hh3 : A.in1.in1.in1.handled = none := by simp [hh]
        have hneI : l ≠ (s.heap.push (emptyO w)).objs.size := by
          rw [Heap.size_push]
          exact Nat.ne_of_lt (Nat.lt_succ_of_lt hlS)
        have hSf : s.heap.objs.size ∉ [(s.heap.push (emptyO w)).objs.size, l] := by
          rw [Heap.size_push]
          simp only [List.mem_cons, List.mem_singleton, List.not_mem_nil, or_false, not_or]
          exact ⟨Nat.ne_of_lt (Nat.lt_succ_self _), Nat.ne_of_gt hlS⟩
        have hval : ∀ (i : Nat) (v : Value), items[i]? = some v → ∃ p, ks[i]? = some p ∧ v = .ref p.1 := fun i v hv => by
          have q : items.toList[i]? = some v := by rw [Array.getElem?_toList]; exact hv
          rw [hit, List.getElem?_map] at q
          obtain ⟨p, e1, e2⟩ := Option.map_eq_some_iff.mp q
          exact ⟨p, e1, e2.symm⟩
        have none_of : ∀ b, s.heap.objs.size ≤ b → s.heap.get? b = none := fun b hb => by
          cases q : s.heap.get? b with
          | none => rfl
          | some o => exact absurd (Nat.lt_of_lt_of_le (Heap.lt_size q) hb) (Nat.lt_irrefl _)
        refine update_keys ((Walks.list hh3 _ l hneI items).toS) s.heap.objs.size hSf ks hisz hsm hval s.heap hk (none_of _ (Nat.le_refl _)) (fun b hb => none_of b (by
            rw [List.mem_singleton.mp hb, Heap.size_push]
            exact Nat.le_succ _)) (by show A.units + 1 + 1 + 1 + 8 < cLine; omega) (items.size - 0) 0 _ (by omega) (Nat.zero_le _)
          ⟨⟨_, Heap.get?_push_size _ rfl, rfl, rfl⟩, (hl1.push _)⟩ (fun b o e => Heap.get?_push_of_some _ (Heap.get?_push_of_some _ e)) ?hS0 ?hR
        case hS0 =>
          exact ⟨[], #[], 0, _, setN_new (Heap.get?_push_of_some _ hS), fun p hp => (by cases hp), fun p hp => (by simp at hp), Nat.le_refl _⟩
        case hR =>
          intro s' L es ep t hm hS2 g2 hkp
          obtain ⟨h', g3, d3, tk', os3⟩ := s'
          have eg : g3 = s.gens := hm.gens
          have ed : d3 = s.drawn := hm.drawn
          have eo : os3 = s.os := hm.os
          subst eg; subst ed; subst eo
          show wpAny _ _ _ _ _ _
          refine wpAny_pure ?_
          show wpAny _ _ (ret Value.none) _ _ _
          rw [hisz] at g2
          exact wpAny_pure ⟨rfl, h', tk', L, es, ep, t, rfl, hS2, g2, hkp⟩
      · cases r₂ with
        | error e => exact hr₂
        | ok fl₂ =>
          cases fl₂ with
          | ret r =>
            obtain ⟨rfl, h', tk, L, es, ep, t, rfl, hS2, g2, hk2⟩ := hr₂
            repeat (any_goals (first | assumption | wp_step))
            exact h _ _ _ _ _ _ hS2 g2 hk2
          | _ => exact hr₂.elim
    | _ => exact hr.elim
end
end Ph

set_option Elab.async false
set_option linter.all false
set_option maxRecDepth 100000
set_option maxHeartbeats 4000000
namespace Ph
open PySem L2 PySem.Spec PyProof.Rows
/-! ## len(set([..])) -/
theorem no_more {α : Type} : ∀ {l m : List α}, l.Nodup → (∀ x ∈ l, x ∈ m) → l.length ≤ m.length
  | [], m, _, _ => Nat.zero_le _
  | x :: l, m, hn, hs => by
    obtain ⟨h1, h2⟩ := List.nodup_cons.mp hn
    obtain ⟨m1, m2, e⟩ := List.append_of_mem (hs x List.mem_cons_self)
    have h3 := no_more (l := l) (m := m1 ++ m2) h2 fun y hy => by
      have hy2 := hs y (List.mem_cons_of_mem _ hy)
      rw [e] at hy2
      rcases List.mem_append.mp hy2 with z | z
      · exact List.mem_append_left _ z
      · rcases List.mem_cons.mp z with z | z
        · rw [z] at hy
          exact absurd hy h1
        · exact List.mem_append_right _ z
    rw [e, List.length_append, List.length_cons, List.length_cons]
    rw [List.length_append] at h3
    omega
theorem one_less {α : Type} [DecidableEq α] : ∀ {m : List α}, ¬ m.Nodup → ∃ m' : List α, m'.length + 1 = m.length ∧ ∀ x ∈ m, x ∈ m'
  | [], h => absurd List.nodup_nil h
  | x :: m, h => by
    by_cases hx : x ∈ m
    · refine ⟨m, rfl, fun y hy => ?_⟩
      rcases List.mem_cons.mp hy with rfl | hy
      · exact hx
      · exact hy
    · have h2 : ¬ m.Nodup := fun z => h (List.nodup_cons.mpr ⟨hx, z⟩)
      obtain ⟨m', e, hs⟩ := one_less h2
      refine ⟨x :: m', by rw [List.length_cons, List.length_cons, e], fun y hy => ?_⟩
      rcases List.mem_cons.mp hy with rfl | hy
      · exact List.mem_cons_self
      · exact List.mem_cons_of_mem _ (hs y hy)
theorem count_iff {α : Type} [DecidableEq α] {l m : List α} (hn : l.Nodup) (h1 : ∀ x ∈ l, x ∈ m) (h2 : ∀ x ∈ m, x ∈ l) : l.length = m.length ↔ m.Nodup := by
  constructor
  · intro e
    refine Classical.byContradiction fun hm => ?_
    obtain ⟨m', e2, hs⟩ := one_less hm
    have := no_more hn fun x hx => hs x (h1 x hx)
    omega
  · intro hm
    have := no_more hn h1
    have := no_more hm h2
    omega
section
variable {X : Cx} {pins : List (Addr × Obj)} {σ : L2.St} {H : Hp} {s : Shared}
def GoodKey (k : NestedKey) : Prop := k.depth ≤ 8 ∧ plainKey k = true ∧ ∃ js, k = .tup js
theorem pair_up (I : Inv X pins σ H s) : ∀ (ks : List NestedKey) (vs : List V) (us : List Value), DpAll X.K H vs (ks.map NestedKey.data) → Vals vs us → (∀ k ∈ ks, GoodKey k) → ∃ kp : List (Addr × NestedKey), us = kp.map (fun p => Value.ref p.1) ∧ kp.map (·.2) = ks ∧ ∀ p ∈ kp, NKey X.prog X.w s.heap p.2 p.1
  | [], vs, us, hd, hv, _ => by
    cases hd
    cases hv
    exact ⟨[], rfl, rfl, fun p hp => (by cases hp)⟩
  | k :: ks, vs, us, hd, hv, hg => by
    rw [List.map_cons] at hd
    cases hd with
    | cons d1 d2 =>
      cases hv with
      | cons r1 r2 =>
        obtain ⟨kp, rfl, e2, h3⟩ := pair_up I ks _ _ d2 r2 fun k hk => hg k (List.mem_cons_of_mem _ hk)
        obtain ⟨g1, g2, js, rfl⟩ := hg k List.mem_cons_self
        have hi := nested_of I _ _ _ d1 r1
        cases hi with
        | @tup a o ws m _ hh hc hdd hk =>
          refine ⟨(a, .tup js) :: kp, rfl, by rw [List.map_cons, e2], fun p hp => ?_⟩
          rcases List.mem_cons.mp hp with rfl | hp
          · exact ⟨⟨.tup hh hc hdd hk, g1⟩, g2⟩
          · exact h3 p hp
end
section
variable {X : Cx}
def tLenX (K : PySem.W.Frag) (ta : TE) : TE := fun σ H Q => ta σ H fun x H1 => ∃ (l : Addr) (vs : List V) (ks : List NestedKey), x = V.ref l ∧ SqL K H1 l vs ∧ DpAll K H1 vs (ks.map NestedKey.data) ∧ (∀ k ∈ ks, GoodKey k) ∧ ks.length < 20 ∧ ∀ n : Nat, (n = ks.length ↔ ks.Nodup) → Q (.int n) H1
theorem pe_lenX {a : Expr} {ta : TE} {p p2 q pos : Pos} (hc : X.calm = true) (hu : X.A.units + 64 < cLine) (hg : Gl X "len") (hm : X.mg "len" = none) (hg2 : Gl X "set") (hm2 : X.mg "set" = none) (ha : PE X a ta)
    (na : starEach [a] X.env = (false, eval a X.env) :: starEach [] X.env := by rfl) : PE X (.Call (.Name "len" p) [.Call (.Name "set" p2) [a] [] q] [] pos) (tLenX X.K ta) := by
  refine ⟨fun pins s σ H Q I h => ?_⟩
  refine Call_ (ld_blt I hg hm PySem.boot_len ?_)
  refine PyProof.Rows.callWith_builtin1 (PyProof.Rows.args_cons ?_ rfl) rfl rfl
  refine Call_ (ld_blt I hg2 hm2 PyProof.Rows.boot_set ?_)
  refine PyProof.Rows.callWith_type1 (PyProof.Rows.args_cons (thn (ha.run pins s σ H _ I h) fun v s1 ⟨x, H1, I1, r1, q1⟩ => PyProof.Rows.args_nil ?_) na) na rfl
  obtain ⟨l, vs, ks, rfl, hq, hd, hgk, hsm, q1⟩ := q1
  cases r1
  obtain ⟨its, rv, pl, hz⟩ := I1.list hq
  obtain ⟨kp, e1, e2, hk⟩ := pair_up I1 ks vs its hd rv hgk
  have hkl : kp.length = ks.length := by rw [← e2, List.length_map]
  refine call_set_keys (P := X.prog) (w := X.w) kp (I1.ok.hd hc) pl.isList (by simpa using e1) hk (by omega) (by omega) fun h' tk L es ep t R g hkp => ?_
  refine PyProof.Rows.args_nil ?_
  have hel := rowsN_len R.ents
  obtain ⟨o, ho, hex, hdo⟩ := R.obj
  have I2 : Inv X pins σ H1 { s1 with heap := h', toks := tk } := I1.kept fun b o e => hkp b o e
  have hle := g.le
  refine call_len_set ho hex hdo (SetN.fit (s := { s1 with heap := h', toks := tk }) R) (by omega) ⟨.int es.size, H1, I2.tok _, ⟨_, rfl⟩, q1 es.size ?_⟩
  rw [hel, ← e2]
  have hc := count_iff R.uniq (m := kp.map (·.2)) (fun x hx => by
    obtain ⟨p, hp, rfl⟩ := List.mem_map.mp hx
    exact List.mem_map.mpr ⟨p, List.mem_of_mem_take (g.of p hp), rfl⟩) fun x hx => by
    obtain ⟨p, hp, rfl⟩ := List.mem_map.mp hx
    exact g.has p (by rw [List.take_length]; exact hp)
  rw [List.length_map] at hc
  exact hc
end
end Ph

set_option Elab.async false
set_option linter.all false
set_option maxRecDepth 100000
set_option maxHeartbeats 4000000
namespace Ph
open PySem L2
theorem room65 {k : Nat} {A : Around} (r : Room k A) : A.units + 65 < cLine := by have := r.un; omega
section
variable {X : Cx} {e : Expr} {t : ATE} {pos p p2 pos2 : Pos} {x : Str} {T : FT} {k j : Nat} {ps : List Str}
theorem ae_canT (C : Can X.prog X.w X.K X.mg X.base k x ps T) (hr : Room j X.A) (hk : k ≤ j) (ha : AE X e t) (hg : Gl X x := by rfl) (hdb : (x == ("__debug__" : Str)) = false := by decide) (he : starEach [e] X.env = (false, eval e X.env) :: starEach [] X.env := by rfl) (hpl : (backTo pos (starEach [] X.env)).any (·.1) = false := by rfl) :
    AE X (.Call (.Name x p) [e] [] pos) (aFnT T t) := by
  obtain ⟨f, fd, h1, h2, h3, h4⟩ := C.ex
  exact ae_callT h2 (hr.mono hk) hg h1 h3 h4 ha hdb he hpl
/-- len(set([..])) -/
def aLenSet (t : ATE) : ATE := fun G q Q => t G q fun r G' q' => ∃ ks : List (List NestedKey), r = .l (ks.map fun k => (NestedKey.tup k).data) ∧ (∀ k ∈ ks, (NestedKey.tup k).depth ≤ 8 ∧ plainKey (.tup k) = true) ∧ ks.length < 20 ∧ ∀ n : Nat, (n = ks.length ↔ ks.Nodup) → Q (.d (.int n)) G' q'
theorem tup_nodup : ∀ ks : List (List NestedKey), (ks.map NestedKey.tup).Nodup ↔ ks.Nodup
  | [] => by simp
  | k :: ks => by
    rw [List.map_cons, List.nodup_cons, List.nodup_cons, tup_nodup ks]
    constructor
    · rintro ⟨h1, h2⟩
      exact ⟨fun z => h1 (List.mem_map.mpr ⟨k, z, rfl⟩), h2⟩
    · rintro ⟨h1, h2⟩
      refine ⟨fun z => ?_, h2⟩
      obtain ⟨y, hy, e⟩ := List.mem_map.mp z
      rw [NestedKey.tup.inj e] at hy
      exact h1 hy
theorem ae_lenSet (hr : Room j X.A) (hc : X.calm = true) (hg : Gl X "len") (hm : X.mg "len" = none) (hg2 : Gl X "set") (hm2 : X.mg "set" = none) (he : AE X e t) (na : starEach [e] X.env = (false, eval e X.env) :: starEach [] X.env := by rfl) :
    AE X (.Call (.Name "len" p) [.Call (.Name "set" p2) [e] [] pos2] [] pos) (aLenSet t) :=
  ⟨fun hL hS hq lk => pe_to (pe_lenX hc hr.units hg hm hg2 hm2 pe_self na) (he.run hL hS hq fun r G1 q1 v S1 H1 L1 h1 hL1 hS1 => by
    obtain ⟨ks, rfl, hk, hsm, hn⟩ := h1
    obtain ⟨a, vs, rfl, _, ha, hd⟩ := sat_top hS1
    have e1 : (ks.map NestedKey.tup).map NestedKey.data = ks.map fun k => (NestedKey.tup k).data := by rw [List.map_map]; rfl
    refine ⟨a, vs, ks.map NestedKey.tup, rfl, .of ha, by rw [e1]; exact dps_mono hS1.ex _ _ hd, fun k hkm => ?_, by rw [List.length_map]; exact hsm, fun n hn2 => ?_⟩
    · obtain ⟨k0, hk0, rfl⟩ := List.mem_map.mp hkm
      exact ⟨(hk k0 hk0).1, (hk k0 hk0).2, k0, rfl⟩
    · rw [List.length_map, tup_nodup] at hn2
      exact lk _ _ _ _ _ _ _ (hn n hn2) hL1 (hS1.pop.push (.int _)))⟩
end
end Ph

set_option Elab.async false
set_option linter.all false
set_option maxRecDepth 100000
set_option maxHeartbeats 4000000
namespace Ph
open PySem L2
section
variable {P : Program} {w : World} {K : PySem.W.Frag} {mg : Str → Option Value} {base : Heap}
abbrev s_is_number : Stmt := topS 1
abbrev n_is_number : List Str := ["thing"]
theorem sc_is_number : FnScope n_is_number ["thing"] (defScope s_is_number) := ⟨rfl, rfl, rfl, by decide +kernel, rfl, by decide +kernel, by decide +kernel⟩
noncomputable def D_is_number (B : Blt mg) (k : Nat) : { t : ATS // ∀ (f : Addr) (cdv : Value) (A : Around) (outer : List Env) (s : Shared) (H : Hp) (E : XK), Room k (A.deeper (PyProof.Rows.envOfC "is_number" (defScope s_is_number) s.heap.objs.size f cdv)) → ASs (cxOf CX0 P w K mg base n_is_number "is_number" (defScope s_is_number) f cdv A outer s H E).nox (defBody s_is_number) t } := ⟨_, fun f cdv A outer s H E hr =>
 (ass_one (as_ret (ae_and (ae_isi (n := "int") (by simp) (by rfl) B.isinstance (by rfl) B.int (by decide +kernel) (ae_var 0)) (ae_one (ae_not (ae_isi (n := "bool") (by simp) (by rfl) B.isinstance (by rfl) B.bool (by decide +kernel) (ae_var 0)))))))⟩
abbrev s_tuple_of : Stmt := topS 2
abbrev n_tuple_of : List Str := ["thing", "part"]
theorem sc_tuple_of : FnScope n_tuple_of ["thing"] (defScope s_tuple_of) := ⟨rfl, rfl, rfl, by decide +kernel, rfl, by decide +kernel, by decide +kernel⟩
noncomputable def D_tuple_of (B : Blt mg) (k : Nat) {k_tuple_of : Nat} {T_tuple_of : FT} (C_tuple_of : Can P w K mg base k_tuple_of "tuple_of" ["thing"] T_tuple_of) (h_tuple_of : k_tuple_of ≤ k) : { t : ATS // ∀ (f : Addr) (cdv : Value) (A : Around) (outer : List Env) (s : Shared) (H : Hp) (E : XK), Room k (A.deeper (PyProof.Rows.envOfC "tuple_of" (defScope s_tuple_of) s.heap.objs.size f cdv)) → ASs (cxOf CX0 P w K mg base n_tuple_of "tuple_of" (defScope s_tuple_of) f cdv A outer s H E).nox (defBody s_tuple_of) t } := ⟨_, fun f cdv A outer s H E hr =>
 (ass_cons (as_if (at_val (ae_isi2 (n := "list") (m := "tuple") (by simp) (by simp) (by rfl) B.isinstance (by rfl) B.list (by decide +kernel) (by rfl) B.tuple (by decide +kernel) (ae_var 0))) (ass_one (as_ret (ae_callTy call_tuple_of cl_tuple (by rfl) B.tuple (by decide +kernel) (aa_cons (ae_lc rfl sc_tuple_of.nd (ai_lt (ae_var 0)) (blkOk_by (N := n_tuple_of) (sc := defScope s_tuple_of) (own := [("part", 1)]) (by decide +kernel)) (fun _ _ _ _ _ => (ag_name 1 sc_tuple_of.nd)) (fun _ _ _ _ _ => (ae_can C_tuple_of hr h_tuple_of (aa_cons (ae_var 1) aa_nil))) (by decide)) aa_nil)))) ass_nil)
  (ass_one (as_ret (ae_var 0))))⟩
abbrev s_is_tuple_of : Stmt := topS 3
abbrev n_is_tuple_of : List Str := ["thing", "many"]
theorem sc_is_tuple_of : FnScope n_is_tuple_of ["thing", "many"] (defScope s_is_tuple_of) := ⟨rfl, rfl, rfl, by decide +kernel, rfl, by decide +kernel, by decide +kernel⟩
noncomputable def D_is_tuple_of (B : Blt mg) (k : Nat) : { t : ATS // ∀ (f : Addr) (cdv : Value) (A : Around) (outer : List Env) (s : Shared) (H : Hp) (E : XK), Room k (A.deeper (PyProof.Rows.envOfC "is_tuple_of" (defScope s_is_tuple_of) s.heap.objs.size f cdv)) → ASs (cxOf CX0 P w K mg base n_is_tuple_of "is_tuple_of" (defScope s_is_tuple_of) f cdv A outer s H E).nox (defBody s_is_tuple_of) t } := ⟨_, fun f cdv A outer s H E hr =>
 (ass_one (as_ret (ae_and (ae_isi (n := "tuple") (by simp) (by rfl) B.isinstance (by rfl) B.tuple (by decide +kernel) (ae_var 0)) (ae_one (ae_cmp (op_eqD hr.units) o2_eq (ae_callB call_len_seq cl_len (by rfl) B.len (by decide +kernel) (aa_cons (ae_var 0) aa_nil)) (ae_var 1) rfl)))))⟩
abbrev s_rows_of : Stmt := topS 6
abbrev n_rows_of : List Str := ["book", "found", "flag", "lines", "hue", "line", "letter", "row"]
theorem sc_rows_of : FnScope n_rows_of ["book"] (defScope s_rows_of) := ⟨rfl, rfl, rfl, by decide +kernel, rfl, by decide +kernel, by decide +kernel⟩
noncomputable def D_rows_of (B : Blt mg) (k : Nat) : { t : ATS // ∀ (f : Addr) (cdv : Value) (A : Around) (outer : List Env) (s : Shared) (H : Hp) (E : XK), Room k (A.deeper (PyProof.Rows.envOfC "rows_of" (defScope s_rows_of) s.heap.objs.size f cdv)) → ASs (cxOf CX0 P w K mg base n_rows_of "rows_of" (defScope s_rows_of) f cdv A outer s H E).nox (defBody s_rows_of) t } := ⟨_, fun f cdv A outer s H E hr =>
 (ass_cons (as_set 1 sc_rows_of.nd (ae_lst aa_nil))
  (ass_cons (as_for PassesOwn.never rfl (ai_et (by rfl) B.enumerate (ae_ix (ae_var 0) ae_int)) (ag_tup (n := 2) rfl (ags_cons (ag_name 2 sc_rows_of.nd) (ags_cons (ag_name 3 sc_rows_of.nd) ags_nil)))
    (ass_one (as_for PassesOwn.never rfl (ai_et (by rfl) B.enumerate (ae_var 3)) (ag_tup (n := 2) rfl (ags_cons (ag_name 4 sc_rows_of.nd) (ags_cons (ag_name 5 sc_rows_of.nd) ags_nil)))
      (ass_one (as_ext 1 (ae_lc rfl sc_rows_of.nd (ai_et (by rfl) B.enumerate (ae_var 5)) (blkOk_by (N := n_rows_of) (sc := defScope s_rows_of) (own := [("letter", 6), ("row", 7)]) (by decide +kernel)) (fun _ _ _ _ _ => (ag_tup (n := 2) rfl (ags_cons (ag_name 6 sc_rows_of.nd) (ags_cons (ag_name 7 sc_rows_of.nd) ags_nil)))) (fun _ _ _ _ _ => (ae_tup (aa_cons (ae_tup (aa_cons (ae_var 2) (aa_cons (ae_var 4) (aa_cons (ae_var 6) aa_nil)))) (aa_cons (ae_var 7) aa_nil)))) (by decide)))))))
  (ass_one (as_ret (ae_fz (ae_varM 1))))))⟩
abbrev s_key_by : Stmt := topS 7
abbrev n_key_by : List Str := ["book", "word", "place", "row"]
theorem sc_key_by : FnScope n_key_by ["book", "word", "place", "row"] (defScope s_key_by) := ⟨rfl, rfl, rfl, by decide +kernel, rfl, by decide +kernel, by decide +kernel⟩
noncomputable def D_key_by (B : Blt mg) (k : Nat) : { t : ATS // ∀ (f : Addr) (cdv : Value) (A : Around) (outer : List Env) (s : Shared) (H : Hp) (E : XK), Room k (A.deeper (PyProof.Rows.envOfC "key_by" (defScope s_key_by) s.heap.objs.size f cdv)) → ASs (cxOf CX0 P w K mg base n_key_by "key_by" (defScope s_key_by) f cdv A outer s H E).nox (defBody s_key_by) t } := ⟨_, fun f cdv A outer s H E hr =>
 (ass_cons (as_if (at_cmp (op_eqD hr.units) o2_eq (ae_var 1) ae_str rfl) (ass_one (as_ret (ae_tup (aa_cons (ae_ix (ae_ix (ae_var 0) ae_int) (ae_ix (ae_var 2) ae_int)) (aa_cons (ae_ix (ae_var 2) ae_int) aa_nil))))) ass_nil)
  (ass_one (as_ret (ae_if (at_cmp (op_eqD hr.units) o2_eq (ae_var 1) ae_str rfl) (ae_tup (aa_cons (ae_ix (ae_var 2) ae_int) (aa_cons (ae_ix (ae_var 3) ae_int) aa_nil))) (ae_tup aa_nil)))))⟩
abbrev s_goes_by : Stmt := topS 8
abbrev n_goes_by : List Str := ["book", "word", "own", "rows", "still", "found", "place", "row", "_"]
theorem sc_goes_by : FnScope n_goes_by ["book", "word"] (defScope s_goes_by) := ⟨rfl, rfl, rfl, by decide +kernel, rfl, by decide +kernel, by decide +kernel⟩
noncomputable def D_goes_by (B : Blt mg) (k : Nat) {k_key_by : Nat} {T_key_by : FT} (C_key_by : Can P w K mg base k_key_by "key_by" ["book", "word", "place", "row"] T_key_by) (h_key_by : k_key_by ≤ k) {k_rows_of : Nat} {T_rows_of : FT} (C_rows_of : Can P w K mg base k_rows_of "rows_of" ["book"] T_rows_of) (h_rows_of : k_rows_of ≤ k) {k_tuple_of : Nat} {T_tuple_of : FT} (C_tuple_of : Can P w K mg base k_tuple_of "tuple_of" ["thing"] T_tuple_of) (h_tuple_of : k_tuple_of ≤ k) : { t : ATS // ∀ (f : Addr) (cdv : Value) (A : Around) (outer : List Env) (s : Shared) (H : Hp) (E : XK), Room k (A.deeper (PyProof.Rows.envOfC "goes_by" (defScope s_goes_by) s.heap.objs.size f cdv)) → ASs (cxOf CX0 P w K mg base n_goes_by "goes_by" (defScope s_goes_by) f cdv A outer s H E).nox (defBody s_goes_by) t } := ⟨_, fun f cdv A outer s H E hr =>
 (ass_cons (as_set 2 sc_goes_by.nd (ae_can C_tuple_of hr h_tuple_of (aa_cons (ae_var 0) aa_nil)))
  (ass_cons (as_set 3 sc_goes_by.nd (ae_can C_rows_of hr h_rows_of (aa_cons (ae_var 2) aa_nil)))
  (ass_cons (as_set 4 sc_goes_by.nd (ae_tupRg rfl (by rfl) B.tuple (by rfl) B.range (ae_callB call_len_seq cl_len (by rfl) B.len (by decide +kernel) (aa_cons (ae_ix (ae_var 2) ae_int) aa_nil))))
  (ass_cons (as_if (at_cmp (op_eqD hr.units) o2_eq (ae_var 1) ae_str rfl) (ass_one (as_ret ae_bl)) ass_nil)
  (ass_cons (as_if (at_cmp (op_eqD hr.units) o2_eq (ae_var 1) ae_str rfl) (ass_one (as_ret (ae_callB (cr_all rfl) cl_all (by rfl) B.all (by decide +kernel) (aa_cons (ae_lc rfl sc_goes_by.nd (ai_l (ae_var 3)) (blkOk_by (N := n_goes_by) (sc := defScope s_goes_by) (own := [("_", 8), ("row", 7)]) (by decide +kernel)) (fun _ _ _ _ _ => (ag_tup (n := 2) rfl (ags_cons (ag_name 8 sc_goes_by.nd) (ags_cons (ag_name 7 sc_goes_by.nd) ags_nil)))) (fun _ _ _ _ _ => (ae_and (ae_cmp (op_eqD hr.units) o2_eq (ae_ix (ae_var 7) ae_int) (ae_var 4) rfl) (ae_one (ae_cmp (op_eqD hr.units) o2_eq (ae_ix (ae_var 7) ae_int) (ae_var 4) rfl)))) (by decide)) aa_nil)))) ass_nil)
  (ass_cons (as_if (at_cmp (op_eqD hr.units) o2_eq (ae_var 1) ae_str rfl) (ass_one (as_ret (ae_callB (cr_all rfl) cl_all (by rfl) B.all (by decide +kernel) (aa_cons (ae_lc rfl sc_goes_by.nd (ai_l (ae_var 3)) (blkOk_by (N := n_goes_by) (sc := defScope s_goes_by) (own := [("_", 8), ("row", 7)]) (by decide +kernel)) (fun _ _ _ _ _ => (ag_tup (n := 2) rfl (ags_cons (ag_name 8 sc_goes_by.nd) (ags_cons (ag_name 7 sc_goes_by.nd) ags_nil)))) (fun _ _ _ _ _ => (ae_cmp (op_eqD hr.units) o2_eq (ae_ix (ae_var 7) ae_int) (ae_ix (ae_var 7) ae_int) rfl)) (by decide)) aa_nil)))) ass_nil)
  (ass_cons (as_set 5 sc_goes_by.nd ae_new)
  (ass_one (as_ret (ae_callB (cr_all rfl) cl_all (by rfl) B.all (by decide +kernel) (aa_cons (ae_lc rfl sc_goes_by.nd (ai_l (ae_var 3)) (blkOk_by (N := n_goes_by) (sc := defScope s_goes_by) (own := [("place", 6), ("row", 7)]) (by decide +kernel)) (fun _ _ _ _ _ => (ag_tup (n := 2) rfl (ags_cons (ag_name 6 sc_goes_by.nd) (ags_cons (ag_name 7 sc_goes_by.nd) ags_nil)))) (fun _ _ _ _ _ => (ae_cmp (op_eqD hr.units) o2_eq (ae_setDf 5 hr.units (aa_cons (ae_can C_key_by hr h_key_by (aa_cons (ae_var 2) (aa_cons (ae_var 1) (aa_cons (ae_var 6) (aa_cons (ae_var 7) aa_nil))))) (aa_cons (ae_sl (ae_var 7) (ao_i ae_int) ao_no) aa_nil))) (ae_sl (ae_var 7) (ao_i ae_int) ao_no) rfl)) (by decide)) aa_nil)))))))))))⟩
def d_words : PyData := .tuple [.str "all", .str "blind", .str "flag", .str "letters", .str "nobody", .str "side"]
abbrev s_told_of : Stmt := topS 9
abbrev n_told_of : List Str := ["book", "word"]
theorem sc_told_of : FnScope n_told_of ["book"] (defScope s_told_of) := ⟨rfl, rfl, rfl, by decide +kernel, rfl, by decide +kernel, by decide +kernel⟩
noncomputable def D_told_of (B : Blt mg) (k : Nat) {k_goes_by : Nat} {T_goes_by : FT} (C_goes_by : Can P w K mg base k_goes_by "goes_by" ["book", "word"] T_goes_by) (h_goes_by : k_goes_by ≤ k) (WWORDS : GlD K mg "WORDS" d_words) : { t : ATS // ∀ (f : Addr) (cdv : Value) (A : Around) (outer : List Env) (s : Shared) (H : Hp) (E : XK), Room k (A.deeper (PyProof.Rows.envOfC "told_of" (defScope s_told_of) s.heap.objs.size f cdv)) → ASs (cxOf CX0 P w K mg base n_told_of "told_of" (defScope s_told_of) f cdv A outer s H E).nox (defBody s_told_of) t } := ⟨_, fun f cdv A outer s H E hr =>
 (ass_one (as_ret (ae_callTy call_tuple_of cl_tuple (by rfl) B.tuple (by decide +kernel) (aa_cons (ae_lcIf rfl sc_told_of.nd (ai_t (ae_glob WWORDS)) (blkOk_by (N := n_told_of) (sc := defScope s_told_of) (own := [("word", 1)]) (by decide +kernel)) (fun _ _ _ _ _ => (ag_name 1 sc_told_of.nd)) (fun _ _ _ _ _ => (at_val (ae_can C_goes_by hr h_goes_by (aa_cons (ae_var 0) (aa_cons (ae_var 1) aa_nil))))) (fun _ _ _ _ _ => (ae_var 1)) (by decide)) aa_nil))))⟩
abbrev s_are_numbers : Stmt := topS 10
abbrev n_are_numbers : List Str := ["hues", "thing", "many", "own", "number", "letter"]
theorem sc_are_numbers : FnScope n_are_numbers ["hues", "thing"] (defScope s_are_numbers) := ⟨rfl, rfl, rfl, by decide +kernel, rfl, by decide +kernel, by decide +kernel⟩
noncomputable def D_are_numbers (B : Blt mg) (k : Nat) {k_is_number : Nat} {T_is_number : FT} (C_is_number : Can P w K mg base k_is_number "is_number" ["thing"] T_is_number) (h_is_number : k_is_number ≤ k) {k_is_tuple_of : Nat} {T_is_tuple_of : FT} (C_is_tuple_of : Can P w K mg base k_is_tuple_of "is_tuple_of" ["thing", "many"] T_is_tuple_of) (h_is_tuple_of : k_is_tuple_of ≤ k) : { t : ATS // ∀ (f : Addr) (cdv : Value) (A : Around) (outer : List Env) (s : Shared) (H : Hp) (E : XK), Room k (A.deeper (PyProof.Rows.envOfC "are_numbers" (defScope s_are_numbers) s.heap.objs.size f cdv)) → ASs (cxOf CX0 P w K mg base n_are_numbers "are_numbers" (defScope s_are_numbers) f cdv A outer s H E).nox (defBody s_are_numbers) t } := ⟨_, fun f cdv A outer s H E hr =>
 (ass_cons (as_if (at_w (aw_or (at_not (at_val (ae_can C_is_tuple_of hr h_is_tuple_of (aa_cons (ae_var 1) (aa_cons (ae_callB call_len_seq cl_len (by rfl) B.len (by decide +kernel) (aa_cons (ae_var 0) aa_nil)) aa_nil))))) (aw_or1 (at_not (at_val (ae_callB (cr_all rfl) cl_all (by rfl) B.all (by decide +kernel) (aa_cons (ae_lc rfl sc_are_numbers.nd (ai_t (ae_var 1)) (blkOk_by (N := n_are_numbers) (sc := defScope s_are_numbers) (own := [("own", 3)]) (by decide +kernel)) (fun _ _ _ _ _ => (ag_name 3 sc_are_numbers.nd)) (fun _ _ _ _ _ => (ae_isi (n := "tuple") (by simp) (by rfl) B.isinstance (by rfl) B.tuple (by decide +kernel) (ae_var 3))) (by decide)) aa_nil))))))) (ass_one (as_ret ae_bl)) ass_nil)
  (ass_cons (as_set 2 sc_are_numbers.nd (ae_callB call_len_seq cl_len (by rfl) B.len (by decide +kernel) (aa_cons (ae_ix (ae_var 1) ae_int) aa_nil)))
  (ass_cons (as_if (at_w (aw_or (at_cmp (op_eqD hr.units) o2_eq (ae_var 2) ae_int rfl) (aw_or1 (at_not (at_val (ae_callB (cr_all rfl) cl_all (by rfl) B.all (by decide +kernel) (aa_cons (ae_lc rfl sc_are_numbers.nd (ai_t (ae_var 1)) (blkOk_by (N := n_are_numbers) (sc := defScope s_are_numbers) (own := [("own", 3)]) (by decide +kernel)) (fun _ _ _ _ _ => (ag_name 3 sc_are_numbers.nd)) (fun _ _ _ _ _ => (ae_cmp (op_eqD hr.units) o2_eq (ae_callB call_len_seq cl_len (by rfl) B.len (by decide +kernel) (aa_cons (ae_var 3) aa_nil)) (ae_var 2) rfl)) (by decide)) aa_nil))))))) (ass_one (as_ret ae_bl)) ass_nil)
  (ass_cons (as_if (at_not (at_val (ae_callB (cr_all rfl) cl_all (by rfl) B.all (by decide +kernel) (aa_cons (ae_lc2 [4] rfl sc_are_numbers.nd (ai_t (ae_var 1)) (blkOk_by (N := n_are_numbers) (sc := defScope s_are_numbers) (own := [("own", 3), ("number", 4)]) (by decide +kernel)) (fun _ _ _ _ _ => (ag_name 3 sc_are_numbers.nd)) (fun _ _ _ _ _ => (ai_t (ae_var 3))) (fun _ _ _ _ _ => (ag_name 4 sc_are_numbers.nd)) (fun _ _ _ _ _ => (ae_and (ae_can C_is_number hr h_is_number (aa_cons (ae_var 4) aa_nil)) (ae_one (ae_cmp op_ge o2_B0 (ae_var 4) ae_int rfl)))) (by decide) (by decide) (by decide)) aa_nil)))) (ass_one (as_ret ae_bl)) ass_nil)
  (ass_one (as_ret (ae_cmp (op_eqD hr.units) o2_eq (ae_lenSet hr rfl (by rfl) B.len (by rfl) B.set (ae_lc rfl sc_are_numbers.nd (ai_z (by rfl) B.zip (ae_var 0) (ae_var 1)) (blkOk_by (N := n_are_numbers) (sc := defScope s_are_numbers) (own := [("letter", 5), ("own", 3)]) (by decide +kernel)) (fun _ _ _ _ _ => (ag_tup (n := 2) rfl (ags_cons (ag_name 5 sc_are_numbers.nd) (ags_cons (ag_name 3 sc_are_numbers.nd) ags_nil)))) (fun _ _ _ _ _ => (ae_tup (aa_cons (ae_var 5) (aa_cons (ae_var 3) aa_nil)))) (by decide))) (ae_callB call_len_seq cl_len (by rfl) B.len (by decide +kernel) (aa_cons (ae_var 0) aa_nil)) rfl)))))))⟩
abbrev s_is_parts : Stmt := topS 11
abbrev n_is_parts : List Str := ["book", "thing", "own", "hues", "found", "_", "changed", "letter", "row", "side", "hue", "later", "level", "number", "key"]
theorem sc_is_parts : FnScope n_is_parts ["book", "thing"] (defScope s_is_parts) := ⟨rfl, rfl, rfl, by decide +kernel, rfl, by decide +kernel, by decide +kernel⟩
noncomputable def D_is_parts (B : Blt mg) (k : Nat) {k_are_numbers : Nat} {T_are_numbers : FT} (C_are_numbers : Can P w K mg base k_are_numbers "are_numbers" ["hues", "thing"] T_are_numbers) (h_are_numbers : k_are_numbers ≤ k) {k_rows_of : Nat} {T_rows_of : FT} (C_rows_of : Can P w K mg base k_rows_of "rows_of" ["book"] T_rows_of) (h_rows_of : k_rows_of ≤ k) {k_tuple_of : Nat} {T_tuple_of : FT} (C_tuple_of : Can P w K mg base k_tuple_of "tuple_of" ["thing"] T_tuple_of) (h_tuple_of : k_tuple_of ≤ k) : { t : ATS // ∀ (f : Addr) (cdv : Value) (A : Around) (outer : List Env) (s : Shared) (H : Hp) (E : XK), Room k (A.deeper (PyProof.Rows.envOfC "is_parts" (defScope s_is_parts) s.heap.objs.size f cdv)) → ASs (cxOf CX0 P w K mg base n_is_parts "is_parts" (defScope s_is_parts) f cdv A outer s H E).nox (defBody s_is_parts) t } := ⟨_, fun f cdv A outer s H E hr =>
 (ass_cons (as_set 2 sc_is_parts.nd (ae_can C_tuple_of hr h_tuple_of (aa_cons (ae_var 0) aa_nil)))
  (ass_cons (as_set 3 sc_is_parts.nd (ae_ix (ae_var 2) ae_int))
  (ass_cons (as_if (at_not (at_val (ae_can C_are_numbers hr h_are_numbers (aa_cons (ae_var 3) (aa_cons (ae_var 1) aa_nil))))) (ass_one (as_ret ae_bl)) ass_nil)
  (ass_cons (as_set 4 sc_is_parts.nd ae_new)
  (ass_cons (as_for PassesOwn.never rfl (ai_l (ae_can C_rows_of hr h_rows_of (aa_cons (ae_var 2) aa_nil))) (ag_tup (n := 2) rfl (ags_cons (ag_tup (n := 3) rfl (ags_cons (ag_name 5 sc_is_parts.nd) (ags_cons (ag_name 6 sc_is_parts.nd) (ags_cons (ag_name 7 sc_is_parts.nd) ags_nil)))) (ags_cons (ag_name 8 sc_is_parts.nd) ags_nil)))
    (ass_one (as_for PassesOwn.never rfl (ai_t (ae_tup (aa_cons ae_int (aa_cons ae_int aa_nil)))) (ag_name 9 sc_is_parts.nd)
      (ass_one (as_for PassesOwn.never rfl (ai_et (by rfl) B.enumerate (ae_ix (ae_var 8) (ae_var 9))) (ag_tup (n := 2) rfl (ags_cons (ag_name 10 sc_is_parts.nd) (ags_cons (ag_name 11 sc_is_parts.nd) ags_nil)))
        (ass_one (as_for PassesOwn.never rfl (ai_et (by rfl) B.enumerate (ae_ix (ae_var 1) (ae_var 11))) (ag_tup (n := 2) rfl (ags_cons (ag_name 12 sc_is_parts.nd) (ags_cons (ag_name 13 sc_is_parts.nd) ags_nil)))
          (ass_cons (as_set 14 sc_is_parts.nd (ae_tup (aa_cons (ae_var 9) (aa_cons (ae_ix (ae_var 3) (ae_var 6)) (aa_cons (ae_var 7) (aa_cons (ae_ix (ae_var 3) (ae_var 10)) (aa_cons (ae_sl (ae_ix (ae_var 1) (ae_var 10)) (ao_i (ae_var 12)) ao_no) (aa_cons (ae_sl (ae_ix (ae_var 1) (ae_var 6)) (ao_i (ae_op op_add o2_I0 (ae_var 12) ae_int)) ao_no) aa_nil))))))))
          (ass_one (as_if (at_cmp (op_neD hr.units) o2_ne (ae_setDf 4 hr.units (aa_cons (ae_tup (aa_cons (ae_var 12) (aa_cons (ae_var 14) aa_nil))) (aa_cons (ae_var 13) aa_nil))) (ae_var 13) rfl) (ass_one (as_ret ae_bl)) ass_nil))))))))))
  (ass_one (as_ret ae_bl)))))))⟩
abbrev s_law_box : Stmt := topS 13
abbrev n_law_box : List Str := ["_law_script", "_law_k", "_law_bit_so"]
theorem sc_law_box : FnScope n_law_box ["_law_script", "_law_k"] (defScope s_law_box) := ⟨rfl, rfl, rfl, by decide +kernel, rfl, by decide +kernel, by decide +kernel⟩
noncomputable def D_law_box (B : Blt mg) (k : Nat) : { t : ATS // ∀ (f : Addr) (cdv : Value) (A : Around) (outer : List Env) (s : Shared) (H : Hp) (E : XK), Room k (A.deeper (PyProof.Rows.envOfC "_law_box" (defScope s_law_box) s.heap.objs.size f cdv)) → ASs (cxOf CX0 P w K mg base n_law_box "_law_box" (defScope s_law_box) f cdv A outer s H E).nox (defBody s_law_box) t } := ⟨_, fun f cdv A outer s H E hr =>
 (ass_cons (as_set 2 sc_law_box.nd (ae_if (at_cmp op_lt o2_B0 (ae_var 1) (ae_callB call_len_seq cl_len (by rfl) B.len (by decide +kernel) (aa_cons (ae_var 0) aa_nil)) rfl) (ae_ix (ae_var 0) (ae_var 1)) ae_int))
  (ass_one (as_ret (ae_lst (aa_cons (ae_op op_mul o2_I (ae_callB call_abs cl_abs (by rfl) B.abs (by decide +kernel) (aa_cons (ae_var 2) aa_nil)) (ae_callTy call_int1 cl_int (by rfl) B.int (by decide +kernel) (aa_cons (ae_cmp op_ge o2_B0 (ae_callB call_abs cl_abs (by rfl) B.abs (by decide +kernel) (aa_cons (ae_var 2) aa_nil)) (ae_op op_pow o2_I ae_int ae_int) rfl) aa_nil))) (aa_cons (ae_op op_add o2_I0 (ae_op op_add o2_I0 (ae_op op_mod o2_I (ae_callTy call_int1 cl_int (by rfl) B.int (by decide +kernel) (aa_cons (ae_var 2) aa_nil)) ae_int) (ae_op op_mul o2_I ae_int (ae_var 1))) ae_int) (aa_cons ae_int aa_nil)))))))⟩
abbrev s_law_take : Stmt := topS 14
abbrev n_law_take : List Str := ["_law_tin", "_law_below_so", "_law_drawn", "_law_once_so", "_law_wide_so", "_law_twice_so"]
theorem sc_law_take : FnScope n_law_take ["_law_tin", "_law_below_so"] (defScope s_law_take) := ⟨rfl, rfl, rfl, by decide +kernel, rfl, by decide +kernel, by decide +kernel⟩
noncomputable def D_law_take (B : Blt mg) (k : Nat) : { t : ATS // ∀ (f : Addr) (cdv : Value) (A : Around) (outer : List Env) (s : Shared) (H : Hp) (E : XK), Room k (A.deeper (PyProof.Rows.envOfC "_law_take" (defScope s_law_take) s.heap.objs.size f cdv)) → ASs (cxOf CX0 P w K mg base n_law_take "_law_take" (defScope s_law_take) f cdv A outer s H E).nox (defBody s_law_take) t } := ⟨_, fun f cdv A outer s H E hr =>
 (ass_cons (as_if (at_cmp op_gt o2_B0 (ae_tin 0 (by decide)) ae_int rfl) (ass_cons (as_set 2 sc_law_take.nd (ae_op op_mod o2_I (ae_callTy call_int1 cl_int (by rfl) B.int (by decide +kernel) (aa_cons (ae_tin 0 (by decide)) aa_nil)) (ae_var 1)))
    (ass_cons (as_tinSet 0 (by decide) (ae_op op_fdiv o2_I (ae_tin 0 (by decide)) (ae_var 1)))
    (ass_one (as_ret (ae_var 2))))) ass_nil)
  (ass_cons (as_tinSet 0 (by decide) (ae_op op_add o2_I0 (ae_tin 0 (by decide)) ae_int))
  (ass_cons (as_set 3 sc_law_take.nd (ae_op op_mod o2_I (ae_callTy call_int1 cl_int (by rfl) B.int (by decide +kernel) (aa_cons (ae_op op_mul o2_I (ae_op op_add o2_I0 (ae_tin 0 (by decide)) (ae_op op_mul o2_I ae_int (ae_tin 0 (by decide)))) (ae_op op_add o2_I0 ae_int (ae_tin 0 (by decide)))) aa_nil)) ae_int))
  (ass_cons (as_set 4 sc_law_take.nd (ae_op op_add o2_I0 (ae_op op_mod o2_I (ae_callTy call_int1 cl_int (by rfl) B.int (by decide +kernel) (aa_cons (ae_var 3) aa_nil)) ae_int) ae_int))
  (ass_cons (as_set 5 sc_law_take.nd (ae_op op_mod o2_I (ae_callTy call_int1 cl_int (by rfl) B.int (by decide +kernel) (aa_cons (ae_op op_mul o2_I (ae_op op_add o2_I0 (ae_op op_add o2_I0 (ae_var 3) (ae_tin 0 (by decide))) (ae_op op_fdiv o2_I (ae_tin 0 (by decide)) ae_int)) (ae_var 4)) aa_nil)) ae_int))
  (ass_one (as_ret (ae_op op_mod o2_I (ae_callTy call_int1 cl_int (by rfl) B.int (by decide +kernel) (aa_cons (ae_op op_fdiv o2_I (ae_op op_mod o2_I (ae_callTy call_int1 cl_int (by rfl) B.int (by decide +kernel) (aa_cons (ae_op op_add o2_I0 (ae_op op_mul o2_I (ae_var 5) ae_int) (ae_var 3)) aa_nil)) ae_int) ae_int) aa_nil)) (ae_var 1)))))))))⟩
abbrev s_law_cells : Stmt := topS 15
abbrev n_law_cells : List Str := ["_law_script", "_law_most_so", "_law_cells_so", "_law_k", "_law_bit_so", "_law_at_so"]
theorem sc_law_cells : FnScope n_law_cells ["_law_script", "_law_most_so"] (defScope s_law_cells) := ⟨rfl, rfl, rfl, by decide +kernel, rfl, by decide +kernel, by decide +kernel⟩
noncomputable def D_law_cells (B : Blt mg) (k : Nat) : { t : ATS // ∀ (f : Addr) (cdv : Value) (A : Around) (outer : List Env) (s : Shared) (H : Hp) (E : XK), Room k (A.deeper (PyProof.Rows.envOfC "_law_cells" (defScope s_law_cells) s.heap.objs.size f cdv)) → ASs (cxOf CX0 P w K mg base n_law_cells "_law_cells" (defScope s_law_cells) f cdv A outer s H E).nox (defBody s_law_cells) t } := ⟨_, fun f cdv A outer s H E hr =>
 (ass_cons (as_set 2 sc_law_cells.nd (ae_orL (ae_callTy call_list_of cl_list (by rfl) B.list (by decide +kernel) (aa_cons (ae_sl (ae_var 0) ao_no (ao_i (ae_var 1))) aa_nil)) (ae_one (ae_lst (aa_cons ae_int aa_nil)))))
  (ass_cons (as_for PassesOwn.never rfl (ai_el (by rfl) B.enumerate (ae_fz (ae_sl (ae_var 0) (ao_i (ae_var 1)) (ao_i ae_int)))) (ag_tup (n := 2) rfl (ags_cons (ag_name 3 sc_law_cells.nd) (ags_cons (ag_name 4 sc_law_cells.nd) ags_nil)))
    (ass_cons (as_set 5 sc_law_cells.nd (ae_op op_mod o2_I (ae_callTy call_int1 cl_int (by rfl) B.int (by decide +kernel) (aa_cons (ae_var 3) aa_nil)) (ae_var 1)))
    (ass_one (as_setO 2 (ae_op op_add o2_I0 (ae_ixO 2 (ae_var 5)) (ae_op op_mul o2_I (ae_var 4) (ae_op op_add o2_I0 (ae_var 3) ae_int))) (ae_var 5)))))
  (ass_one (as_ret (ae_varM 2)))))⟩
abbrev s_law_of : Stmt := topS 16
abbrev n_law_of : List Str := ["_law_tin", "_law_goods_so"]
theorem sc_law_of : FnScope n_law_of ["_law_tin", "_law_goods_so"] (defScope s_law_of) := ⟨rfl, rfl, rfl, by decide +kernel, rfl, by decide +kernel, by decide +kernel⟩
noncomputable def D_law_of (B : Blt mg) (k : Nat) {k_law_take : Nat} {T_law_take : FT} (C_law_take : Can P w K mg base k_law_take "_law_take" ["_law_tin", "_law_below_so"] T_law_take) (h_law_take : k_law_take ≤ k) : { t : ATS // ∀ (f : Addr) (cdv : Value) (A : Around) (outer : List Env) (s : Shared) (H : Hp) (E : XK), Room k (A.deeper (PyProof.Rows.envOfC "_law_of" (defScope s_law_of) s.heap.objs.size f cdv)) → ASs (cxOf CX0 P w K mg base n_law_of "_law_of" (defScope s_law_of) f cdv A outer s H E).nox (defBody s_law_of) t } := ⟨_, fun f cdv A outer s H E hr =>
 (ass_one (as_ret (ae_ix (ae_var 1) (ae_can C_law_take hr h_law_take (aa_cons (ae_var 0) (aa_cons (ae_callB call_len_seq cl_len (by rfl) B.len (by decide +kernel) (aa_cons (ae_var 1) aa_nil)) aa_nil))))))⟩
abbrev s_law_lists : Stmt := topS 17
abbrev n_law_lists : List Str := ["_law_matter", "_law_bit"]
theorem sc_law_lists : FnScope n_law_lists ["_law_matter"] (defScope s_law_lists) := ⟨rfl, rfl, rfl, by decide +kernel, rfl, by decide +kernel, by decide +kernel⟩
noncomputable def D_law_lists (B : Blt mg) (k : Nat) {k_law_lists : Nat} {T_law_lists : FT} (C_law_lists : Can P w K mg base k_law_lists "_law_lists" ["_law_matter"] T_law_lists) (h_law_lists : k_law_lists ≤ k) : { t : ATS // ∀ (f : Addr) (cdv : Value) (A : Around) (outer : List Env) (s : Shared) (H : Hp) (E : XK), Room k (A.deeper (PyProof.Rows.envOfC "_law_lists" (defScope s_law_lists) s.heap.objs.size f cdv)) → ASs (cxOf CX0 P w K mg base n_law_lists "_law_lists" (defScope s_law_lists) f cdv A outer s H E).nox (defBody s_law_lists) t } := ⟨_, fun f cdv A outer s H E hr =>
 (ass_one (as_ret (ae_if (at_val (ae_isi2 (n := "list") (m := "tuple") (by simp) (by simp) (by rfl) B.isinstance (by rfl) B.list (by decide +kernel) (by rfl) B.tuple (by decide +kernel) (ae_var 0))) (ae_fz (ae_lc rfl sc_law_lists.nd (ai_lt (ae_var 0)) (blkOk_by (N := n_law_lists) (sc := defScope s_law_lists) (own := [("_law_bit", 1)]) (by decide +kernel)) (fun _ _ _ _ _ => (ag_name 1 sc_law_lists.nd)) (fun _ _ _ _ _ => (ae_can C_law_lists hr h_law_lists (aa_cons (ae_var 1) aa_nil))) (by decide))) (ae_var 0))))⟩
abbrev s_law_same : Stmt := topS 18
abbrev n_law_same : List Str := ["_law_got", "_law_due", "_law_mine", "_law_its"]
theorem sc_law_same : FnScope n_law_same ["_law_got", "_law_due"] (defScope s_law_same) := ⟨rfl, rfl, rfl, by decide +kernel, rfl, by decide +kernel, by decide +kernel⟩
noncomputable def D_law_same (B : Blt mg) (k : Nat) {k_law_same : Nat} {T_law_same : FT} (C_law_same : Can P w K mg base k_law_same "_law_same" ["_law_got", "_law_due"] T_law_same) (h_law_same : k_law_same ≤ k) : { t : ATS // ∀ (f : Addr) (cdv : Value) (A : Around) (outer : List Env) (s : Shared) (H : Hp) (E : XK), Room k (A.deeper (PyProof.Rows.envOfC "_law_same" (defScope s_law_same) s.heap.objs.size f cdv)) → ASs (cxOf CX0 P w K mg base n_law_same "_law_same" (defScope s_law_same) f cdv A outer s H E).nox (defBody s_law_same) t } := ⟨_, fun f cdv A outer s H E hr =>
 (ass_cons (as_if (at_val (ae_isi2 (n := "list") (m := "tuple") (by simp) (by simp) (by rfl) B.isinstance (by rfl) B.list (by decide +kernel) (by rfl) B.tuple (by decide +kernel) (ae_var 1))) (ass_cons (as_if (at_w (aw_or (at_cmp (op_neD hr.units) o2_ne (ae_isi (n := "list") (by simp) (by rfl) B.isinstance (by rfl) B.list (by decide +kernel) (ae_var 0)) (ae_isi (n := "list") (by simp) (by rfl) B.isinstance (by rfl) B.list (by decide +kernel) (ae_var 1)) rfl) (aw_or1 (at_cmp (op_neD hr.units) o2_ne (ae_isi (n := "tuple") (by simp) (by rfl) B.isinstance (by rfl) B.tuple (by decide +kernel) (ae_var 0)) (ae_isi (n := "tuple") (by simp) (by rfl) B.isinstance (by rfl) B.tuple (by decide +kernel) (ae_var 1)) rfl)))) (ass_one (as_ret ae_bl)) ass_nil)
    (ass_one (as_ret (ae_and (ae_cmp (op_eqD hr.units) o2_eq (ae_callB call_len_seq cl_len (by rfl) B.len (by decide +kernel) (aa_cons (ae_var 0) aa_nil)) (ae_callB call_len_seq cl_len (by rfl) B.len (by decide +kernel) (aa_cons (ae_var 1) aa_nil)) rfl) (ae_one (ae_callB (cr_all rfl) cl_all (by rfl) B.all (by decide +kernel) (aa_cons (ae_lc rfl sc_law_same.nd (ai_z (by rfl) B.zip (ae_var 0) (ae_var 1)) (blkOk_by (N := n_law_same) (sc := defScope s_law_same) (own := [("_law_mine", 2), ("_law_its", 3)]) (by decide +kernel)) (fun _ _ _ _ _ => (ag_tup (n := 2) rfl (ags_cons (ag_name 2 sc_law_same.nd) (ags_cons (ag_name 3 sc_law_same.nd) ags_nil)))) (fun _ _ _ _ _ => (ae_can C_law_same hr h_law_same (aa_cons (ae_var 2) (aa_cons (ae_var 3) aa_nil)))) (by decide)) aa_nil))))))) ass_nil)
  (ass_cons (as_if (at_w (aw_or (at_cmp op_isN o2_isN (ae_var 1) ae_non rfl) (aw_or1 (at_val (ae_isi2 (n := "bool") (m := "str") (by simp) (by simp) (by rfl) B.isinstance (by rfl) B.bool (by decide +kernel) (by rfl) B.str (by decide +kernel) (ae_var 1)))))) (ass_one (as_ret (ae_and (ae_cmp (op_eqD hr.units) o2_eq (ae_var 0) (ae_var 1) rfl) (ae_and (ae_cmp (op_eqD hr.units) o2_eq (ae_isi (n := "bool") (by simp) (by rfl) B.isinstance (by rfl) B.bool (by decide +kernel) (ae_var 0)) (ae_isi (n := "bool") (by simp) (by rfl) B.isinstance (by rfl) B.bool (by decide +kernel) (ae_var 1)) rfl) (ae_one (ae_cmp (op_eqD hr.units) o2_eq (ae_cmp op_isN o2_isN (ae_var 0) ae_non rfl) (ae_cmp op_isN o2_isN (ae_var 1) ae_non rfl) rfl)))))) ass_nil)
  (ass_one (as_ret (ae_and (ae_isi (n := "int") (by simp) (by rfl) B.isinstance (by rfl) B.int (by decide +kernel) (ae_var 0)) (ae_and (ae_not (ae_isi (n := "bool") (by simp) (by rfl) B.isinstance (by rfl) B.bool (by decide +kernel) (ae_var 0))) (ae_one (ae_cmp (op_eqD hr.units) o2_eq (ae_var 0) (ae_var 1) rfl))))))))⟩
abbrev s_law_lines : Stmt := topS 19
abbrev n_law_lines : List Str := ["_law_book_so", "_law_found", "_law_flag_so", "_law_table_so", "_law_hue_so", "_law_cells_so", "_law_k", "_law_own"]
theorem sc_law_lines : FnScope n_law_lines ["_law_book_so"] (defScope s_law_lines) := ⟨rfl, rfl, rfl, by decide +kernel, rfl, by decide +kernel, by decide +kernel⟩
noncomputable def D_law_lines (B : Blt mg) (k : Nat) : { t : ATS // ∀ (f : Addr) (cdv : Value) (A : Around) (outer : List Env) (s : Shared) (H : Hp) (E : XK), Room k (A.deeper (PyProof.Rows.envOfC "_law_lines" (defScope s_law_lines) s.heap.objs.size f cdv)) → ASs (cxOf CX0 P w K mg base n_law_lines "_law_lines" (defScope s_law_lines) f cdv A outer s H E).nox (defBody s_law_lines) t } := ⟨_, fun f cdv A outer s H E hr =>
 (ass_cons (as_set 1 sc_law_lines.nd (ae_lst aa_nil))
  (ass_cons (as_for PassesOwn.never rfl (ai_et (by rfl) B.enumerate (ae_ix (ae_var 0) ae_int)) (ag_tup (n := 2) rfl (ags_cons (ag_name 2 sc_law_lines.nd) (ags_cons (ag_name 3 sc_law_lines.nd) ags_nil)))
    (ass_one (as_for PassesOwn.never rfl (ai_et (by rfl) B.enumerate (ae_var 3)) (ag_tup (n := 2) rfl (ags_cons (ag_name 4 sc_law_lines.nd) (ags_cons (ag_name 5 sc_law_lines.nd) ags_nil)))
      (ass_one (as_set 1 sc_law_lines.nd (ae_op op_cat o2_catL (ae_varM 1) (ae_lc rfl sc_law_lines.nd (ai_et (by rfl) B.enumerate (ae_var 5)) (blkOk_by (N := n_law_lines) (sc := defScope s_law_lines) (own := [("_law_k", 6), ("_law_own", 7)]) (by decide +kernel)) (fun _ _ _ _ _ => (ag_tup (n := 2) rfl (ags_cons (ag_name 6 sc_law_lines.nd) (ags_cons (ag_name 7 sc_law_lines.nd) ags_nil)))) (fun _ _ _ _ _ => (ae_tup (aa_cons (ae_tup (aa_cons (ae_var 2) (aa_cons (ae_var 4) (aa_cons (ae_var 6) aa_nil)))) (aa_cons (ae_var 7) aa_nil)))) (by decide))))))))
  (ass_one (as_ret (ae_varM 1)))))⟩
abbrev s_law_alike : Stmt := topS 20
abbrev n_law_alike : List Str := ["_law_lines_so", "_law_keys_so", "_law_k", "_law_one_so", "_law_at_so"]
theorem sc_law_alike : FnScope n_law_alike ["_law_lines_so", "_law_keys_so"] (defScope s_law_alike) := ⟨rfl, rfl, rfl, by decide +kernel, rfl, by decide +kernel, by decide +kernel⟩
noncomputable def D_law_alike (B : Blt mg) (k : Nat) : { t : ATS // ∀ (f : Addr) (cdv : Value) (A : Around) (outer : List Env) (s : Shared) (H : Hp) (E : XK), Room k (A.deeper (PyProof.Rows.envOfC "_law_alike" (defScope s_law_alike) s.heap.objs.size f cdv)) → ASs (cxOf CX0 P w K mg base n_law_alike "_law_alike" (defScope s_law_alike) f cdv A outer s H E).nox (defBody s_law_alike) t } := ⟨_, fun f cdv A outer s H E hr =>
 (ass_cons (as_for PassesOwn.never rfl (ai_el (by rfl) B.enumerate (ae_var 1)) (ag_tup (n := 2) rfl (ags_cons (ag_name 2 sc_law_alike.nd) (ags_cons (ag_name 3 sc_law_alike.nd) ags_nil)))
    (ass_cons (as_set 4 sc_law_alike.nd (ae_idx (room65 hr) (ae_var 1) (ae_var 3)))
    (ass_one (as_if (at_cmp (op_neD hr.units) o2_ne (ae_sl (ae_ix (ae_ix (ae_var 0) (ae_var 4)) ae_int) (ao_i ae_int) ao_no) (ae_sl (ae_ix (ae_ix (ae_var 0) (ae_var 2)) ae_int) (ao_i ae_int) ao_no) rfl) (ass_one (as_ret ae_bl)) ass_nil))))
  (ass_one (as_ret ae_bl)))⟩
abbrev s_law_told : Stmt := topS 21
abbrev n_law_told : List Str := ["_law_book_so", "_law_lines_so", "_law_still_so", "_law_found", "_law_own"]
theorem sc_law_told : FnScope n_law_told ["_law_book_so"] (defScope s_law_told) := ⟨rfl, rfl, rfl, by decide +kernel, rfl, by decide +kernel, by decide +kernel⟩
noncomputable def D_law_told (B : Blt mg) (k : Nat) {k_law_alike : Nat} {T_law_alike : FT} (C_law_alike : Can P w K mg base k_law_alike "_law_alike" ["_law_lines_so", "_law_keys_so"] T_law_alike) (h_law_alike : k_law_alike ≤ k) {k_law_lines : Nat} {T_law_lines : FT} (C_law_lines : Can P w K mg base k_law_lines "_law_lines" ["_law_book_so"] T_law_lines) (h_law_lines : k_law_lines ≤ k) : { t : ATS // ∀ (f : Addr) (cdv : Value) (A : Around) (outer : List Env) (s : Shared) (H : Hp) (E : XK), Room k (A.deeper (PyProof.Rows.envOfC "_law_told" (defScope s_law_told) s.heap.objs.size f cdv)) → ASs (cxOf CX0 P w K mg base n_law_told "_law_told" (defScope s_law_told) f cdv A outer s H E).nox (defBody s_law_told) t } := ⟨_, fun f cdv A outer s H E hr =>
 (ass_cons (as_tup3 1 2 3 rfl sc_law_told.nd (aa_cons (ae_fz (ae_can C_law_lines hr h_law_lines (aa_cons (ae_var 0) aa_nil))) (aa_cons (ae_tupRg rfl (by rfl) B.tuple (by rfl) B.range (ae_callB call_len_seq cl_len (by rfl) B.len (by decide +kernel) (aa_cons (ae_ix (ae_var 0) ae_int) aa_nil))) (aa_cons (ae_lst (aa_cons ae_str aa_nil)) aa_nil))))
  (ass_cons (as_if (at_cmp (op_eqD hr.units) o2_eq (ae_fz (ae_lcIf rfl sc_law_told.nd (ai_l (ae_var 1)) (blkOk_by (N := n_law_told) (sc := defScope s_law_told) (own := [("_law_own", 4)]) (by decide +kernel)) (fun _ _ _ _ _ => (ag_name 4 sc_law_told.nd)) (fun _ _ _ _ _ => (at_cmp (op_neD hr.units) o2_ne (ae_ix (ae_ix (ae_var 4) ae_int) ae_int) (ae_ix (ae_ix (ae_var 4) ae_int) ae_int) rfl)) (fun _ _ _ _ _ => ae_int) (by decide))) (ae_fz (ae_lst aa_nil)) rfl) (ass_one (as_app 3 ae_str)) ass_nil)
  (ass_cons (as_if (at_val (ae_can C_law_alike hr h_law_alike (aa_cons (ae_var 1) (aa_cons (ae_fz (ae_lc rfl sc_law_told.nd (ai_l (ae_var 1)) (blkOk_by (N := n_law_told) (sc := defScope s_law_told) (own := [("_law_own", 4)]) (by decide +kernel)) (fun _ _ _ _ _ => (ag_name 4 sc_law_told.nd)) (fun _ _ _ _ _ => (ae_tup (aa_cons (ae_ix (ae_ix (ae_var 4) ae_int) ae_int) (aa_cons (ae_ix (ae_ix (ae_var 4) ae_int) ae_int) aa_nil)))) (by decide))) aa_nil)))) (ass_one (as_app 3 ae_str)) ass_nil)
  (ass_cons (as_if (at_val (ae_can C_law_alike hr h_law_alike (aa_cons (ae_var 1) (aa_cons (ae_fz (ae_lc rfl sc_law_told.nd (ai_l (ae_var 1)) (blkOk_by (N := n_law_told) (sc := defScope s_law_told) (own := [("_law_own", 4)]) (by decide +kernel)) (fun _ _ _ _ _ => (ag_name 4 sc_law_told.nd)) (fun _ _ _ _ _ => (ae_tup (aa_cons (ae_ix (ae_ix (ae_var 0) ae_int) (ae_ix (ae_ix (ae_var 4) ae_int) ae_int)) (aa_cons (ae_ix (ae_ix (ae_var 4) ae_int) ae_int) aa_nil)))) (by decide))) aa_nil)))) (ass_one (as_app 3 ae_str)) ass_nil)
  (ass_cons (as_if (at_cmp (op_eqD hr.units) o2_eq (ae_fz (ae_lcIf rfl sc_law_told.nd (ai_l (ae_var 1)) (blkOk_by (N := n_law_told) (sc := defScope s_law_told) (own := [("_law_own", 4)]) (by decide +kernel)) (fun _ _ _ _ _ => (ag_name 4 sc_law_told.nd)) (fun _ _ _ _ _ => (at_w (aw_or (at_cmp (op_neD hr.units) o2_ne (ae_ix (ae_ix (ae_var 4) ae_int) ae_int) (ae_var 2) rfl) (aw_or1 (at_cmp (op_neD hr.units) o2_ne (ae_ix (ae_ix (ae_var 4) ae_int) ae_int) (ae_var 2) rfl))))) (fun _ _ _ _ _ => ae_int) (by decide))) (ae_fz (ae_lst aa_nil)) rfl) (ass_one (as_app 3 ae_str)) ass_nil)
  (ass_cons (as_if (at_val (ae_can C_law_alike hr h_law_alike (aa_cons (ae_var 1) (aa_cons (ae_fz (ae_lc rfl sc_law_told.nd (ai_l (ae_var 1)) (blkOk_by (N := n_law_told) (sc := defScope s_law_told) (own := [("_law_own", 4)]) (by decide +kernel)) (fun _ _ _ _ _ => (ag_name 4 sc_law_told.nd)) (fun _ _ _ _ _ => ae_int) (by decide))) aa_nil)))) (ass_one (as_app 3 ae_str)) ass_nil)
  (ass_one (as_ret (ae_callTy call_tuple_of cl_tuple (by rfl) B.tuple (by decide +kernel) (aa_cons (ae_varM 3) aa_nil))))))))))⟩
abbrev s_law_map : Stmt := topS 22
abbrev n_law_map : List Str := ["_law_tin", "_law_hues_so", "_law_own", "_law_k", "_law_its"]
theorem sc_law_map : FnScope n_law_map ["_law_tin", "_law_hues_so"] (defScope s_law_map) := ⟨rfl, rfl, rfl, by decide +kernel, rfl, by decide +kernel, by decide +kernel⟩
noncomputable def D_law_map (B : Blt mg) (k : Nat) {k_law_of : Nat} {T_law_of : FT} (C_law_of : Can P w K mg base k_law_of "_law_of" ["_law_tin", "_law_goods_so"] T_law_of) (h_law_of : k_law_of ≤ k) : { t : ATS // ∀ (f : Addr) (cdv : Value) (A : Around) (outer : List Env) (s : Shared) (H : Hp) (E : XK), Room k (A.deeper (PyProof.Rows.envOfC "_law_map" (defScope s_law_map) s.heap.objs.size f cdv)) → ASs (cxOf CX0 P w K mg base n_law_map "_law_map" (defScope s_law_map) f cdv A outer s H E).nox (defBody s_law_map) t } := ⟨_, fun f cdv A outer s H E hr =>
 (ass_one (as_ret (ae_callTy call_tuple_of cl_tuple (by rfl) B.tuple (by decide +kernel) (aa_cons (ae_lc rfl sc_law_map.nd (ai_t (ae_var 1)) (blkOk_by (N := n_law_map) (sc := defScope s_law_map) (own := [("_law_own", 2)]) (by decide +kernel)) (fun _ _ _ _ _ => (ag_name 2 sc_law_map.nd)) (fun _ _ _ _ _ => (ae_can C_law_of hr h_law_of (aa_cons (ae_var 0) (aa_cons (ae_fz (ae_lcIf rfl sc_law_map.nd (ai_et (by rfl) B.enumerate (ae_var 1)) (blkOk_by (N := n_law_map) (sc := relS _ (defScope s_law_map)) (own := [("_law_k", 3), ("_law_its", 4)]) (by decide +kernel)) (fun _ _ _ _ _ => (ag_tup (n := 2) rfl (ags_cons (ag_name 3 sc_law_map.nd) (ags_cons (ag_name 4 sc_law_map.nd) ags_nil)))) (fun _ _ _ _ _ => (at_cmp (op_eqD hr.units) o2_eq (ae_var 4) (ae_var 2) rfl)) (fun _ _ _ _ _ => (ae_var 3)) (by decide))) aa_nil)))) (by decide)) aa_nil))))⟩
abbrev s_law_book : Stmt := topS 23
abbrev n_law_book : List Str := ["_law_tin", "_law_letters_so", "_law_flags_so", "_law_extra_so", "_law_word_so", "_law_hues_so", "_law_still_so", "_law_kept_so", "_law_rows_so", "_law_flag_so", "_law_table_so", "_law_own", "_law_cells_so", "_law_letter_so", "_law_later_so", "_law_near_so", "_law_keys_so", "_law_key_so", "_law_maps_so", "_law_answers_so", "_law_j", "_law_k"]
theorem sc_law_book : FnScope n_law_book ["_law_tin", "_law_letters_so", "_law_flags_so", "_law_extra_so", "_law_word_so"] (defScope s_law_book) := ⟨rfl, rfl, rfl, by decide +kernel, rfl, by decide +kernel, by decide +kernel⟩
noncomputable def D_law_book (B : Blt mg) (k : Nat) {k_law_map : Nat} {T_law_map : FT} (C_law_map : Can P w K mg base k_law_map "_law_map" ["_law_tin", "_law_hues_so"] T_law_map) (h_law_map : k_law_map ≤ k) {k_law_of : Nat} {T_law_of : FT} (C_law_of : Can P w K mg base k_law_of "_law_of" ["_law_tin", "_law_goods_so"] T_law_of) (h_law_of : k_law_of ≤ k) {k_law_take : Nat} {T_law_take : FT} (C_law_take : Can P w K mg base k_law_take "_law_take" ["_law_tin", "_law_below_so"] T_law_take) (h_law_take : k_law_take ≤ k) : { t : ATS // ∀ (f : Addr) (cdv : Value) (A : Around) (outer : List Env) (s : Shared) (H : Hp) (E : XK), Room k (A.deeper (PyProof.Rows.envOfC "_law_book" (defScope s_law_book) s.heap.objs.size f cdv)) → ASs (cxOf CX0 P w K mg base n_law_book "_law_book" (defScope s_law_book) f cdv A outer s H E).nox (defBody s_law_book) t } := ⟨_, fun f cdv A outer s H E hr =>
 (ass_cons (as_set 5 sc_law_book.nd (ae_callTy call_tuple_of cl_tuple (by rfl) B.tuple (by decide +kernel) (aa_cons (ae_op op_cat o2_catL (ae_lstRg rfl (by rfl) B.list (by rfl) B.range (ae_op op_add o2_I0 (ae_var 1) ae_int)) (ae_lc rfl sc_law_book.nd (ai_r (by rfl) B.range (ae_var 3)) (blkOk_by (N := n_law_book) (sc := defScope s_law_book) (own := [("_law_j", 20)]) (by decide +kernel)) (fun _ _ _ _ _ => (ag_name 20 sc_law_book.nd)) (fun _ _ _ _ _ => (ae_can C_law_take hr h_law_take (aa_cons (ae_var 0) (aa_cons (ae_op op_add o2_I0 (ae_var 1) ae_int) aa_nil)))) (by decide))) aa_nil)))
  (ass_cons (as_par3 6 7 8 rfl sc_law_book.nd (aa_cons (ae_tupRg rfl (by rfl) B.tuple (by rfl) B.range (ae_callB call_len_seq cl_len (by rfl) B.len (by decide +kernel) (aa_cons (ae_var 5) aa_nil))) (aa_cons ae_new (aa_cons (ae_lst aa_nil) aa_nil))) (by decide) (by decide) (by decide))
  (ass_cons (as_for PassesOwn.never rfl (ai_r (by rfl) B.range (ae_var 2)) (ag_name 9 sc_law_book.nd)
    (ass_cons (as_set 10 sc_law_book.nd (ae_lst aa_nil))
    (ass_cons (as_for PassesOwn.never rfl (ai_t (ae_var 5)) (ag_name 11 sc_law_book.nd)
      (ass_cons (as_set 12 sc_law_book.nd (ae_lst aa_nil))
      (ass_cons (as_for PassesOwn.never rfl (ai_r (by rfl) B.range (ae_op op_add o2_I0 (ae_var 1) ae_int)) (ag_name 13 sc_law_book.nd)
        (ass_cons (as_set 14 sc_law_book.nd (ae_can C_law_take hr h_law_take (aa_cons (ae_var 0) (aa_cons (ae_var 2) aa_nil))))
        (ass_cons (as_set 15 sc_law_book.nd (ae_can C_law_of hr h_law_of (aa_cons (ae_var 0) (aa_cons (ae_fz (ae_lcIf rfl sc_law_book.nd (ai_r (by rfl) B.range (ae_callB call_len_seq cl_len (by rfl) B.len (by decide +kernel) (aa_cons (ae_var 5) aa_nil))) (blkOk_by (N := n_law_book) (sc := defScope s_law_book) (own := [("_law_k", 21)]) (by decide +kernel)) (fun _ _ _ _ _ => (ag_name 21 sc_law_book.nd)) (fun _ _ _ _ _ => (at_cmp (op_eqD hr.units) o2_eq (ae_ix (ae_var 5) (ae_var 21)) (ae_var 13) rfl)) (fun _ _ _ _ _ => (ae_var 21)) (by decide))) aa_nil))))
        (ass_cons (as_set 16 sc_law_book.nd (ae_disp (aps_cons ae_int (aps_cons (ae_tup (aa_cons (ae_var 11) (aa_cons (ae_var 13) aa_nil))) (aps_cons (ae_tup (aa_cons (ae_var 9) (aa_cons (ae_var 14) aa_nil))) aps_nil))) (by decide) (by decide) (by decide)))
        (ass_cons (as_set 17 sc_law_book.nd (ae_get hr.units (ae_varS 16) (ae_var 4) (ae_tup (aa_cons (ae_var 9) (aa_cons (ae_lenO 10 (by rfl) B.len) (aa_cons (ae_var 13) aa_nil))))))
        (ass_cons (as_if (at_inD true 7 rfl hr.units (ae_var 17)) (ass_cons (as_set 18 sc_law_book.nd (ae_tup (aa_cons (ae_can C_law_map hr h_law_map (aa_cons (ae_var 0) (aa_cons (ae_var 5) aa_nil))) (aa_cons (ae_can C_law_map hr h_law_map (aa_cons (ae_var 0) (aa_cons (ae_var 5) aa_nil))) aa_nil))))
          (ass_one (as_putD 7 hr.units (ae_get hr.units (ae_disp (aps_cons (ae_tup (aa_cons (ae_var 6) (aa_cons (ae_var 6) aa_nil))) (aps_cons (ae_op op_repT o2_repT (ae_sl (ae_var 18) ao_no (ao_i ae_int)) ae_int) aps_nil)) (by decide) (by decide) (by decide)) (ae_var 4) (ae_var 18)) (ae_var 17)))) ass_nil)
        (ass_one (as_app 12 (ae_op op_catA o2_catT (ae_tup (aa_cons (ae_var 14) (aa_cons (ae_var 15) aa_nil))) (ae_getD 7 hr.units (ae_var 17)))))))))))
      (ass_one (as_app 10 (ae_callTy call_tuple_of cl_tuple (by rfl) B.tuple (by decide +kernel) (aa_cons (ae_varM 12) aa_nil)))))))
    (ass_one (as_app 8 (ae_callTy call_tuple_of cl_tuple (by rfl) B.tuple (by decide +kernel) (aa_cons (ae_varM 10) aa_nil)))))))
  (ass_cons (as_set 19 sc_law_book.nd (ae_callTy call_tuple_of cl_tuple (by rfl) B.tuple (by decide +kernel) (aa_cons (ae_lc rfl sc_law_book.nd (ai_r (by rfl) B.range (ae_var 2)) (blkOk_by (N := n_law_book) (sc := defScope s_law_book) (own := [("_law_j", 20)]) (by decide +kernel)) (fun _ _ _ _ _ => (ag_name 20 sc_law_book.nd)) (fun _ _ _ _ _ => (ae_cmp (op_eqD hr.units) o2_eq (ae_can C_law_take hr h_law_take (aa_cons (ae_var 0) (aa_cons ae_int aa_nil))) ae_int rfl)) (by decide)) aa_nil)))
  (ass_one (as_ret (ae_tup (aa_cons (ae_var 19) (aa_cons (ae_var 5) (aa_cons (ae_tup (aa_cons (ae_can C_law_take hr h_law_take (aa_cons (ae_var 0) (aa_cons (ae_var 2) aa_nil))) (aa_cons ae_int aa_nil))) (aa_cons (ae_callTy call_tuple_of cl_tuple (by rfl) B.tuple (by decide +kernel) (aa_cons (ae_varM 8) aa_nil)) aa_nil)))))))))))⟩
abbrev s_law_has_parts : Stmt := topS 24
abbrev n_law_has_parts : List Str := ["_law_book_so", "_law_parts_so", "_law_hues_so", "_law_found", "_law_k", "_law_own", "_law_place_so", "_law_row_so", "_law_side_so", "_law_later_so", "_law_i", "_law_told_so", "_law_key_so", "_law_j"]
theorem sc_law_has_parts : FnScope n_law_has_parts ["_law_book_so", "_law_parts_so"] (defScope s_law_has_parts) := ⟨rfl, rfl, rfl, by decide +kernel, rfl, by decide +kernel, by decide +kernel⟩
noncomputable def D_law_has_parts (B : Blt mg) (k : Nat) {k_law_lines : Nat} {T_law_lines : FT} (C_law_lines : Can P w K mg base k_law_lines "_law_lines" ["_law_book_so"] T_law_lines) (h_law_lines : k_law_lines ≤ k) : { t : ATS // ∀ (f : Addr) (cdv : Value) (A : Around) (outer : List Env) (s : Shared) (H : Hp) (E : XK), Room k (A.deeper (PyProof.Rows.envOfC "_law_has_parts" (defScope s_law_has_parts) s.heap.objs.size f cdv)) → ASs (cxOf CX0 P w K mg base n_law_has_parts "_law_has_parts" (defScope s_law_has_parts) f cdv A outer s H E).nox (defBody s_law_has_parts) t } := ⟨_, fun f cdv A outer s H E hr =>
 (ass_cons (as_tup2 2 3 rfl sc_law_has_parts.nd (aa_cons (ae_ix (ae_var 0) ae_int) (aa_cons ae_new aa_nil)))
  (ass_cons (as_for PassesOwn.never rfl (ai_et (by rfl) B.enumerate (ae_var 2)) (ag_tup (n := 2) rfl (ags_cons (ag_name 4 sc_law_has_parts.nd) (ags_cons (ag_name 5 sc_law_has_parts.nd) ags_nil)))
    (ass_one (as_if (at_cmp (op_neD hr.units) o2_ne (ae_fz (ae_lcIf rfl sc_law_has_parts.nd (ai_r (by rfl) B.range (ae_var 4)) (blkOk_by (N := n_law_has_parts) (sc := defScope s_law_has_parts) (own := [("_law_j", 13)]) (by decide +kernel)) (fun _ _ _ _ _ => (ag_name 13 sc_law_has_parts.nd)) (fun _ _ _ _ _ => (at_w (aw_and (at_cmp (op_eqD hr.units) o2_eq (ae_ix (ae_var 2) (ae_var 13)) (ae_var 5) rfl) (aw_and1 (at_cmp (op_eqD hr.units) o2_eq (ae_ix (ae_var 1) (ae_var 13)) (ae_ix (ae_var 1) (ae_var 4)) rfl))))) (fun _ _ _ _ _ => ae_int) (by decide))) (ae_fz (ae_lst aa_nil)) rfl) (ass_one (as_ret ae_bl)) ass_nil)))
  (ass_cons (as_for PassesOwn.never rfl (ai_l (ae_fz (ae_can C_law_lines hr h_law_lines (aa_cons (ae_var 0) aa_nil)))) (ag_tup (n := 2) rfl (ags_cons (ag_name 6 sc_law_has_parts.nd) (ags_cons (ag_name 7 sc_law_has_parts.nd) ags_nil)))
    (ass_one (as_for PassesOwn.never rfl (ai_et (by rfl) B.enumerate (ae_var 2)) (ag_tup (n := 2) rfl (ags_cons (ag_name 4 sc_law_has_parts.nd) (ags_cons (ag_name 5 sc_law_has_parts.nd) ags_nil)))
      (ass_one (as_for PassesOwn.never rfl (ai_t (ae_tup (aa_cons ae_int (aa_cons ae_int aa_nil)))) (ag_name 8 sc_law_has_parts.nd)
        (ass_cons (as_set 9 sc_law_has_parts.nd (ae_ix (ae_var 1) (ae_ix (ae_ix (ae_var 7) (ae_var 8)) (ae_var 4))))
        (ass_one (as_for PassesOwn.never rfl (ai_r (by rfl) B.range (ae_callB call_len_seq cl_len (by rfl) B.len (by decide +kernel) (aa_cons (ae_var 9) aa_nil))) (ag_name 10 sc_law_has_parts.nd)
          (ass_cons (as_set 11 sc_law_has_parts.nd (ae_tup (aa_cons (ae_var 8) (aa_cons (ae_var 10) (aa_cons (ae_ix (ae_var 2) (ae_ix (ae_var 6) ae_int)) (aa_cons (ae_ix (ae_var 6) ae_int) (aa_cons (ae_sl (ae_ix (ae_var 1) (ae_ix (ae_var 6) ae_int)) (ao_i (ae_op op_add o2_I0 (ae_var 10) ae_int)) ao_no) aa_nil)))))))
          (ass_cons (as_set 12 sc_law_has_parts.nd (ae_op op_catA o2_catT (ae_var 11) (ae_tup (aa_cons (ae_var 5) (aa_cons (ae_sl (ae_ix (ae_var 1) (ae_var 4)) (ao_i (ae_var 10)) ao_no) aa_nil)))))
          (ass_cons (as_if (at_w (aw_and (at_inD false 3 rfl hr.units (ae_var 12)) (aw_and1 (at_cmp (op_neD hr.units) o2_ne (ae_getD 3 hr.units (ae_var 12)) (ae_ix (ae_var 9) (ae_var 10)) rfl)))) (ass_one (as_ret ae_bl)) ass_nil)
          (ass_one (as_putD 3 hr.units (ae_ix (ae_var 9) (ae_var 10)) (ae_var 12))))))))))))))
  (ass_one (as_ret ae_bl)))))⟩
abbrev s_law_leveled : Stmt := topS 25
abbrev n_law_leveled : List Str := ["_law_tin", "_law_hues_so", "_law_pairs_so", "_law_bits_so", "_law_rows_so", "_law_wide_so", "_law_k", "_law_own", "_law_cells_so", "_law_letter_so", "_law_maps_so", "_law_side_so", "_law_at_so", "_law_found", "_law_j", "_law_its", "_law_high_so", "_law_low_so", "_law_lap"]
theorem sc_law_leveled : FnScope n_law_leveled ["_law_tin"] (defScope s_law_leveled) := ⟨rfl, rfl, rfl, by decide +kernel, rfl, by decide +kernel, by decide +kernel⟩
noncomputable def D_law_leveled (B : Blt mg) (k : Nat) {k_law_take : Nat} {T_law_take : FT} (C_law_take : Can P w K mg base k_law_take "_law_take" ["_law_tin", "_law_below_so"] T_law_take) (h_law_take : k_law_take ≤ k) : { t : ATS // ∀ (f : Addr) (cdv : Value) (A : Around) (outer : List Env) (s : Shared) (H : Hp) (E : XK), Room k (A.deeper (PyProof.Rows.envOfC "_law_leveled" (defScope s_law_leveled) s.heap.objs.size f cdv)) → ASs (cxOf CX0 P w K mg base n_law_leveled "_law_leveled" (defScope s_law_leveled) f cdv A outer s H E).nox (defBody s_law_leveled) t } := ⟨_, fun f cdv A outer s H E hr =>
 (ass_cons (as_par 1 2 rfl sc_law_leveled.nd (aa_cons (ae_tup (aa_cons ae_int (aa_cons ae_int (aa_cons ae_int (aa_cons ae_int (aa_cons ae_int (aa_cons ae_int (aa_cons ae_int (aa_cons ae_int aa_nil))))))))) (aa_cons (ae_fz (ae_op op_rep o2_repL (ae_lst (aa_cons (ae_tup (aa_cons ae_int (aa_cons ae_int aa_nil))) (aa_cons (ae_tup (aa_cons ae_int (aa_cons ae_int aa_nil))) (aa_cons (ae_tup (aa_cons ae_int (aa_cons ae_int aa_nil))) (aa_cons (ae_tup (aa_cons ae_int (aa_cons ae_int aa_nil))) aa_nil))))) ae_int)) aa_nil)) (by decide))
  (ass_cons (as_par 3 4 rfl sc_law_leveled.nd (aa_cons (ae_fz (ae_lc rfl sc_law_leveled.nd (ai_r (by rfl) B.range ae_int) (blkOk_by (N := n_law_leveled) (sc := defScope s_law_leveled) (own := [("_law_lap", 18)]) (by decide +kernel)) (fun _ _ _ _ _ => (ag_name 18 sc_law_leveled.nd)) (fun _ _ _ _ _ => (ae_can C_law_take hr h_law_take (aa_cons (ae_var 0) (aa_cons ae_int aa_nil)))) (by decide))) (aa_cons (ae_lst aa_nil) aa_nil)) (by decide))
  (ass_cons (as_set 5 sc_law_leveled.nd (ae_cmp (op_eqD hr.units) o2_eq (ae_can C_law_take hr h_law_take (aa_cons (ae_var 0) (aa_cons ae_int aa_nil))) ae_int rfl))
  (ass_cons (as_for PassesOwn.never rfl (ai_el (by rfl) B.enumerate (ae_var 2)) (ag_tup (n := 2) rfl (ags_cons (ag_name 6 sc_law_leveled.nd) (ags_cons (ag_name 7 sc_law_leveled.nd) ags_nil)))
    (ass_cons (as_set 8 sc_law_leveled.nd (ae_lst aa_nil))
    (ass_cons (as_for PassesOwn.never rfl (ai_t (ae_tup (aa_cons ae_int (aa_cons ae_int aa_nil)))) (ag_name 9 sc_law_leveled.nd)
      (ass_cons (as_set 10 sc_law_leveled.nd (ae_lst aa_nil))
      (ass_cons (as_for PassesOwn.never rfl (ai_t (ae_tup (aa_cons ae_int (aa_cons ae_int aa_nil)))) (ag_name 11 sc_law_leveled.nd)
        (ass_cons (as_set 12 sc_law_leveled.nd (ae_op op_add o2_I0 (ae_op op_add o2_I0 (ae_op op_mul o2_I ae_int (ae_ix (ae_var 1) (ae_var 6))) (ae_op op_mul o2_I ae_int (ae_var 9))) (ae_var 11)))
        (ass_cons (as_set 13 sc_law_leveled.nd (ae_lst aa_nil))
        (ass_cons (as_for PassesOwn.never rfl (ai_el (by rfl) B.enumerate (ae_var 2)) (ag_tup (n := 2) rfl (ags_cons (ag_name 14 sc_law_leveled.nd) (ags_cons (ag_name 15 sc_law_leveled.nd) ags_nil)))
          (ass_cons (as_set 16 sc_law_leveled.nd (ae_op op_mod o2_I (ae_callTy call_int1 cl_int (by rfl) B.int (by decide +kernel) (aa_cons (ae_op op_add o2_I0 (ae_ix (ae_var 15) ae_int) (ae_ix (ae_var 3) (ae_var 12))) aa_nil)) ae_int))
          (ass_cons (as_set 17 sc_law_leveled.nd (ae_op op_add o2_I0 (ae_ix (ae_var 15) ae_int) (ae_op op_mul o2_I (ae_ix (ae_var 3) (ae_op op_add o2_I0 ae_int (ae_var 12))) (ae_ix (ae_var 7) ae_int))))
          (ass_cons (as_set 17 sc_law_leveled.nd (ae_op op_mod o2_I (ae_callTy call_int1 cl_int (by rfl) B.int (by decide +kernel) (aa_cons (ae_op op_add o2_I0 (ae_var 17) (ae_op op_mul o2_I (ae_ix (ae_var 3) (ae_op op_add o2_I0 ae_int (ae_var 12))) (ae_ix (ae_var 15) ae_int))) aa_nil)) ae_int))
          (ass_cons (as_set 16 sc_law_leveled.nd (ae_op op_mod o2_I (ae_callTy call_int1 cl_int (by rfl) B.int (by decide +kernel) (aa_cons (ae_op op_add o2_I0 (ae_var 16) (ae_op op_mul o2_I (ae_ix (ae_var 15) ae_int) (ae_callTy call_int1 cl_int (by rfl) B.int (by decide +kernel) (aa_cons (ae_var 5) aa_nil)))) aa_nil)) ae_int))
          (ass_one (as_app 13 (ae_op op_add o2_I0 (ae_op op_add o2_I0 (ae_op op_mul o2_I ae_int (ae_ix (ae_var 1) (ae_var 14))) (ae_op op_mul o2_I ae_int (ae_var 16))) (ae_var 17)))))))))
        (ass_one (as_app 10 (ae_callTy call_tuple_of cl_tuple (by rfl) B.tuple (by decide +kernel) (aa_cons (ae_varM 13) aa_nil))))))))
      (ass_one (as_app 8 (ae_op op_catA o2_catT (ae_tup (aa_cons ae_int (aa_cons (ae_op op_mul o2_I ae_int (ae_var 9)) aa_nil))) (ae_callTy call_tuple_of cl_tuple (by rfl) B.tuple (by decide +kernel) (aa_cons (ae_varM 10) aa_nil))))))))
    (ass_one (as_app 4 (ae_callTy call_tuple_of cl_tuple (by rfl) B.tuple (by decide +kernel) (aa_cons (ae_varM 8) aa_nil)))))))
  (ass_one (as_ret (ae_tup (aa_cons (ae_tup (aa_cons (ae_tup (aa_cons ae_bl aa_nil)) (aa_cons (ae_var 1) (aa_cons (ae_tup (aa_cons ae_int (aa_cons ae_int aa_nil))) (aa_cons (ae_tup (aa_cons (ae_callTy call_tuple_of cl_tuple (by rfl) B.tuple (by decide +kernel) (aa_cons (ae_varM 4) aa_nil)) aa_nil)) aa_nil))))) (aa_cons (ae_callTy call_tuple_of cl_tuple (by rfl) B.tuple (by decide +kernel) (aa_cons (ae_var 2) aa_nil)) aa_nil)))))))))⟩
abbrev s_law_by_hand_right : Stmt := topS 26
abbrev n_law_by_hand_right : List Str := ["_law_hues", "_law_turn", "_law_still", "_law_left", "_law_both", "_law_led", "_law_got", "_law_due", "_law_h", "_law_t"]
theorem sc_law_by_hand_right : FnScope n_law_by_hand_right [] (defScope s_law_by_hand_right) := ⟨rfl, rfl, rfl, by decide +kernel, rfl, by decide +kernel, by decide +kernel⟩
noncomputable def D_law_by_hand_right (B : Blt mg) (k : Nat) {k_law_same : Nat} {T_law_same : FT} (C_law_same : Can P w K mg base k_law_same "_law_same" ["_law_got", "_law_due"] T_law_same) (h_law_same : k_law_same ≤ k) {k_is_parts : Nat} {T_is_parts : FT} (C_is_parts : Can P w K mg base k_is_parts "is_parts" ["book", "thing"] T_is_parts) (h_is_parts : k_is_parts ≤ k) {k_told_of : Nat} {T_told_of : FT} (C_told_of : Can P w K mg base k_told_of "told_of" ["book"] T_told_of) (h_told_of : k_told_of ≤ k) : { t : ATS // ∀ (f : Addr) (cdv : Value) (A : Around) (outer : List Env) (s : Shared) (H : Hp) (E : XK), Room k (A.deeper (PyProof.Rows.envOfC "_law_by_hand_right" (defScope s_law_by_hand_right) s.heap.objs.size f cdv)) → ASs (cxOf CX0 P w K mg base n_law_by_hand_right "_law_by_hand_right" (defScope s_law_by_hand_right) f cdv A outer s H E).nox (defBody s_law_by_hand_right) t } := ⟨_, fun f cdv A outer s H E hr =>
 (ass_cons (as_tup3 0 1 2 rfl sc_law_by_hand_right.nd (aa_cons (ae_tup (aa_cons ae_int (aa_cons ae_int (aa_cons ae_int aa_nil)))) (aa_cons (ae_tup (aa_cons ae_int (aa_cons ae_int (aa_cons ae_int aa_nil)))) (aa_cons (ae_tup (aa_cons ae_int (aa_cons ae_int (aa_cons ae_int aa_nil)))) aa_nil))))
  (ass_cons (as_set 3 sc_law_by_hand_right.nd (ae_tup (aa_cons (ae_tup (aa_cons ae_bl aa_nil)) (aa_cons (ae_var 0) (aa_cons (ae_tup (aa_cons ae_int (aa_cons ae_int aa_nil))) (aa_cons (ae_tup (aa_cons (ae_callTy call_tuple_of cl_tuple (by rfl) B.tuple (by decide +kernel) (aa_cons (ae_lc rfl sc_law_by_hand_right.nd (ai_t (ae_var 0)) (blkOk_by (N := n_law_by_hand_right) (sc := defScope s_law_by_hand_right) (own := [("_law_h", 8)]) (by decide +kernel)) (fun _ _ _ _ _ => (ag_name 8 sc_law_by_hand_right.nd)) (fun _ _ _ _ _ => (ae_callTy call_tuple_of cl_tuple (by rfl) B.tuple (by decide +kernel) (aa_cons (ae_lc rfl sc_law_by_hand_right.nd (ai_t (ae_tup (aa_cons ae_int (aa_cons ae_int aa_nil)))) (blkOk_by (N := n_law_by_hand_right) (sc := relS _ (defScope s_law_by_hand_right)) (own := [("_law_t", 9)]) (by decide +kernel)) (fun _ _ _ _ _ => (ag_name 9 sc_law_by_hand_right.nd)) (fun _ _ _ _ _ => (ae_tup (aa_cons ae_int (aa_cons (ae_op op_mul o2_I ae_int (ae_var 9)) (aa_cons (ae_var 1) (aa_cons (ae_var 2) aa_nil)))))) (by decide)) aa_nil))) (by decide)) aa_nil)) aa_nil)) aa_nil))))))
  (ass_cons (as_set 4 sc_law_by_hand_right.nd (ae_tup (aa_cons (ae_tup (aa_cons ae_bl aa_nil)) (aa_cons (ae_var 0) (aa_cons (ae_tup (aa_cons ae_int (aa_cons ae_int aa_nil))) (aa_cons (ae_tup (aa_cons (ae_callTy call_tuple_of cl_tuple (by rfl) B.tuple (by decide +kernel) (aa_cons (ae_lc rfl sc_law_by_hand_right.nd (ai_t (ae_var 0)) (blkOk_by (N := n_law_by_hand_right) (sc := defScope s_law_by_hand_right) (own := [("_law_h", 8)]) (by decide +kernel)) (fun _ _ _ _ _ => (ag_name 8 sc_law_by_hand_right.nd)) (fun _ _ _ _ _ => (ae_callTy call_tuple_of cl_tuple (by rfl) B.tuple (by decide +kernel) (aa_cons (ae_lc rfl sc_law_by_hand_right.nd (ai_t (ae_tup (aa_cons ae_int (aa_cons ae_int aa_nil)))) (blkOk_by (N := n_law_by_hand_right) (sc := relS _ (defScope s_law_by_hand_right)) (own := [("_law_t", 9)]) (by decide +kernel)) (fun _ _ _ _ _ => (ag_name 9 sc_law_by_hand_right.nd)) (fun _ _ _ _ _ => (ae_tup (aa_cons ae_int (aa_cons (ae_op op_mul o2_I ae_int (ae_var 9)) (aa_cons (ae_var 1) (aa_cons (ae_var 1) aa_nil)))))) (by decide)) aa_nil))) (by decide)) aa_nil)) aa_nil)) aa_nil))))))
  (ass_cons (as_set 5 sc_law_by_hand_right.nd (ae_tup (aa_cons (ae_tup (aa_cons ae_bl aa_nil)) (aa_cons (ae_tup (aa_cons ae_int (aa_cons ae_int (aa_cons ae_int (aa_cons ae_int (aa_cons ae_int aa_nil)))))) (aa_cons (ae_tup (aa_cons ae_int (aa_cons ae_int aa_nil))) (aa_cons (ae_tup (aa_cons (ae_callTy call_tuple_of cl_tuple (by rfl) B.tuple (by decide +kernel) (aa_cons (ae_lc rfl sc_law_by_hand_right.nd (ai_r (by rfl) B.range ae_int) (blkOk_by (N := n_law_by_hand_right) (sc := defScope s_law_by_hand_right) (own := [("_law_h", 8)]) (by decide +kernel)) (fun _ _ _ _ _ => (ag_name 8 sc_law_by_hand_right.nd)) (fun _ _ _ _ _ => (ae_callTy call_tuple_of cl_tuple (by rfl) B.tuple (by decide +kernel) (aa_cons (ae_lc rfl sc_law_by_hand_right.nd (ai_t (ae_tup (aa_cons ae_int (aa_cons ae_int aa_nil)))) (blkOk_by (N := n_law_by_hand_right) (sc := relS _ (defScope s_law_by_hand_right)) (own := [("_law_t", 9)]) (by decide +kernel)) (fun _ _ _ _ _ => (ag_name 9 sc_law_by_hand_right.nd)) (fun _ _ _ _ _ => (ae_tup (aa_cons ae_int (aa_cons (ae_ix (ae_tup (aa_cons ae_int (aa_cons ae_int aa_nil))) (ae_var 9)) (aa_cons (ae_tup (aa_cons ae_int (aa_cons ae_int (aa_cons ae_int (aa_cons ae_int (aa_cons ae_int aa_nil)))))) (aa_cons (ae_tup (aa_cons ae_int (aa_cons ae_int (aa_cons ae_int (aa_cons ae_int (aa_cons ae_int aa_nil)))))) aa_nil)))))) (by decide)) aa_nil))) (by decide)) aa_nil)) aa_nil)) aa_nil))))))
  (ass_cons (as_set 6 sc_law_by_hand_right.nd (ae_lst (aa_cons (ae_can C_told_of hr h_told_of (aa_cons (ae_var 3) aa_nil)) (aa_cons (ae_can C_told_of hr h_told_of (aa_cons (ae_var 4) aa_nil)) (aa_cons (ae_can C_is_parts hr h_is_parts (aa_cons (ae_var 3) (aa_cons (ae_tup (aa_cons (ae_tup (aa_cons ae_int aa_nil)) (aa_cons (ae_tup (aa_cons ae_int aa_nil)) (aa_cons (ae_tup (aa_cons ae_int aa_nil)) aa_nil)))) aa_nil))) (aa_cons (ae_can C_is_parts hr h_is_parts (aa_cons (ae_var 3) (aa_cons (ae_tup (aa_cons (ae_tup (aa_cons ae_int aa_nil)) (aa_cons (ae_tup (aa_cons ae_int aa_nil)) (aa_cons (ae_tup (aa_cons ae_int aa_nil)) aa_nil)))) aa_nil))) aa_nil))))))
  (ass_cons (as_app 6 (ae_can C_is_parts hr h_is_parts (aa_cons (ae_var 5) (aa_cons (ae_tup (aa_cons (ae_tup (aa_cons ae_int (aa_cons ae_int aa_nil))) (aa_cons (ae_tup (aa_cons ae_int (aa_cons ae_int aa_nil))) (aa_cons (ae_tup (aa_cons ae_int (aa_cons ae_int aa_nil))) (aa_cons (ae_tup (aa_cons ae_int (aa_cons ae_int aa_nil))) (aa_cons (ae_tup (aa_cons ae_int (aa_cons ae_int aa_nil))) aa_nil)))))) aa_nil))))
  (ass_cons (as_set 7 sc_law_by_hand_right.nd (ae_fz (ae_lst (aa_cons (ae_tup (aa_cons ae_str (aa_cons ae_str (aa_cons ae_str (aa_cons ae_str aa_nil))))) (aa_cons (ae_tup (aa_cons ae_str (aa_cons ae_str (aa_cons ae_str (aa_cons ae_str (aa_cons ae_str aa_nil)))))) (aa_cons ae_bl (aa_cons ae_bl (aa_cons ae_bl aa_nil))))))))
  (ass_one (as_ret (ae_can C_law_same hr h_law_same (aa_cons (ae_fz (ae_varM 6)) (aa_cons (ae_var 7) aa_nil))))))))))))⟩
abbrev s_law_right : Stmt := topS 27
abbrev n_law_right : List Str := ["_law_tin", "_law_word_so", "_law_book_so", "_law_due", "_law_got", "_law_many_so", "_law_things", "_law_lap", "_law_own", "_law_k", "_law_its"]
theorem sc_law_right : FnScope n_law_right ["_law_tin"] (defScope s_law_right) := ⟨rfl, rfl, rfl, by decide +kernel, rfl, by decide +kernel, by decide +kernel⟩
abbrev s_law_levels_right : Stmt := topS 28
abbrev n_law_levels_right : List Str := ["_law_tin", "_law_book_so", "_law_pairs_so", "_law_flip_so", "_law_things", "_law_got", "_law_own"]
theorem sc_law_levels_right : FnScope n_law_levels_right ["_law_tin"] (defScope s_law_levels_right) := ⟨rfl, rfl, rfl, by decide +kernel, rfl, by decide +kernel, by decide +kernel⟩
abbrev s_law : Stmt := topS 29
abbrev n_law : List Str := ["_law_script", "_law_cells_here", "_law_tin", "_law_k"]
theorem sc_law : FnScope n_law ["_law_script"] (defScope s_law) := ⟨rfl, rfl, rfl, by decide +kernel, rfl, by decide +kernel, by decide +kernel⟩
noncomputable def D_law (B : Blt mg) (k : Nat) {k_law_box : Nat} {T_law_box : FT} (C_law_box : Can P w K mg base k_law_box "_law_box" ["_law_script", "_law_k"] T_law_box) (h_law_box : k_law_box ≤ k) {k_law_by_hand_right : Nat} {T_law_by_hand_right : FT} (C_law_by_hand_right : Can P w K mg base k_law_by_hand_right "_law_by_hand_right" [] T_law_by_hand_right) (h_law_by_hand_right : k_law_by_hand_right ≤ k) {k_law_cells : Nat} {T_law_cells : FT} (C_law_cells : Can P w K mg base k_law_cells "_law_cells" ["_law_script", "_law_most_so"] T_law_cells) (h_law_cells : k_law_cells ≤ k) {k_law_levels_right : Nat} {T_law_levels_right : FT} (C_law_levels_right : Can P w K mg base k_law_levels_right "_law_levels_right" ["_law_tin"] T_law_levels_right) (h_law_levels_right : k_law_levels_right ≤ k) {k_law_right : Nat} {T_law_right : FT} (C_law_right : Can P w K mg base k_law_right "_law_right" ["_law_tin"] T_law_right) (h_law_right : k_law_right ≤ k) : { t : ATS // ∀ (f : Addr) (cdv : Value) (A : Around) (outer : List Env) (s : Shared) (H : Hp) (E : XK), Room k (A.deeper (PyProof.Rows.envOfC "law" (defScope s_law) s.heap.objs.size f cdv)) → ASs (cxOf CX0 P w K mg base n_law "law" (defScope s_law) f cdv A outer s H E).nox (defBody s_law) t } := ⟨_, fun f cdv A outer s H E hr =>
 (ass_cons (as_if (at_not (at_val (ae_can0 C_law_by_hand_right hr h_law_by_hand_right))) (ass_one (as_ret ae_bl)) ass_nil)
  (ass_cons (as_set 1 sc_law.nd (ae_fz (ae_can C_law_cells hr h_law_cells (aa_cons (ae_var 0) (aa_cons ae_int aa_nil)))))
  (ass_cons (as_if (at_not (at_val (ae_callB (cr_all rfl) cl_all (by rfl) B.all (by decide +kernel) (aa_cons (ae_lc rfl sc_law.nd (ai_r (by rfl) B.range (ae_callB call_len_seq cl_len (by rfl) B.len (by decide +kernel) (aa_cons (ae_var 1) aa_nil))) (blkOk_by (N := n_law) (sc := defScope s_law) (own := [("_law_k", 3)]) (by decide +kernel)) (fun _ _ _ _ _ => (ag_name 3 sc_law.nd)) (fun _ _ _ _ _ => (ae_canT C_law_right hr h_law_right (ae_can C_law_box hr h_law_box (aa_cons (ae_var 1) (aa_cons (ae_var 3) aa_nil))))) (by decide)) aa_nil)))) (ass_one (as_ret ae_bl)) ass_nil)
  (ass_cons (as_set 2 sc_law.nd (ae_can C_law_box hr h_law_box (aa_cons (ae_var 1) (aa_cons ae_int aa_nil))))
  (ass_cons (as_setO 2 (ae_op op_add o2_I0 (ae_ixO 2 ae_int) ae_int) ae_int)
  (ass_one (as_ret (ae_canT C_law_levels_right hr h_law_levels_right (ae_varM 2)))))))))⟩
end
end Ph

set_option Elab.async false
set_option linter.all false
set_option maxRecDepth 100000
set_option maxHeartbeats 4000000
namespace Ph
open PySem L2
section
variable {X : Cx} {e : Expr} {t : ATE} {pos p : Pos}
/-- x + e, the own list x stays -/
def aCatO (i : Nat) (t : ATE) : ATE := fun G q Q => (∃ xs, G[i]? = some (.l xs)) ∧ t G q fun r G' q' => ∃ xs ys, r = .l ys ∧ G'[i]? = some (.l xs) ∧ xs.length + ys.length ≤ 1000000 ∧ Q (.l (xs ++ ys)) G' q'
theorem ae_catO (i : Nat) {x : Str} (he : AE X e t) (hN : X.N[i]? = some x := by rfl) (hv : Vis X.env.scope x := by first | exact Or.inl rfl | exact Or.inr (Or.inl rfl) | exact Or.inr (Or.inr rfl))
    (hd : (x == ("__debug__" : Str)) = false := by decide) (hcd : (x == ("__classdict__" : Str)) = false := by decide) : AE X (.BinOp (.Name x p) .Add e pos) (aCatO i t) := by
  refine ⟨fun {tA q S H σ G L st Q Q'} hL hS h lk => pe_to (pe_op op_cat (pe_var hN hv hd hcd) pe_self) ?_⟩
  obtain ⟨⟨xs0, hk⟩, h⟩ := h
  obtain ⟨v, L0, e1, hS0, _⟩ := slot_top hL hS hk (fun z => by cases z)
  refine ⟨v, e1, ?_⟩
  refine he.run hL hS h fun r G' q' y S' H' L' hq hL' hS' => ?_
  obtain ⟨xs, ys, rfl, hk', hz, hq⟩ := hq
  obtain ⟨b, bs, rfl, _, hb, hbd⟩ := sat_top hS'
  obtain ⟨v', L1, e2, hS1, _⟩ := slot_top (st := (.l ys, .ref b) :: st) hL' (hS'.perm (mid_in _ _ _)) hk' (fun z => by cases z)
  have ev := same_slot e1 e2
  subst ev
  obtain ⟨a, vs, rfl, _, ha, hd'⟩ := sat_top hS1
  refine ⟨a, b, vs, bs, rfl, rfl, ha, hb, le_line (by rw [dps_len hd', dps_len hbd]; exact hz), fun pp hp => ?_⟩
  have hd2 : DpAll X.K S' vs xs := hd'
  exact lk _ _ _ _ _ _ _ hq hL' (sat_new hS'.pop hp (dps_app hd2 hbd))
end
section
variable {P : Program} {w : World} {K : PySem.W.Frag} {mg : Str → Option Value} {base : Heap}
noncomputable def E_law_right (B : Blt mg) (k : Nat) {k_law_book : Nat} {T_law_book : FT} (C_law_book : Can P w K mg base k_law_book "_law_book" ["_law_tin", "_law_letters_so", "_law_flags_so", "_law_extra_so", "_law_word_so"] T_law_book) (h_law_book : k_law_book ≤ k) {k_law_has_parts : Nat} {T_law_has_parts : FT} (C_law_has_parts : Can P w K mg base k_law_has_parts "_law_has_parts" ["_law_book_so", "_law_parts_so"] T_law_has_parts) (h_law_has_parts : k_law_has_parts ≤ k) {k_law_lists : Nat} {T_law_lists : FT} (C_law_lists : Can P w K mg base k_law_lists "_law_lists" ["_law_matter"] T_law_lists) (h_law_lists : k_law_lists ≤ k) {k_law_of : Nat} {T_law_of : FT} (C_law_of : Can P w K mg base k_law_of "_law_of" ["_law_tin", "_law_goods_so"] T_law_of) (h_law_of : k_law_of ≤ k) {k_law_same : Nat} {T_law_same : FT} (C_law_same : Can P w K mg base k_law_same "_law_same" ["_law_got", "_law_due"] T_law_same) (h_law_same : k_law_same ≤ k) {k_law_take : Nat} {T_law_take : FT} (C_law_take : Can P w K mg base k_law_take "_law_take" ["_law_tin", "_law_below_so"] T_law_take) (h_law_take : k_law_take ≤ k) {k_law_told : Nat} {T_law_told : FT} (C_law_told : Can P w K mg base k_law_told "_law_told" ["_law_book_so"] T_law_told) (h_law_told : k_law_told ≤ k) {k_goes_by : Nat} {T_goes_by : FT} (C_goes_by : Can P w K mg base k_goes_by "goes_by" ["book", "word"] T_goes_by) (h_goes_by : k_goes_by ≤ k) {k_is_parts : Nat} {T_is_parts : FT} (C_is_parts : Can P w K mg base k_is_parts "is_parts" ["book", "thing"] T_is_parts) (h_is_parts : k_is_parts ≤ k) {k_told_of : Nat} {T_told_of : FT} (C_told_of : Can P w K mg base k_told_of "told_of" ["book"] T_told_of) (h_told_of : k_told_of ≤ k) : { t : ATS // ∀ (f : Addr) (cdv : Value) (A : Around) (outer : List Env) (s : Shared) (H : Hp) (E : XK), Room k (A.deeper (PyProof.Rows.envOfC "_law_right" (defScope s_law_right) s.heap.objs.size f cdv)) → ASs (cxOf CX0 P w K mg base n_law_right "_law_right" (defScope s_law_right) f cdv A outer s H E).nox (defBody s_law_right) t } := ⟨_, fun f cdv A outer s H E hr =>
 (ass_cons (as_set 1 sc_law_right.nd (ae_can C_law_of hr h_law_of (aa_cons (ae_var 0) (aa_cons (ae_fz (ae_lst (aa_cons ae_str (aa_cons ae_str (aa_cons ae_str (aa_cons ae_str (aa_cons ae_str (aa_cons ae_str aa_nil)))))))) aa_nil))))
  (ass_cons (as_set 2 sc_law_right.nd (ae_can C_law_book hr h_law_book (aa_cons (ae_var 0) (aa_cons (ae_op op_add o2_I0 ae_int (ae_can C_law_take hr h_law_take (aa_cons (ae_var 0) (aa_cons ae_int aa_nil)))) (aa_cons (ae_op op_add o2_I0 ae_int (ae_can C_law_take hr h_law_take (aa_cons (ae_var 0) (aa_cons ae_int aa_nil)))) (aa_cons (ae_can C_law_take hr h_law_take (aa_cons (ae_var 0) (aa_cons ae_int aa_nil))) (aa_cons (ae_var 1) aa_nil)))))))
  (ass_cons (as_set 3 sc_law_right.nd (ae_can C_law_told hr h_law_told (aa_cons (ae_var 2) aa_nil)))
  (ass_cons (as_if (at_cmp op_notIn_seq o2_notIn (ae_var 1) (ae_var 3) rfl) (ass_one (as_ret ae_bl)) ass_nil)
  (ass_cons (as_set 4 sc_law_right.nd (ae_lst (aa_cons (ae_can C_told_of hr h_told_of (aa_cons (ae_var 2) aa_nil)) (aa_cons (ae_can C_told_of hr h_told_of (aa_cons (ae_can C_law_lists hr h_law_lists (aa_cons (ae_var 2) aa_nil)) aa_nil)) aa_nil))))
  (ass_cons (as_set 4 sc_law_right.nd (ae_op op_cat o2_catL (ae_varM 4) (ae_lc rfl sc_law_right.nd (ai_t (ae_tup (aa_cons ae_str (aa_cons ae_str (aa_cons ae_str (aa_cons ae_str (aa_cons ae_str (aa_cons ae_str aa_nil)))))))) (blkOk_by (N := n_law_right) (sc := defScope s_law_right) (own := [("_law_own", 8)]) (by decide +kernel)) (fun _ _ _ _ _ => (ag_name 8 sc_law_right.nd)) (fun _ _ _ _ _ => (ae_can C_goes_by hr h_goes_by (aa_cons (ae_var 2) (aa_cons (ae_var 8) aa_nil)))) (by decide))))
  (ass_cons (as_set 3 sc_law_right.nd (ae_op op_cat o2_catL (ae_lst (aa_cons (ae_var 3) (aa_cons (ae_var 3) aa_nil))) (ae_lc rfl sc_law_right.nd (ai_t (ae_tup (aa_cons ae_str (aa_cons ae_str (aa_cons ae_str (aa_cons ae_str (aa_cons ae_str (aa_cons ae_str aa_nil)))))))) (blkOk_by (N := n_law_right) (sc := defScope s_law_right) (own := [("_law_own", 8)]) (by decide +kernel)) (fun _ _ _ _ _ => (ag_name 8 sc_law_right.nd)) (fun _ _ _ _ _ => (ae_cmp op_in_seq o2_in (ae_var 8) (ae_var 3) rfl)) (by decide))))
  (ass_cons (as_set 5 sc_law_right.nd (ae_op op_add o2_I0 ae_int (ae_can C_law_take hr h_law_take (aa_cons (ae_var 0) (aa_cons ae_int aa_nil)))))
  (ass_cons (as_set 6 sc_law_right.nd (ae_lst (aa_cons (ae_callTy call_tuple_of cl_tuple (by rfl) B.tuple (by decide +kernel) (aa_cons (ae_lc rfl sc_law_right.nd (ai_r (by rfl) B.range (ae_callB call_len_seq cl_len (by rfl) B.len (by decide +kernel) (aa_cons (ae_ix (ae_var 2) ae_int) aa_nil))) (blkOk_by (N := n_law_right) (sc := defScope s_law_right) (own := [("_law_k", 9)]) (by decide +kernel)) (fun _ _ _ _ _ => (ag_name 9 sc_law_right.nd)) (fun _ _ _ _ _ => (ae_tup (aa_cons (ae_var 9) aa_nil))) (by decide)) aa_nil)) aa_nil)))
  (ass_cons (as_for PassesOwn.never rfl (ai_r (by rfl) B.range ae_int) (ag_name 7 sc_law_right.nd)
    (ass_one (as_app 6 (ae_callTy call_tuple_of cl_tuple (by rfl) B.tuple (by decide +kernel) (aa_cons (ae_lc rfl sc_law_right.nd (ai_t (ae_ix (ae_var 2) ae_int)) (blkOk_by (N := n_law_right) (sc := defScope s_law_right) (own := [("_law_own", 8)]) (by decide +kernel)) (fun _ _ _ _ _ => (ag_name 8 sc_law_right.nd)) (fun _ _ _ _ _ => (ae_callTy call_tuple_of cl_tuple (by rfl) B.tuple (by decide +kernel) (aa_cons (ae_lc rfl sc_law_right.nd (ai_r (by rfl) B.range (ae_var 5)) (blkOk_by (N := n_law_right) (sc := relS _ (defScope s_law_right)) (own := [("_law_its", 10)]) (by decide +kernel)) (fun _ _ _ _ _ => (ag_name 10 sc_law_right.nd)) (fun _ _ _ _ _ => (ae_can C_law_take hr h_law_take (aa_cons (ae_var 0) (aa_cons ae_int aa_nil)))) (by decide)) aa_nil))) (by decide)) aa_nil)))))
  (ass_fz 6 (ass_cons (as_set 4 sc_law_right.nd (ae_op op_cat o2_catL (ae_op op_cat o2_catL (ae_varM 4) (ae_lc rfl sc_law_right.nd (ai_l (ae_var 6)) (blkOk_by (N := n_law_right) (sc := defScope s_law_right) (own := [("_law_own", 8)]) (by decide +kernel)) (fun _ _ _ _ _ => (ag_name 8 sc_law_right.nd)) (fun _ _ _ _ _ => (ae_can C_is_parts hr h_is_parts (aa_cons (ae_var 2) (aa_cons (ae_var 8) aa_nil)))) (by decide))) (ae_lst (aa_cons (ae_can C_is_parts hr h_is_parts (aa_cons (ae_can C_law_lists hr h_law_lists (aa_cons (ae_var 2) aa_nil)) (aa_cons (ae_ix (ae_var 6) ae_int) aa_nil))) aa_nil))))
  (ass_cons (as_set 3 sc_law_right.nd (ae_op op_cat o2_catL (ae_catO 3 (ae_lc rfl sc_law_right.nd (ai_l (ae_var 6)) (blkOk_by (N := n_law_right) (sc := defScope s_law_right) (own := [("_law_own", 8)]) (by decide +kernel)) (fun _ _ _ _ _ => (ag_name 8 sc_law_right.nd)) (fun _ _ _ _ _ => (ae_can C_law_has_parts hr h_law_has_parts (aa_cons (ae_var 2) (aa_cons (ae_var 8) aa_nil)))) (by decide))) (ae_lst (aa_cons (ae_cmp op_in_seq o2_in ae_str (ae_ixO 3 ae_int) rfl) aa_nil))))
  (ass_one (as_ret (ae_can C_law_same hr h_law_same (aa_cons (ae_fz (ae_varM 4)) (aa_cons (ae_fz (ae_varM 3)) aa_nil))))))))))))))))))⟩
noncomputable def E_law_levels_right (B : Blt mg) (k : Nat) {k_law_has_parts : Nat} {T_law_has_parts : FT} (C_law_has_parts : Can P w K mg base k_law_has_parts "_law_has_parts" ["_law_book_so", "_law_parts_so"] T_law_has_parts) (h_law_has_parts : k_law_has_parts ≤ k) {k_law_leveled : Nat} {T_law_leveled : FT} (C_law_leveled : Can P w K mg base k_law_leveled "_law_leveled" ["_law_tin"] T_law_leveled) (h_law_leveled : k_law_leveled ≤ k) {k_law_same : Nat} {T_law_same : FT} (C_law_same : Can P w K mg base k_law_same "_law_same" ["_law_got", "_law_due"] T_law_same) (h_law_same : k_law_same ≤ k) {k_is_parts : Nat} {T_is_parts : FT} (C_is_parts : Can P w K mg base k_is_parts "is_parts" ["book", "thing"] T_is_parts) (h_is_parts : k_is_parts ≤ k) : { t : ATS // ∀ (f : Addr) (cdv : Value) (A : Around) (outer : List Env) (s : Shared) (H : Hp) (E : XK), Room k (A.deeper (PyProof.Rows.envOfC "_law_levels_right" (defScope s_law_levels_right) s.heap.objs.size f cdv)) → ASs (cxOf CX0 P w K mg base n_law_levels_right "_law_levels_right" (defScope s_law_levels_right) f cdv A outer s H E).nox (defBody s_law_levels_right) t } := ⟨_, fun f cdv A outer s H E hr =>
 (ass_cons (as_asg (ae_can C_law_leveled hr h_law_leveled (aa_cons (ae_var 0) aa_nil)) (ag_tup (n := 2) rfl (ags_cons (ag_name 1 sc_law_levels_right.nd) (ags_cons (ag_name 2 sc_law_levels_right.nd) ags_nil))))
  (ass_cons (as_set 3 sc_law_levels_right.nd (ae_callTy call_tuple_of cl_tuple (by rfl) B.tuple (by decide +kernel) (aa_cons (ae_lc rfl sc_law_levels_right.nd (ai_t (ae_var 2)) (blkOk_by (N := n_law_levels_right) (sc := defScope s_law_levels_right) (own := [("_law_own", 6)]) (by decide +kernel)) (fun _ _ _ _ _ => (ag_name 6 sc_law_levels_right.nd)) (fun _ _ _ _ _ => (ae_back (ae_var 6))) (by decide)) aa_nil)))
  (ass_cons (as_set 4 sc_law_levels_right.nd (ae_fz (ae_lst (aa_cons (ae_var 2) (aa_cons (ae_var 3) (aa_cons (ae_fz (ae_callTy call_list_of cl_list (by rfl) B.list (by decide +kernel) (aa_cons (ae_var 2) aa_nil))) (aa_cons (ae_sl (ae_var 2) ao_no (ao_i (ae_neg ae_int))) aa_nil)))))))
  (ass_cons (as_setLc 5 rfl sc_law_levels_right.nd rfl (ai_l (ae_var 4)) (blkOk_by (N := n_law_levels_right) (sc := defScope s_law_levels_right) (own := [("_law_own", 6)]) (by decide +kernel)) (fun _ _ _ _ _ => (ag_name 6 sc_law_levels_right.nd)) (fun _ _ _ _ _ => (ae_can C_is_parts hr h_is_parts (aa_cons (ae_var 1) (aa_cons (ae_var 6) aa_nil)))) (by decide))
  (ass_one (as_ret (ae_can C_law_same hr h_law_same (aa_cons (ae_fz (ae_varM 5)) (aa_cons (ae_fz (ae_lst (aa_cons (ae_can C_law_has_parts hr h_law_has_parts (aa_cons (ae_var 1) (aa_cons (ae_var 2) aa_nil))) (aa_cons (ae_can C_law_has_parts hr h_law_has_parts (aa_cons (ae_var 1) (aa_cons (ae_var 3) aa_nil))) (aa_cons ae_bl (aa_cons ae_bl aa_nil)))))) aa_nil)))))))))⟩
end
end Ph

set_option Elab.async false
set_option linter.all false
set_option maxRecDepth 100000
set_option maxHeartbeats 4000000
namespace Ph
open PySem L2
section
variable {i j : Nat} {G : List Sl} {q : Nn} {Q : Sl → List Sl → Nn → Prop} {QB : Bool → List Sl → Nn → Prop} {QA : List Sl → List Sl → Nn → Prop} {QI : List PyData → List Sl → Nn → Prop} {Qs : Sl → Prop} {D : ADs} {x y d e : PyData} {xs ys ds : List PyData} {t u v : ATE} {tr ur : ATA} {ts us : ATS} {tt uu : ATT} {ti : ATI} {B : B2} {g : AGT} {gs : AGTs}
/-! ### reading -/
theorem r_var (h : G[i]? = some (.d x)) (k : Q (.d x) G q) : aVar i G q Q := ⟨_, h, rfl, k⟩
theorem r_varT (h : G[i]? = some .t) (k : Q .t G q) : aVar i G q Q := ⟨_, h, rfl, k⟩
theorem r_varM (h : G[i]? = some (.l xs)) (k : Q (.l xs) (G.set i .no) q) : aVarM i G q Q := ⟨_, h, k⟩
theorem r_varS {kvs : List (Str × PyData)} (h : G[i]? = some (.s kvs)) (k : Q (.s kvs) (G.set i .no) q) : aVarS i G q Q := ⟨_, h, k⟩
theorem r_C (k : Q (.d d) G q) : aC d G q Q := k
theorem r_fz (k : t G q fun r G' q' => Q (frz r) G' q') : aFz t G q Q := k
theorem r_op (k : t G q fun k1 G1 q1 => u G1 q1 fun k2 G2 q2 => B k1 k2 fun k => Q k G2 q2) : aOp B t u G q Q := k
theorem r_bI {C : Int → Int → Prop} {f : Int → Int → PyData} {a b : Int} (h : C a b) (k : Qs (.d (f a b))) : bI C f (.d (.int a)) (.d (.int b)) Qs := ⟨_, _, rfl, rfl, h, k⟩
theorem r_bEq (h1 : SeqAt.shaped d = true) (h2 : SeqAt.shaped e = true) (k : Qs (.d (.bool (PyData.eqv d e)))) : bEq (.d d) (.d e) Qs := ⟨_, _, rfl, rfl, h1, h2, k⟩
theorem r_bNe (h1 : SeqAt.shaped d = true) (h2 : SeqAt.shaped e = true) (k : Qs (.d (.bool (!PyData.eqv d e)))) : bNe (.d d) (.d e) Qs := ⟨_, _, rfl, rfl, h1, h2, k⟩
theorem r_isN (k : Qs (.d (.bool (isNone d)))) : bIsN (.d d) (.d .none) Qs := ⟨_, rfl, rfl, k⟩
theorem r_ixT {a : Int} (h : atI xs a = some x) (k : Qs (.d x)) : bIx (.d (.tuple xs)) (.d (.int a)) Qs := ⟨_, _, _, .inr rfl, rfl, h, k⟩
theorem r_ixL {a : Int} (h : atI xs a = some x) (k : Qs (.d x)) : bIx (.d (.list xs)) (.d (.int a)) Qs := ⟨_, _, _, .inl rfl, rfl, h, k⟩
theorem r_catL (h : xs.length + ys.length ≤ 1000000) (k : Qs (.l (xs ++ ys))) : bCatL (.l xs) (.l ys) Qs := ⟨_, _, rfl, rfl, h, k⟩
theorem r_catT (h : xs.length + ys.length ≤ 1000000) (k : Qs (.d (.tuple (xs ++ ys)))) : bCatT (.d (.tuple xs)) (.d (.tuple ys)) Qs := ⟨_, _, rfl, rfl, h, k⟩
theorem r_test (k : t G q fun r G' q' => ∃ c, r = .d (.bool c) ∧ QB c G' q') : aTest t G q QB := k
theorem r_exB {F : Bool → Prop} {c : Bool} (k : F c) : ∃ c', Sl.d (.bool c) = .d (.bool c') ∧ F c' := ⟨_, rfl, k⟩
theorem r_and (k : t G q fun r G1 q1 => ∃ c, r = .d (.bool c) ∧ ((c = true → u G1 q1 Q) ∧ (c = false → Q (.d (.bool false)) G1 q1))) : aAnd t u G q Q := k
theorem r_not (k : t G q fun r G1 q1 => ∃ c, r = .d (.bool c) ∧ Q (.d (.bool (!c))) G1 q1) : aNot t G q Q := k
theorem r_neg (k : t G q fun r G1 q1 => ∃ i, r = .d (.int i) ∧ Q (.d (.int (-i))) G1 q1) : aNeg t G q Q := k
theorem r_andT (k : tt G q fun c G1 q1 => (c = true → uu G1 q1 QB) ∧ (c = false → QB false G1 q1)) : aAndT tt uu G q QB := k
theorem r_orT (k : tt G q fun c G1 q1 => (c = false → uu G1 q1 QB) ∧ (c = true → QB true G1 q1)) : aOrT tt uu G q QB := k
theorem r_notT (k : tt G q fun c G1 q1 => QB (!c) G1 q1) : aNotT tt G q QB := k
theorem r_if (k : tt G q fun c G1 q1 => (c = true → u G1 q1 Q) ∧ (c = false → v G1 q1 Q)) : aIf tt u v G q Q := k
theorem r_nil (k : QA [] G q) : aNil G q QA := k
theorem r_cons (k : t G q fun r G1 q1 => tr G1 q1 fun rs G2 q2 => QA (r :: rs) G2 q2) : aCons t tr G q QA := k
/-- all data -/
def DsK (rs : List Sl) (F : List PyData → Prop) : Prop := ∃ ds, rs = ds.map Sl.d ∧ F ds
theorem r_dnil {F : List PyData → Prop} (k : F []) : DsK [] F := ⟨[], rfl, k⟩
theorem r_dcons {F : List PyData → Prop} {rs : List Sl} (k : DsK rs fun ds => F (d :: ds)) : DsK (.d d :: rs) F := by
  obtain ⟨ds, rfl, h⟩ := k
  exact ⟨d :: ds, rfl, h⟩
theorem r_tup (k : tr G q fun rs G' q' => DsK rs fun ds => ds.length ≤ 1000 ∧ Q (.d (.tuple ds)) G' q') : aTup tr G q Q := k
theorem r_lst (k : tr G q fun rs G' q' => DsK rs fun ds => ds.length ≤ 1000 ∧ Q (.l ds) G' q') : aLst tr G q Q := k
theorem r_call {B : BC} (k : tr G q fun rs G1 q1 => B rs fun k => Q k G1 q1) : aCall B tr G q Q := k
theorem r_len {k : Sl} (h : seqOf k = some xs) (q : Qs (.d (.int xs.length))) : bLen [k] Qs := ⟨_, _, rfl, h, q⟩
theorem r_tuple {k : Sl} (h : seqOf k = some xs) (q : Qs (.d (.tuple xs))) : bTuple [k] Qs := ⟨_, _, rfl, h, q⟩
theorem r_list {k : Sl} (h : seqOf k = some xs) (q : Qs (.l xs)) : bList [k] Qs := ⟨_, _, rfl, h, q⟩
theorem r_int {a : Int} (q : Qs (.d (.int a))) : bInt [.d (.int a)] Qs := .inl ⟨_, rfl, q⟩
theorem r_intB {c : Bool} (q : Qs (.d (.int (if c then 1 else 0)))) : bInt [.d (.bool c)] Qs := .inr ⟨_, rfl, q⟩
theorem r_abs {a : Int} (q : Qs (.d (.int (if a < 0 then -a else a)))) : bAbs [.d (.int a)] Qs := ⟨_, rfl, q⟩
theorem r_all (bs : List Bool) (h : xs = bs.map PyData.bool) (q : Qs (.d (.bool (bs.all id)))) : bAll [.l xs] Qs := by subst h; exact ⟨bs, rfl, q⟩
theorem r_isi {T : String} (k : t G q fun r G' q' => ∃ d, r = .d d ∧ Q (.d (.bool (isB T d))) G' q') : aIsi T t G q Q := k
theorem r_isi2 {T U : String} (k : t G q fun r G' q' => ∃ d, r = .d d ∧ Q (.d (.bool (isB T d || isB U d))) G' q') : aIsi2 T U t G q Q := k
theorem r_exD {F : PyData → Prop} (k : F d) : ∃ d', Sl.d d = .d d' ∧ F d' := ⟨_, rfl, k⟩
theorem r_exI {F : Int → Prop} {a : Int} (k : F a) : ∃ d', Sl.d (.int a) = .d (.int d') ∧ F d' := ⟨_, rfl, k⟩
theorem r_tupRg (k : t G q fun r G' q' => ∃ n, r = .d (.int n) ∧ 0 ≤ n ∧ n ≤ 1000000 ∧ Q (.d (.tuple (upTo n))) G' q') : aTupRg t G q Q := k
theorem r_lstRg (k : t G q fun r G' q' => ∃ n, r = .d (.int n) ∧ 0 ≤ n ∧ n ≤ 1000000 ∧ Q (.l (upTo n)) G' q') : aLstRg t G q Q := k
theorem r_lenO (h : G[i]? = some (.l xs)) (k : Q (.d (.int xs.length)) G q) : aLenO i G q Q := ⟨_, h, k⟩
def SlK (a b : Option Int) (r : Sl) (F : Sl → Prop) : Prop := ∃ xs, (r = .d (.tuple xs) ∧ F (.d (.tuple (cutD xs a b)))) ∨ (r = .d (.list xs) ∧ F (.l (cutD xs a b)))
theorem r_sl {lo hi : ATO} (k : t G q fun r G1 q1 => lo G1 q1 fun a G2 q2 => hi G2 q2 fun b G3 q3 => SlK a b r fun r' => Q r' G3 q3) : aSl t lo hi G q Q := k
theorem r_slT {F : Sl → Prop} {a b : Option Int} (k : F (.d (.tuple (cutD xs a b)))) : SlK a b (.d (.tuple xs)) F := ⟨_, .inl ⟨rfl, k⟩⟩
theorem r_slL {F : Sl → Prop} {a b : Option Int} (k : F (.l (cutD xs a b))) : SlK a b (.d (.list xs)) F := ⟨_, .inr ⟨rfl, k⟩⟩
theorem r_oNo {Qo : Option Int → List Sl → Nn → Prop} (k : Qo none G q) : aoNo G q Qo := k
theorem r_oI {Qo : Option Int → List Sl → Nn → Prop} (k : t G q fun r G' q' => ∃ i, r = .d (.int i) ∧ Qo (some i) G' q') : aoI t G q Qo := k
theorem r_fn {T : FT} (k : tr G q fun ks G1 q1 => T ks q1 fun r q2 => Q r G1 q2) : aFn T tr G q Q := k
/-! statements -/
theorem r_seq (k : ts ⟨us D, D.rt⟩ G q) : aSeq ts us D G q := k
theorem r_next (k : D.nx G q) : aNext D G q := k
theorem r_asg (k : t G q fun r G' q' => D.nx (G'.set i r) q') : aAsg i t D G q := k
theorem r_par (k : tr G q fun rs G' q' => ∃ r1 r2, rs = [r1, r2] ∧ D.nx ((G'.set i r1).set j r2) q') : aPar i j tr D G q := k
theorem r_ret (k : t G q fun r _ q' => D.rt r q') : aRet t D G q := k
theorem r_ifS (k : tt G q fun b G' q' => (b = true → ts D G' q') ∧ (b = false → us D G' q')) : aIfS tt ts us D G q := k
theorem r_fzS (h : G[i]? = some (.l xs)) (k : ts D (G.set i (.d (.list xs))) q) : aFzS i ts D G q := ⟨_, h, k⟩
theorem r_app (h : ∃ xs, G[i]? = some (.l xs)) (k : t G q fun r G' q' => ∃ y xs, r = .d y ∧ G'[i]? = some (.l xs) ∧ xs.length ≤ 1000000 ∧ D.nx (G'.set i (.l (xs ++ [y]))) q') : aApp i t D G q := ⟨h, k⟩
theorem r_ext (h : ∃ xs, G[i]? = some (.l xs)) (k : t G q fun r G' q' => ∃ ys xs, r = .l ys ∧ G'[i]? = some (.l xs) ∧ xs.length + ys.length ≤ 1000000 ∧ D.nx (G'.set i (.l (xs ++ ys))) q') : aExt i t D G q := ⟨h, k⟩
/-! targets, walkers -/
variable {QG : List Sl → Prop}
theorem r_gName (k : QG (G.set i (.d d))) : agName i d G QG := k
theorem r_gTup {n : Nat} (h : ds.length = n) (k : gs ds G QG) : agTup n gs (.tuple ds) G QG := ⟨_, rfl, h, k⟩
theorem r_gNil (k : QG G) : agNil [] G QG := ⟨rfl, k⟩
theorem r_gCons (k : g d G fun G' => gs ds G' QG) : agCons g gs (d :: ds) G QG := ⟨_, _, rfl, k⟩
theorem r_iL (k : t G q fun r G' q' => ∃ ds, r = .d (.list ds) ∧ QI ds G' q') : aiL t G q QI := k
theorem r_iT (k : t G q fun r G' q' => ∃ ds, r = .d (.tuple ds) ∧ QI ds G' q') : aiT t G q QI := k
theorem r_iEL (k : t G q fun r G' q' => ∃ ds, r = .d (.list ds) ∧ QI (numbered ds) G' q') : aiEL t G q QI := k
theorem r_iET (k : t G q fun r G' q' => ∃ ds, r = .d (.tuple ds) ∧ QI (numbered ds) G' q') : aiET t G q QI := k
theorem r_iLT (k : t G q fun r G' q' => ∃ ds, (r = .d (.list ds) ∨ r = .d (.tuple ds)) ∧ QI ds G' q') : aiLT t G q QI := k
theorem r_exLT_l {F : List PyData → Prop} (k : F ds) : ∃ ds', (Sl.d (.list ds) = .d (.list ds') ∨ Sl.d (.list ds) = .d (.tuple ds')) ∧ F ds' := ⟨_, .inl rfl, k⟩
theorem r_exLT_t {F : List PyData → Prop} (k : F ds) : ∃ ds', (Sl.d (.tuple ds) = .d (.list ds') ∨ Sl.d (.tuple ds) = .d (.tuple ds')) ∧ F ds' := ⟨_, .inr rfl, k⟩
theorem r_exL {F : List PyData → Prop} (k : F ds) : ∃ ds', Sl.d (.list ds) = .d (.list ds') ∧ F ds' := ⟨_, rfl, k⟩
theorem r_exT {F : List PyData → Prop} (k : F ds) : ∃ ds', Sl.d (.tuple ds) = .d (.tuple ds') ∧ F ds' := ⟨_, rfl, k⟩
theorem r_iR (k : t G q fun r G' q' => ∃ n, r = .d (.int n) ∧ 0 ≤ n ∧ n ≤ 1000000 ∧ QI (upTo n) G' q') : aiR t G q QI := k
theorem r_iZ (k : t G q fun r G1 q1 => u G1 q1 fun r' G2 q2 => ∃ ds es, ((r = .d (.list ds) ∧ r' = .d (.list es)) ∨ (r = .d (.tuple ds) ∧ r' = .d (.tuple es))) ∧ QI (zipD ds es) G2 q2) : aiZ t u G q QI := k
theorem r_exZt {F : List PyData → List PyData → Prop} (k : F xs ys) : ∃ ds es, ((Sl.d (.tuple xs) = .d (.list ds) ∧ Sl.d (.tuple ys) = .d (.list es)) ∨ (Sl.d (.tuple xs) = .d (.tuple ds) ∧ Sl.d (.tuple ys) = .d (.tuple es))) ∧ F ds es := ⟨_, _, .inr ⟨rfl, rfl⟩, k⟩
theorem r_exZl {F : List PyData → List PyData → Prop} (k : F xs ys) : ∃ ds es, ((Sl.d (.list xs) = .d (.list ds) ∧ Sl.d (.list ys) = .d (.list es)) ∨ (Sl.d (.list xs) = .d (.tuple ds) ∧ Sl.d (.list ys) = .d (.tuple es))) ∧ F ds es := ⟨_, _, .inl ⟨rfl, rfl⟩, k⟩
theorem r_idx (k : t G q fun r G1 q1 => ∃ ds, r = .d (.list ds) ∧ u G1 q1 fun r1 G2 q2 => ∃ d j z, r1 = .d d ∧ SeqAt.shaped (.list ds) = true ∧ SeqAt.shaped d = true ∧ ds[j]? = some z ∧ PyData.eqv z d = true ∧
  (∀ (m : Nat) (z' : PyData), m < j → ds[m]? = some z' → PyData.eqv z' d = false) ∧ Q (.d (.int (j : Nat))) G2 q2) : aIdx t u G q Q := k
theorem r_orL (k : t G q fun r G1 q1 => ∃ xs, r = .l xs ∧ (xs ≠ [] → Q (.l xs) G1 q1) ∧ (xs = [] → u G1 q1 Q)) : aOrL t u G q Q := k
theorem r_disp {ks : List Str} (k : tr G q fun rs G' q' => DsK rs fun ds => ds.length = ks.length ∧ Q (.s (ks.zip ds)) G' q') : aDisp ks tr G q Q := k
theorem r_get (k : t G q fun r G1 q1 => ∃ kvs, r = .s kvs ∧ u G1 q1 fun r1 G2 q2 => v G2 q2 fun r2 G3 q3 => ∃ w d, r1 = .d (.str w) ∧ r2 = .d d ∧ Q (.d ((look kvs w).getD d)) G3 q3) : aGet t u v G q Q := k
theorem r_exS {kvs : List (Str × PyData)} {F : List (Str × PyData) → Prop} (k : F kvs) : ∃ kvs', Sl.s kvs = .s kvs' ∧ F kvs' := ⟨_, rfl, k⟩
theorem r_exWD {w : Str} {F : Str → PyData → Prop} (k : F w d) : ∃ w' d', Sl.d (.str w) = .d (.str w') ∧ Sl.d d = .d d' ∧ F w' d' := ⟨_, _, rfl, rfl, k⟩
theorem r_back (k : t G q fun r G1 q1 => ∃ x y, r = .d (.tuple [x, y]) ∧ Q (.d (.tuple [y, x])) G1 q1) : aBack t G q Q := k
theorem r_lenSet (k : t G q fun r G' q' => ∃ ks : List (List NestedKey), r = .l (ks.map fun k => (NestedKey.tup k).data) ∧ (∀ k ∈ ks, (NestedKey.tup k).depth ≤ 8 ∧ plainKey (.tup k) = true) ∧ ks.length < 20 ∧ ∀ n : Nat, (n = ks.length ↔ ks.Nodup) → Q (.d (.int n)) G' q') : aLenSet t G q Q := k
theorem r_fnT {T : FT} (k : t G q fun r G1 q1 => q1 = none ∧ ∃ g s k : Int, r = .l [.int g, .int s, .int k] ∧ 0 ≤ g ∧ 0 ≤ s ∧ s < 4611686018427387904 ∧ 0 ≤ k ∧ ∃ n : Nat, k ≤ (n : Int) ∧ T [.t] (some n) fun r q2 => ∃ d, r = .d d ∧ Q (.d d) G1 none) : aFnT T t G q Q := k
theorem r_tin {a : Int} {n : Nat} (h : G[i]? = some .t) (k : ∀ z : Int, TinB a n z → Q (.d (.int z)) G (some n)) : aTin i a G (some n) Q := ⟨n, h, rfl, k⟩
theorem r_ixO {a : Int} (h : ∃ xs, G[i]? = some (.l xs)) (k : t G q fun r G' q' => ∃ j xs x, r = .d (.int j) ∧ G'[i]? = some (.l xs) ∧ atI xs j = some x ∧ Q (.d x) G' q') : aIxO i t G q Q := ⟨h, k⟩
theorem r_setO (k : t G q fun r G1 q1 => (∃ xs, G1[i]? = some (.l xs)) ∧ u G1 q1 fun r2 G2 q2 => ∃ y j jj xs, r = .d y ∧ r2 = .d (.int j) ∧ G2[i]? = some (.l xs) ∧ ixN xs.length j = some jj ∧ D.nx (G2.set i (.l (xs.set jj y))) q2) : aSetO i t u D G q := k
theorem r_tinSet {a : Int} (k : t G q fun r G' q' => ∃ (n n' : Nat) (z : Int), q' = some n ∧ G'[i]? = some .t ∧ r = .d (.int z) ∧ TinB a n' z ∧ n ≤ n' ∧ D.nx G' (some n')) : aTinSet i a t D G q := k
theorem r_inD {n : Bool} (k : t G q fun r G' q' =>
  (∃ (k : List NestedKey) (kvs : List (NestedKey × PyData)), r = .d (NestedKey.tup k).data ∧ (NestedKey.tup k).depth ≤ 8 ∧ G'[i]? = some (.k kvs) ∧ Q (.d (.bool (neg? n (look kvs (.tup k)).isSome))) G' q') ∨
  (∃ (j : Int) (kvs : List (Int × PyData)), r = .d (.int j) ∧ G'[i]? = some (.i kvs) ∧ Q (.d (.bool (neg? n (look kvs j).isSome))) G' q')) : aInD n i t G q Q := k
theorem r_par3 {l : Nat} (k : tr G q fun rs G' q' => ∃ r1 r2 r3, rs = [r1, r2, r3] ∧ D.nx (((G'.set i r1).set j r2).set l r3) q') : aPar3 i j l tr D G q := k
theorem r_ex3 {F : Sl → Sl → Sl → Prop} {a b c : Sl} (k : F a b c) : ∃ r1 r2 r3, [a, b, c] = [r1, r2, r3] ∧ F r1 r2 r3 := ⟨_, _, _, rfl, k⟩
theorem r_ex2 {F : Sl → Sl → Prop} {a b : Sl} (k : F a b) : ∃ r1 r2, [a, b] = [r1, r2] ∧ F r1 r2 := ⟨_, _, rfl, k⟩
theorem r_isNn (k : Qs (.d (.bool true))) : bIsN (.d .none) (.d .none) Qs := r_isN k
theorem r_isNb {b : Bool} (k : Qs (.d (.bool false))) : bIsN (.d (.bool b)) (.d .none) Qs := r_isN k
theorem r_isNi {b : Int} (k : Qs (.d (.bool false))) : bIsN (.d (.int b)) (.d .none) Qs := r_isN k
theorem r_isNs {b : Str} (k : Qs (.d (.bool false))) : bIsN (.d (.str b)) (.d .none) Qs := r_isN k
theorem r_bEqN (k : Qs (.d (.bool true))) : bEq (.d .none) (.d .none) Qs := r_bEq rfl rfl k
theorem r_ft {A B : Prop} (k : A) : (false = false → A) ∧ (false = true → B) := ⟨fun _ => k, fun h => (nomatch h)⟩
theorem r_tf {A B : Prop} (k : B) : (true = false → A) ∧ (true = true → B) := ⟨fun h => (nomatch h), fun _ => k⟩
theorem r_ttE {b : Bool} {A B : Prop} (h : b = true) (k : A) : (b = true → A) ∧ (b = false → B) := ⟨fun _ => k, fun z => (by rw [h] at z; cases z)⟩
theorem r_ffE {b : Bool} {A B : Prop} (h : b = false) (k : B) : (b = true → A) ∧ (b = false → B) := ⟨fun z => (by rw [h] at z; cases z), fun _ => k⟩
theorem r_ftE {b : Bool} {A B : Prop} (h : b = false) (k : A) : (b = false → A) ∧ (b = true → B) := ⟨fun _ => k, fun z => (by rw [h] at z; cases z)⟩
theorem r_tfE {b : Bool} {A B : Prop} (h : b = true) (k : B) : (b = false → A) ∧ (b = true → B) := ⟨fun z => (by rw [h] at z; cases z), fun _ => k⟩
theorem r_yes (k : QB true G q) : aYes G q QB := k
end
end Ph

set_option Elab.async false
set_option linter.all false
set_option maxRecDepth 100000
set_option maxHeartbeats 4000000
namespace Ph
open PySem L2
/-! ## numbers, maps, rows, books as data -/
def intD (xs : List Nat) : List PyData := xs.map fun (n : Nat) => PyData.int n
def mapsD (p : List Nat × List Nat) : List PyData := [.tuple (intD p.1), .tuple (intD p.2)]
theorem eqvAll_ints : ∀ xs ys : List Nat, PyData.eqvAll (intD xs) (intD ys) = decide (xs = ys)
  | [], [] => by simp [intD, PyData.eqvAll]
  | [], y :: ys => by simp [intD, PyData.eqvAll]
  | x :: xs, [] => by simp [intD, PyData.eqvAll]
  | x :: xs, y :: ys => by
    have ih := eqvAll_ints xs ys
    unfold intD at ih ⊢
    rw [List.map_cons, List.map_cons, PyData.eqvAll, ih, PyData.eqv]
    by_cases h : x = y
    · subst h; simp
    · have h' : ¬ ((x : Int) = (y : Int)) := by omega
      simp [h, h']
theorem canLayAll_ints : ∀ xs : List Nat, PyData.canLayAll0 (intD xs) = true
  | [] => rfl
  | x :: xs => by
    have ih := canLayAll_ints xs
    unfold intD at ih ⊢
    rw [List.map_cons, PyData.canLayAll0, ih]
    rfl
theorem depthAll_ints : ∀ xs : List Nat, PyData.depthAll (intD xs) = 0
  | [] => rfl
  | x :: xs => by
    have ih := depthAll_ints xs
    unfold intD at ih ⊢
    rw [List.map_cons, PyData.depthAll, ih]
    rfl
theorem shaped_ints (xs : List Nat) : SeqAt.shaped (.tuple (intD xs)) = true := by
  unfold SeqAt.shaped
  rw [PyData.canLay0, PyData.depth, canLayAll_ints, depthAll_ints]
  rfl
theorem shaped_maps (p : List Nat × List Nat) : SeqAt.shaped (.tuple (mapsD p)) = true := by
  unfold SeqAt.shaped mapsD
  simp only [PyData.canLay0, PyData.canLayAll0, PyData.depth, PyData.depthAll, canLayAll_ints, depthAll_ints]
  rfl
theorem eqv_maps (p p' : List Nat × List Nat) : PyData.eqv (.tuple (mapsD p)) (.tuple (mapsD p')) = decide (p = p') := by
  unfold mapsD
  simp only [PyData.eqv, PyData.eqvAll, eqvAll_ints]
  obtain ⟨a, b⟩ := p
  obtain ⟨c, d⟩ := p'
  by_cases h1 : a = c <;> by_cases h2 : b = d <;> simp [h1, h2]
section
variable {Qs : Sl → Prop}
theorem r_bEqI {a b : Int} (k : Qs (.d (.bool (decide (a = b))))) : bEq (.d (.int a)) (.d (.int b)) Qs := r_bEq rfl rfl (by rw [PyData.eqv]; exact k)
theorem r_bNeI {a b : Int} (k : Qs (.d (.bool (!decide (a = b))))) : bNe (.d (.int a)) (.d (.int b)) Qs := r_bNe rfl rfl (by rw [PyData.eqv]; exact k)
theorem r_bEqB {a b : Bool} (k : Qs (.d (.bool (a == b)))) : bEq (.d (.bool a)) (.d (.bool b)) Qs := r_bEq rfl rfl (by rw [PyData.eqv]; exact k)
theorem r_bNeB {a b : Bool} (k : Qs (.d (.bool (!(a == b))))) : bNe (.d (.bool a)) (.d (.bool b)) Qs := r_bNe rfl rfl (by rw [PyData.eqv]; exact k)
theorem r_bEqT {a b : List Nat} (k : Qs (.d (.bool (decide (a = b))))) : bEq (.d (.tuple (intD a))) (.d (.tuple (intD b))) Qs := r_bEq (shaped_ints _) (shaped_ints _) (by rw [PyData.eqv, eqvAll_ints]; exact k)
theorem r_bNeT {a b : List Nat} (k : Qs (.d (.bool (!decide (a = b))))) : bNe (.d (.tuple (intD a))) (.d (.tuple (intD b))) Qs := r_bNe (shaped_ints _) (shaped_ints _) (by rw [PyData.eqv, eqvAll_ints]; exact k)
theorem r_bEqM {a b : List Nat × List Nat} (k : Qs (.d (.bool (decide (a = b))))) : bEq (.d (.tuple (mapsD a))) (.d (.tuple (mapsD b))) Qs := r_bEq (shaped_maps _) (shaped_maps _) (by rw [eqv_maps]; exact k)
theorem r_bNeM {a b : List Nat × List Nat} (k : Qs (.d (.bool (!decide (a = b))))) : bNe (.d (.tuple (mapsD a))) (.d (.tuple (mapsD b))) Qs := r_bNe (shaped_maps _) (shaped_maps _) (by rw [eqv_maps]; exact k)
/-- the six words -/
inductive Wd where
  | all | blind | flag | letters | nobody | side
  deriving DecidableEq
def Wd.str : Wd → Str
  | .all => "all"
  | .blind => "blind"
  | .flag => "flag"
  | .letters => "letters"
  | .nobody => "nobody"
  | .side => "side"
theorem shaped_wd (u : Wd) : SeqAt.shaped (.str u.str) = true := by cases u <;> decide +kernel
theorem wd_inj (u v : Wd) : (u.str == v.str) = decide (u = v) := by cases u <;> cases v <;> decide +kernel
theorem r_bEqW {u v : Wd} (k : Qs (.d (.bool (decide (u = v))))) : bEq (.d (.str u.str)) (.d (.str v.str)) Qs := r_bEq (shaped_wd _) (shaped_wd _) (by rw [PyData.eqv, wd_inj]; exact k)
theorem r_bEqS {u : Wd} {y : Str} (v : Wd) (hv : v.str = y) (k : Qs (.d (.bool (decide (u = v))))) : bEq (.d (.str u.str)) (.d (.str y)) Qs := by subst hv; exact r_bEqW k
end
structure Row where
  later : Nat
  near : Nat
  maps : List Nat × List Nat
def rowL (r : Row) : List PyData := .int r.later :: .int r.near :: mapsD r.maps
def rowD (r : Row) : PyData := .tuple (rowL r)
structure Bk where
  ans : List Bool
  hues : List Nat
  fst : Nat
  rows : List (List (List Row))
def bookD (B : Bk) : PyData := .tuple [.tuple (B.ans.map PyData.bool), .tuple (intD B.hues), .tuple [.int B.fst, .int 0], .tuple (B.rows.map fun t => .tuple (t.map fun c => .tuple (c.map rowD)))]
structure Cell where
  flag : Nat
  hue : Nat
  letter : Nat
  row : Row
def placeD (c : Cell) : PyData := .tuple [.int c.flag, .int c.hue, .int c.letter]
def cellD (c : Cell) : PyData := .tuple [placeD c, rowD c.row]
def withIx {α : Type} (xs : List α) : List (Nat × α) := (List.range xs.length).zip xs
def cL (f h : Nat) (c : List Row) : List Cell := (withIx c).map fun p => ⟨f, h, p.1, p.2⟩
def cT (f : Nat) (t : List (List Row)) : List Cell := (withIx t).flatMap fun p => cL f p.1 p.2
def cellsOf (B : Bk) : List Cell := (withIx B.rows).flatMap fun p => cT p.1 p.2
theorem flat_split {α β : Type} {xs : List α} {i : Nat} {x : α} (F : α → List β) (h : xs[i]? = some x) : xs.flatMap F = (xs.take i).flatMap F ++ (F x ++ (xs.drop (i + 1)).flatMap F) := by
  obtain ⟨hi, e⟩ := List.getElem?_eq_some_iff.mp h
  have e1 : xs = xs.take i ++ x :: xs.drop (i + 1) := by
    have z := List.take_append_drop i xs
    rw [List.drop_eq_getElem_cons hi, e] at z
    exact z.symm
  conv => lhs; rw [e1]
  rw [List.flatMap_append, List.flatMap_cons]
theorem flat_one {α β : Type} {xs : List α} {i : Nat} {x : α} (F : α → List β) (h : xs[i]? = some x) : (xs.take (i + 1)).flatMap F = (xs.take i).flatMap F ++ F x := by
  rw [List.take_succ, h, List.flatMap_append]
  simp
theorem numbered_ix {α : Type} (f : α → PyData) (xs : List α) : numbered (xs.map f) = (withIx xs).map fun p => .tuple [.int p.1, f p.2] := by
  unfold numbered withIx
  rw [List.length_map]
  have key : ∀ (l : List Nat) (xs : List α), l.zipWith (fun (i : Nat) d => PyData.tuple [.int i, d]) (xs.map f) = (l.zip xs).map fun p => .tuple [.int p.1, f p.2] := by
    intro l
    induction l with
    | nil => intro xs; rfl
    | cons a l ih =>
      intro xs
      cases xs with
      | nil => rfl
      | cons x xs => rw [List.map_cons, List.zipWith_cons_cons, List.zip_cons_cons, List.map_cons, ih xs]
  exact key _ _
theorem withIx_get {α : Type} {xs : List α} {i : Nat} {p : Nat × α} (h : (withIx xs)[i]? = some p) : p.1 = i ∧ xs[i]? = some p.2 := by
  unfold withIx at h
  rw [List.getElem?_zip_eq_some] at h
  obtain ⟨h1, h2⟩ := h
  obtain ⟨h3, h4⟩ := List.getElem?_eq_some_iff.mp h1
  rw [List.getElem_range] at h4
  exact ⟨h4.symm, h2⟩
theorem withIx_len {α : Type} (xs : List α) : (withIx xs).length = xs.length := by unfold withIx; simp
theorem withIx_mem {α : Type} {xs : List α} {p : Nat × α} (h : p ∈ withIx xs) : xs[p.1]? = some p.2 := by
  obtain ⟨i, hi, e⟩ := List.getElem_of_mem h
  have h2 : (withIx xs)[i]? = some p := by rw [List.getElem?_eq_getElem hi, e]
  obtain ⟨h3, h4⟩ := withIx_get h2
  rw [h3]
  exact h4
theorem atI_nat {α : Type} {xs : List α} {i : Nat} {x : α} (h : xs[i]? = some x) : atI xs (i : Int) = some x := by
  have hi := (List.getElem?_eq_some_iff.mp h).1
  unfold atI ixN
  rw [if_pos (by omega), if_pos (by omega)]
  simpa using h
theorem atI_ints {xs : List Nat} {i : Nat} {x : Nat} (h : xs[i]? = some x) : atI (intD xs) (i : Int) = some (.int x) := atI_nat (by unfold intD; rw [List.getElem?_map, h]; rfl)
theorem cut_from (xs : List PyData) (k : Nat) : cutD xs (some (k : Int)) none = xs.drop k := by
  unfold cutD
  rw [HT.sIx_nat]
  show (xs.drop (min k xs.length)).take (xs.length - min k xs.length) = xs.drop k
  by_cases h : k ≤ xs.length
  · rw [Nat.min_eq_left h]
    exact List.take_of_length_le (by rw [List.length_drop]; exact Nat.le_refl _)
  · rw [Nat.min_eq_right (by omega), List.drop_of_length_le (Nat.le_refl _), List.drop_of_length_le (by omega)]
    simp
theorem cut_row (r : Row) : cutD (rowL r) (some 2) none = mapsD r.maps := cut_from (rowL r) 2
theorem ints_drop (xs : List Nat) (k : Nat) : cutD (intD xs) (some (k : Int)) none = intD (xs.drop k) := by
  rw [cut_from]
  unfold intD
  rw [List.map_drop]

/-! ## steps at these data -/
def lineD (c : List Row) : PyData := .tuple (c.map rowD)
def tabD (t : List (List Row)) : PyData := .tuple (t.map lineD)
section
variable {G : List Sl} {q : Nn} {Q : Sl → List Sl → Nn → Prop} {Qs : Sl → Prop} {QI : List PyData → Prop} {QG : List Sl → Prop} {B : Bk} {r : Row} {c : Cell} {gs : AGTs}
theorem r_ixBk3 (k : Qs (.d (.tuple (B.rows.map tabD)))) : bIx (.d (bookD B)) (.d (.int 3)) Qs := r_ixT rfl k
theorem r_ixBk1 (k : Qs (.d (.tuple (intD B.hues)))) : bIx (.d (bookD B)) (.d (.int 1)) Qs := r_ixT rfl k
theorem r_row0 (k : Qs (.d (.int r.later))) : bIx (.d (rowD r)) (.d (.int 0)) Qs := r_ixT rfl k
theorem r_row2 (k : Qs (.d (.tuple (intD r.maps.1)))) : bIx (.d (rowD r)) (.d (.int 2)) Qs := r_ixT rfl k
theorem r_row3 (k : Qs (.d (.tuple (intD r.maps.2)))) : bIx (.d (rowD r)) (.d (.int 3)) Qs := r_ixT rfl k
theorem r_pl0 (k : Qs (.d (.int c.flag))) : bIx (.d (placeD c)) (.d (.int 0)) Qs := r_ixT rfl k
theorem r_pl1 (k : Qs (.d (.int c.hue))) : bIx (.d (placeD c)) (.d (.int 1)) Qs := r_ixT rfl k
theorem r_pl2 (k : Qs (.d (.int c.letter))) : bIx (.d (placeD c)) (.d (.int 2)) Qs := r_ixT rfl k
theorem r_ce0 (k : Qs (.d (placeD c))) : bIx (.d (cellD c)) (.d (.int 0)) Qs := r_ixT rfl k
theorem r_ce1 (k : Qs (.d (rowD c.row))) : bIx (.d (cellD c)) (.d (.int 1)) Qs := r_ixT rfl k
theorem r_gCell (k : gs [placeD c, rowD c.row] G QG) : agTup 2 gs (cellD c) G QG := r_gTup rfl k
theorem r_gPlace (k : gs [.int c.flag, .int c.hue, .int c.letter] G QG) : agTup 3 gs (placeD c) G QG := r_gTup rfl k
theorem r_slRow {F : Sl → Prop} (k : F (.d (.tuple (mapsD r.maps)))) : SlK (some 2) none (.d (rowD r)) F := ⟨rowL r, .inl ⟨rfl, by rw [cut_row]; exact k⟩⟩
theorem r_slInt {F : Sl → Prop} {ns : List Nat} {k : Nat} (h : F (.d (.tuple (intD (ns.drop k))))) : SlK (some (k : Int)) none (.d (.tuple (intD ns))) F := ⟨_, .inl ⟨rfl, by rw [ints_drop]; exact h⟩⟩
theorem r_slInt1 {F : Sl → Prop} {ns : List Nat} {k : Nat} (h : F (.d (.tuple (intD (ns.drop (k + 1)))))) : SlK (some ((k : Int) + 1)) none (.d (.tuple (intD ns))) F := r_slInt (k := k + 1) h
theorem r_exTab {F : List PyData → Prop} {t : List (List Row)} (k : F (t.map lineD)) : ∃ ds, Sl.d (tabD t) = .d (.tuple ds) ∧ F ds := ⟨_, rfl, k⟩
theorem r_exLine {F : List PyData → Prop} {t : List Row} (k : F (t.map rowD)) : ∃ ds, Sl.d (lineD t) = .d (.tuple ds) ∧ F ds := ⟨_, rfl, k⟩
theorem r_lenI {xs : List Nat} (k : Qs (.d (.int xs.length))) : bLen [.d (.tuple (intD xs))] Qs := ⟨_, _, rfl, rfl, by unfold intD; rw [List.length_map]; exact k⟩
end
/-! ## loops -/
section
variable {α : Type} {G G1 : List Sl} {q q1 : Nn} {Q : Sl → List Sl → Nn → Prop} {D : ADs} {xs : List α} {enc f : α → PyData} {p : α → Bool} {ti ti1 : ATI} {g g1 : AGT} {tt : ATT} {te : ATE} {ts : ATS} {vs vs1 : List Nat}
def LcK (ds : List PyData) (g : AGT) (tt : ATT) (te : ATE) (vs : List Nat) (Q : Sl → List Sl → Nn → Prop) : List Sl → Nn → Prop := fun G1 q1 => ds.length ≤ 1000000 ∧ ∃ I : Nat → List PyData → List Sl → Nn → Prop, I 0 [] (wipeG G1 vs) q1 ∧
  (∀ i d acc G q, ds[i]? = some d → I i acc G q → g d G fun G' => tt G' q fun b G2 q2 =>
    (b = true → te G2 q2 fun r G3 q3 => ∃ x, r = .d x ∧ I (i + 1) (acc ++ [x]) (wipeG G3 vs) q3) ∧ (b = false → I (i + 1) acc (wipeG G2 vs) q2)) ∧
  (∀ acc G q, I ds.length acc G q → Q (.l acc) G q)
theorem r_lc (k : ti G q fun ds G1 q1 => LcK ds g tt te vs Q G1 q1) : aLc ti g tt te vs G q Q := k
theorem get_map {xs : List α} {enc : α → PyData} {i : Nat} {d : PyData} (h : (xs.map enc)[i]? = some d) : ∃ x, xs[i]? = some x ∧ d = enc x ∧ x ∈ xs := by
  rw [List.getElem?_map] at h
  cases hx : xs[i]? with
  | none => rw [hx] at h; cases h
  | some x =>
    rw [hx] at h
    exact ⟨x, rfl, (Option.some.inj h).symm, List.mem_of_getElem? hx⟩
theorem take_one {xs : List α} {i : Nat} {x : α} (h : xs[i]? = some x) : xs.take (i + 1) = xs.take i ++ [x] := by
  rw [List.take_succ, h]; rfl
theorem lc_flt (hl : xs.length ≤ 1000000) (hs : ∀ x ∈ xs, ∀ (R : Sl → List Sl → Nn → Prop) (R' : List Sl → Nn → Prop), (p x = true → ∀ G3, wipeG G3 vs = wipeG G1 vs → R (.d (f x)) G3 q1) → (p x = false → ∀ G3, wipeG G3 vs = wipeG G1 vs → R' G3 q1) →
      g (enc x) (wipeG G1 vs) fun G' => tt G' q1 fun b G2 q2 => (b = true → te G2 q2 R) ∧ (b = false → R' G2 q2))
    (k : Q (.l ((xs.filter p).map f)) (wipeG G1 vs) q1) : LcK (xs.map enc) g tt te vs Q G1 q1 := by
  refine ⟨by rw [List.length_map]; exact hl, fun i acc G q => acc = ((xs.take i).filter p).map f ∧ G = wipeG G1 vs ∧ q = q1, ⟨rfl, rfl, rfl⟩, ?_, ?_⟩
  · rintro i d acc G q hd ⟨rfl, rfl, rfl⟩
    obtain ⟨x, hx, rfl, hm⟩ := get_map hd
    refine hs x hm _ _ (fun hp G3 hG => ⟨_, rfl, ?_, hG, rfl⟩) fun hp G3 hG => ⟨?_, hG, rfl⟩
    · rw [take_one hx, List.filter_append, List.map_append, List.filter_cons_of_pos hp]
      rfl
    · rw [take_one hx, List.filter_append, List.map_append, List.filter_cons_of_neg (by rw [hp]; exact Bool.false_ne_true)]
      simp
  · rintro acc G q ⟨rfl, rfl, rfl⟩
    rw [List.length_map, List.take_length]
    exact k
theorem lc_map (hl : xs.length ≤ 1000000) (hs : ∀ x ∈ xs, ∀ (R : Sl → List Sl → Nn → Prop) (R' : List Sl → Nn → Prop), (∀ G3, wipeG G3 vs = wipeG G1 vs → R (.d (f x)) G3 q1) →
      g (enc x) (wipeG G1 vs) fun G' => tt G' q1 fun b G2 q2 => (b = true → te G2 q2 R) ∧ (b = false → R' G2 q2))
    (k : Q (.l (xs.map f)) (wipeG G1 vs) q1) : LcK (xs.map enc) g tt te vs Q G1 q1 := by
  refine lc_flt (p := fun _ => true) hl (fun x hx R R' h _ => hs x hx R R' (h rfl)) ?_
  rw [List.filter_eq_self.mpr fun _ _ => rfl]
  exact k
/-- .. whose items come of draws: n more at each -/
theorem lc_draw {P : Nat → PyData → Prop} {n c : Nat} {W : List Sl} (hW : wipeG G1 vs = W) (hl : xs.length ≤ 1000000) (hs : ∀ (i : Nat) x m, xs[i]? = some x → m ≤ n + i * c → ∀ (R : Sl → List Sl → Nn → Prop) (R' : List Sl → Nn → Prop), (∀ G3 y m', P i y → m' ≤ n + (i + 1) * c → wipeG G3 vs = W → R (.d y) G3 (some m')) →
      g (enc x) W fun G' => tt G' (some m) fun b G2 q2 => (b = true → te G2 q2 R) ∧ (b = false → R' G2 q2))
    (k : ∀ ys m, m ≤ n + xs.length * c → ys.length = xs.length → (∀ i y, ys[i]? = some y → P i y) → Q (.l ys) W (some m)) : LcK (xs.map enc) g tt te vs Q G1 (some n) := by
  refine ⟨by rw [List.length_map]; exact hl, fun i acc G q => acc.length = i ∧ i ≤ xs.length ∧ (∀ j y, acc[j]? = some y → P j y) ∧ G = W ∧ ∃ m, q = some m ∧ m ≤ n + i * c, ⟨rfl, Nat.zero_le _, fun j y h => by simp at h, hW, n, rfl, by omega⟩, ?_, ?_⟩
  · rintro i d acc G q hd ⟨hal, hile, hP, rfl, m, rfl, hm⟩
    obtain ⟨x, hx, rfl, hmem⟩ := get_map hd
    refine hs i x m hx hm _ _ fun G3 y m' hy hm' hG => ⟨_, rfl, by simp [hal], (List.getElem?_eq_some_iff.mp hx).1, fun j z hz => ?_, hG, m', rfl, hm'⟩
    by_cases hj : j < acc.length
    · rw [List.getElem?_append_left hj] at hz
      exact hP j z hz
    · have hj2 : j < (acc ++ [y]).length := (List.getElem?_eq_some_iff.mp hz).1
      rw [List.length_append, List.length_singleton] at hj2
      have e : j = i := by omega
      subst e
      rw [List.getElem?_append_right (by omega)] at hz
      have e2 : y = z := by simpa [hal] using hz
      rw [← e2]
      exact hy
  · rintro acc G q ⟨hal, _, hP, rfl, m, rfl, hm⟩
    rw [List.length_map] at hal hm
    exact k acc m hm hal hP
def ForK (ds : List PyData) (g : AGT) (tb : ATS) (D : ADs) (G1 : List Sl) (q1 : Nn) : Prop := ∃ I : Nat → List Sl → Nn → Prop, I 0 G1 q1 ∧
  (∀ i d G q, ds[i]? = some d → I i G q → g d G fun G' => tb ⟨I (i + 1), D.rt⟩ G' q) ∧ (∀ G q, I ds.length G q → D.nx G q)
theorem r_for (k : ti G q fun ds G1 q1 => ForK ds g ts D G1 q1) : aFor ti g ts D G q := k
theorem for_map (I : Nat → List Sl → Nn → Prop) (h0 : I 0 G1 q1) (hs : ∀ (i : Nat) x G q, xs[i]? = some x → I i G q → g (enc x) G fun G' => ts ⟨I (i + 1), D.rt⟩ G' q) (k : ∀ G q, I xs.length G q → D.nx G q) : ForK (xs.map enc) g ts D G1 q1 := by
  refine ⟨I, h0, fun i d G q hd hI => ?_, fun G q h => k G q (by rw [List.length_map] at h; exact h)⟩
  obtain ⟨x, hx, rfl, _⟩ := get_map hd
  exact hs i x G q hx hI
section
variable {D : ADs}
theorem r_numF (k : ForK ((withIx xs).map fun p => .tuple [.int p.1, enc p.2]) g ts D G q) : ForK (numbered (xs.map enc)) g ts D G q := by rw [numbered_ix]; exact k
theorem r_numFI {ns : List Nat} (k : ForK ((withIx ns).map fun p => .tuple [.int p.1, .int p.2]) g ts D G q) : ForK (numbered (intD ns)) g ts D G q := by unfold intD; rw [numbered_ix]; exact k
theorem r_numL (k : LcK ((withIx xs).map fun p => .tuple [.int p.1, enc p.2]) g tt te vs Q G q) : LcK (numbered (xs.map enc)) g tt te vs Q G q := by rw [numbered_ix]; exact k
theorem r_numLI {ns : List Nat} (k : LcK ((withIx ns).map fun p => .tuple [.int p.1, .int p.2]) g tt te vs Q G q) : LcK (numbered (intD ns)) g tt te vs Q G q := by unfold intD; rw [numbered_ix]; exact k
end
theorem r_tt {A B : Prop} (k : A) : (true = true → A) ∧ (true = false → B) := ⟨fun _ => k, fun h => nomatch h⟩
theorem r_ff {A B : Prop} (k : B) : (false = true → A) ∧ (false = false → B) := ⟨fun h => Bool.noConfusion h, fun _ => k⟩
end
end Ph

set_option Elab.async false
set_option linter.all false
set_option maxRecDepth 100000
set_option maxHeartbeats 4000000
namespace Ph
open PySem L2
local macro_rules | `(tactic| wtm_at "ph") => `(tactic| (repeat (first | (with_reducible refine r_ixBk3 ?_) | (with_reducible refine r_ixBk1 ?_) | (with_reducible refine r_row0 ?_) | (with_reducible refine r_row2 ?_) | (with_reducible refine r_row3 ?_) | (with_reducible refine r_pl0 ?_) | (with_reducible refine r_pl1 ?_) | (with_reducible refine r_pl2 ?_) | (with_reducible refine r_ce0 ?_) | (with_reducible refine r_ce1 ?_) | (with_reducible refine r_gCell ?_) | (with_reducible refine r_gPlace ?_) | (with_reducible refine r_slRow ?_) | (with_reducible refine r_slInt ?_) | (with_reducible refine r_slInt1 ?_) | (with_reducible refine r_exTab ?_) | (with_reducible refine r_exLine ?_) | (with_reducible refine r_numF ?_) | (with_reducible refine r_numFI ?_) | (with_reducible refine r_numL ?_) | (with_reducible refine r_numLI ?_) | (with_reducible refine r_lenI ?_) | (with_reducible refine r_bEqM ?_) | (with_reducible refine r_seq ?_) | (with_reducible refine r_next ?_) | (with_reducible refine r_asg ?_) | (with_reducible refine r_par ?_) | (with_reducible refine r_ret ?_) | (with_reducible refine r_ifS ?_) | (with_reducible refine r_C ?_) | (with_reducible refine r_fz ?_) | (with_reducible refine r_op ?_) | (with_reducible refine r_test ?_) | (with_reducible refine r_exB ?_) | (with_reducible refine r_and ?_) | (with_reducible refine r_not ?_) | (with_reducible refine r_neg ?_) | (with_reducible refine r_andT ?_) | (with_reducible refine r_orT ?_) | (with_reducible refine r_notT ?_) | (with_reducible refine r_if ?_) | (with_reducible refine r_nil ?_) | (with_reducible refine r_cons ?_) | (with_reducible refine r_dnil ?_) | (with_reducible refine r_dcons ?_) | (with_reducible refine r_tup ?_) | (with_reducible refine r_lst ?_) | (with_reducible refine r_call ?_) | (with_reducible refine r_isi ?_) | (with_reducible refine r_isi2 ?_) | (with_reducible refine r_exD ?_) | (with_reducible refine r_exI ?_) | (with_reducible refine r_tupRg ?_) | (with_reducible refine r_lstRg ?_) | (with_reducible refine r_sl ?_) | (with_reducible refine r_slT ?_) | (with_reducible refine r_slL ?_) | (with_reducible refine r_oNo ?_) | (with_reducible refine r_oI ?_) | (with_reducible refine r_fn ?_) | (with_reducible refine r_gName ?_) | (with_reducible refine r_gNil ?_) | (with_reducible refine r_gCons ?_) | (with_reducible refine r_iL ?_) | (with_reducible refine r_iT ?_) | (with_reducible refine r_iEL ?_) | (with_reducible refine r_iET ?_) | (with_reducible refine r_iLT ?_) | (with_reducible refine r_exLT_l ?_) | (with_reducible refine r_exLT_t ?_) | (with_reducible refine r_exL ?_) | (with_reducible refine r_exT ?_) | (with_reducible refine r_iR ?_) | (with_reducible refine r_iZ ?_) | (with_reducible refine r_exZt ?_) | (with_reducible refine r_exZl ?_) | (with_reducible refine r_idx ?_) | (with_reducible refine r_orL ?_) | (with_reducible refine r_disp ?_) | (with_reducible refine r_get ?_) | (with_reducible refine r_exS ?_) | (with_reducible refine r_exWD ?_) | (with_reducible refine r_back ?_) | (with_reducible refine r_lenSet ?_) | (with_reducible refine r_fnT ?_) | (with_reducible refine r_setO ?_) | (with_reducible refine r_tinSet ?_) | (with_reducible refine r_inD ?_) | (with_reducible refine r_par3 ?_) | (with_reducible refine r_ex3 ?_) | (with_reducible refine r_ex2 ?_) | (with_reducible refine r_yes ?_) | (with_reducible refine r_tt ?_) | (with_reducible refine r_ff ?_) | (with_reducible refine r_lc ?_) | (with_reducible refine r_for ?_) | (with_reducible refine r_int ?_) | (with_reducible refine r_intB ?_) | (with_reducible refine r_abs ?_) | (with_reducible refine r_isNn ?_) | (with_reducible refine r_isNb ?_) | (with_reducible refine r_isNi ?_) | (with_reducible refine r_isNs ?_) | (with_reducible refine r_bEqN ?_) | (with_reducible refine r_ft ?_) | (with_reducible refine r_tf ?_) | (with_reducible refine r_isN ?_) | ((with_reducible apply r_var); exact rfl) | ((with_reducible apply r_varT); exact rfl) | ((with_reducible apply r_varM); exact rfl) | ((with_reducible apply r_varS); exact rfl) | ((with_reducible apply r_lenO); exact rfl) | ((with_reducible apply r_len); exact rfl) | ((with_reducible apply r_tuple); exact rfl) | ((with_reducible apply r_list); exact rfl) | ((with_reducible apply r_ixT); exact rfl) | ((with_reducible apply r_ixL); exact rfl) | ((with_reducible apply r_gTup); exact rfl) | ((with_reducible apply r_fzS); exact rfl) | ((with_reducible apply r_ttE); exact rfl) | ((with_reducible apply r_ffE); exact rfl) | ((with_reducible apply r_ftE); exact rfl) | ((with_reducible apply r_tfE); exact rfl) | ((with_reducible apply r_app); exact ⟨_, rfl⟩) | ((with_reducible apply r_ixO); exact ⟨_, rfl⟩) | ((with_reducible apply r_ext); exact ⟨_, rfl⟩) | (with_reducible refine r_bEqS ?_) | (with_reducible refine r_bEqI ?_) | (with_reducible refine r_bEqT ?_) | (with_reducible refine r_bEqM ?_) | (with_reducible refine r_bEqB ?_) | (with_reducible refine r_bNeI ?_) | (with_reducible refine r_bNeT ?_) | (with_reducible refine r_bNeM ?_) | (with_reducible refine r_bNeB ?_) | ((with_reducible apply r_bI); first | exact trivial | omega | decide) | (refine ⟨Nat.le_of_ble_eq_true rfl, ?_⟩) | (dsimp only [frz]))))
section
variable {P : Program} {w : World} {K : PySem.W.Frag} {mg : Str → Option Value} {base : Heap}
/-! ## rows_of, _law_lines -/
theorem cells_in {B : Bk} {i j : Nat} {p : Nat × List (List Row)} {p2 : Nat × List Row} (h : (withIx B.rows)[i]? = some p) (h2 : (withIx p.2)[j]? = some p2) :
    (((withIx B.rows).take i).flatMap (fun p => cT p.1 p.2) ++ ((withIx p.2).take j).flatMap fun q => cL p.1 q.1 q.2).length + (cL p.1 p2.1 p2.2).length ≤ (cellsOf B).length := by
  have e1 := congrArg List.length (flat_split (fun p : Nat × List (List Row) => cT p.1 p.2) h)
  have e2 := congrArg List.length (flat_split (fun q : Nat × List Row => cL p.1 q.1 q.2) h2)
  simp only [List.length_append] at e1 e2 ⊢
  show _ ≤ (List.flatMap (fun p : Nat × List (List Row) => cT p.1 p.2) (withIx B.rows)).length
  rw [e1]
  show _ ≤ _ + ((List.flatMap (fun q : Nat × List Row => cL p.1 q.1 q.2) (withIx p.2)).length + _)
  rw [e2]
  omega
theorem cL_len (f h : Nat) (c : List Row) : (cL f h c).length = (withIx c).length := by unfold cL; rw [List.length_map]
theorem cL_map (f h : Nat) (c : List Row) : (cL f h c).map cellD = (withIx c).map fun p => cellD ⟨f, h, p.1, p.2⟩ := by unfold cL; rw [List.map_map]; rfl
theorem cells_next (A : List Cell) {t : List (List Row)} {f j : Nat} {p2 : Nat × List Row} (h2 : (withIx t)[j]? = some p2) :
    (A ++ ((withIx t).take (j + 1)).flatMap fun q => cL f q.1 q.2).map cellD = (A ++ ((withIx t).take j).flatMap fun q => cL f q.1 q.2).map cellD ++ (withIx p2.2).map fun p => cellD ⟨f, p2.1, p.1, p.2⟩ := by
  rw [flat_one _ h2, ← List.append_assoc, List.map_append, cL_map]
def T_rows_of : FT := fun ks q Q => ∃ B : Bk, ks = [.d (bookD B)] ∧ (cellsOf B).length ≤ 1000000 ∧ Q (.d (.list ((cellsOf B).map cellD))) q
theorem can_rows_of (Bl : Blt mg) (F : Fn K mg "rows_of" s_rows_of ["book"]) : Can P w K mg base 1 "rows_of" ["book"] T_rows_of := by
  refine can_of F sc_rows_of (fun ks q Qf h => ?_) (D_rows_of Bl 0).2 fun ks q Qf h => ?_
  · obtain ⟨d, rfl, _⟩ := h
    rfl
  · obtain ⟨B, rfl, hlen, h⟩ := h
    unfold D_rows_of
    dsimp only
    wtm_at "ph"
    refine for_map (fun i G q' => q' = q ∧ ∃ a b c e, G = [.d (bookD B), .l ((((withIx B.rows).take i).flatMap fun p => cT p.1 p.2).map cellD), a, b, c, e, .no, .no]) ⟨rfl, _, _, _, _, rfl⟩ ?_ ?_
    · rintro i p1 G q' h1 ⟨rfl, a, b, c, e, rfl⟩
      wtm_at "ph"
      refine for_map (fun j G q2 => q2 = q' ∧ ∃ c e, G = [.d (bookD B), .l ((((withIx B.rows).take i).flatMap (fun p => cT p.1 p.2) ++ ((withIx p1.2).take j).flatMap fun q => cL p1.1 q.1 q.2).map cellD), .d (.int p1.1), .d (tabD p1.2), c, e, .no, .no]) ⟨rfl, c, e, by simp⟩ ?_ ?_
      · rintro j p2 G q2 h2 ⟨rfl, c, e, rfl⟩
        have hc := cells_in h1 h2
        wtm_at "ph"
        refine lc_map (f := fun p => cellD ⟨p1.1, p2.1, p.1, p.2⟩) ?_ (fun p3 h3 R R' hR => ?_) ?_
        · rw [cL_len] at hc
          omega
        · wtm_at "ph"
          exact hR _ rfl
        · refine ⟨_, _, rfl, rfl, ?_, rfl, .d (.int p2.1), .d (lineD p2.2), ?_⟩
          · rw [List.length_map, List.length_map]
            rw [cL_len] at hc
            omega
          · rw [cells_next _ h2]
            rfl
      · rintro G q2 ⟨rfl, c, e, rfl⟩
        refine ⟨rfl, .d (.int p1.1), .d (tabD p1.2), c, e, ?_⟩
        rw [flat_one _ h1, List.take_length]
        rfl
    · rintro G q' ⟨rfl, a, b, c, e, rfl⟩
      wtm_at "ph"
      rw [List.take_length]
      exact h
end
end Ph

set_option Elab.async false
set_option linter.all false
set_option maxRecDepth 100000
set_option maxHeartbeats 4000000
namespace Ph
open PySem L2
local macro_rules | `(tactic| wtm_at "ph") => `(tactic| (repeat (first | (with_reducible refine r_ixBk3 ?_) | (with_reducible refine r_ixBk1 ?_) | (with_reducible refine r_row0 ?_) | (with_reducible refine r_row2 ?_) | (with_reducible refine r_row3 ?_) | (with_reducible refine r_pl0 ?_) | (with_reducible refine r_pl1 ?_) | (with_reducible refine r_pl2 ?_) | (with_reducible refine r_ce0 ?_) | (with_reducible refine r_ce1 ?_) | (with_reducible refine r_gCell ?_) | (with_reducible refine r_gPlace ?_) | (with_reducible refine r_slRow ?_) | (with_reducible refine r_slInt ?_) | (with_reducible refine r_slInt1 ?_) | (with_reducible refine r_exTab ?_) | (with_reducible refine r_exLine ?_) | (with_reducible refine r_numF ?_) | (with_reducible refine r_numFI ?_) | (with_reducible refine r_numL ?_) | (with_reducible refine r_numLI ?_) | (with_reducible refine r_lenI ?_) | (with_reducible refine r_bEqM ?_) | (with_reducible refine r_seq ?_) | (with_reducible refine r_next ?_) | (with_reducible refine r_asg ?_) | (with_reducible refine r_par ?_) | (with_reducible refine r_ret ?_) | (with_reducible refine r_ifS ?_) | (with_reducible refine r_C ?_) | (with_reducible refine r_fz ?_) | (with_reducible refine r_op ?_) | (with_reducible refine r_test ?_) | (with_reducible refine r_exB ?_) | (with_reducible refine r_and ?_) | (with_reducible refine r_not ?_) | (with_reducible refine r_neg ?_) | (with_reducible refine r_andT ?_) | (with_reducible refine r_orT ?_) | (with_reducible refine r_notT ?_) | (with_reducible refine r_if ?_) | (with_reducible refine r_nil ?_) | (with_reducible refine r_cons ?_) | (with_reducible refine r_dnil ?_) | (with_reducible refine r_dcons ?_) | (with_reducible refine r_tup ?_) | (with_reducible refine r_lst ?_) | (with_reducible refine r_call ?_) | (with_reducible refine r_isi ?_) | (with_reducible refine r_isi2 ?_) | (with_reducible refine r_exD ?_) | (with_reducible refine r_exI ?_) | (with_reducible refine r_tupRg ?_) | (with_reducible refine r_lstRg ?_) | (with_reducible refine r_sl ?_) | (with_reducible refine r_slT ?_) | (with_reducible refine r_slL ?_) | (with_reducible refine r_oNo ?_) | (with_reducible refine r_oI ?_) | (with_reducible refine r_fn ?_) | (with_reducible refine r_gName ?_) | (with_reducible refine r_gNil ?_) | (with_reducible refine r_gCons ?_) | (with_reducible refine r_iL ?_) | (with_reducible refine r_iT ?_) | (with_reducible refine r_iEL ?_) | (with_reducible refine r_iET ?_) | (with_reducible refine r_iLT ?_) | (with_reducible refine r_exLT_l ?_) | (with_reducible refine r_exLT_t ?_) | (with_reducible refine r_exL ?_) | (with_reducible refine r_exT ?_) | (with_reducible refine r_iR ?_) | (with_reducible refine r_iZ ?_) | (with_reducible refine r_exZt ?_) | (with_reducible refine r_exZl ?_) | (with_reducible refine r_idx ?_) | (with_reducible refine r_orL ?_) | (with_reducible refine r_disp ?_) | (with_reducible refine r_get ?_) | (with_reducible refine r_exS ?_) | (with_reducible refine r_exWD ?_) | (with_reducible refine r_back ?_) | (with_reducible refine r_lenSet ?_) | (with_reducible refine r_fnT ?_) | (with_reducible refine r_setO ?_) | (with_reducible refine r_tinSet ?_) | (with_reducible refine r_inD ?_) | (with_reducible refine r_par3 ?_) | (with_reducible refine r_ex3 ?_) | (with_reducible refine r_ex2 ?_) | (with_reducible refine r_yes ?_) | (with_reducible refine r_tt ?_) | (with_reducible refine r_ff ?_) | (with_reducible refine r_lc ?_) | (with_reducible refine r_for ?_) | (with_reducible refine r_int ?_) | (with_reducible refine r_intB ?_) | (with_reducible refine r_abs ?_) | (with_reducible refine r_isNn ?_) | (with_reducible refine r_isNb ?_) | (with_reducible refine r_isNi ?_) | (with_reducible refine r_isNs ?_) | (with_reducible refine r_bEqN ?_) | (with_reducible refine r_ft ?_) | (with_reducible refine r_tf ?_) | (with_reducible refine r_isN ?_) | ((with_reducible apply r_var); exact rfl) | ((with_reducible apply r_varT); exact rfl) | ((with_reducible apply r_varM); exact rfl) | ((with_reducible apply r_varS); exact rfl) | ((with_reducible apply r_lenO); exact rfl) | ((with_reducible apply r_len); exact rfl) | ((with_reducible apply r_tuple); exact rfl) | ((with_reducible apply r_list); exact rfl) | ((with_reducible apply r_ixT); exact rfl) | ((with_reducible apply r_ixL); exact rfl) | ((with_reducible apply r_gTup); exact rfl) | ((with_reducible apply r_fzS); exact rfl) | ((with_reducible apply r_ttE); exact rfl) | ((with_reducible apply r_ffE); exact rfl) | ((with_reducible apply r_ftE); exact rfl) | ((with_reducible apply r_tfE); exact rfl) | ((with_reducible apply r_app); exact ⟨_, rfl⟩) | ((with_reducible apply r_ixO); exact ⟨_, rfl⟩) | ((with_reducible apply r_ext); exact ⟨_, rfl⟩) | (with_reducible refine r_bEqS ?_) | (with_reducible refine r_bEqI ?_) | (with_reducible refine r_bEqT ?_) | (with_reducible refine r_bEqM ?_) | (with_reducible refine r_bEqB ?_) | (with_reducible refine r_bNeI ?_) | (with_reducible refine r_bNeT ?_) | (with_reducible refine r_bNeM ?_) | (with_reducible refine r_bNeB ?_) | ((with_reducible apply r_bI); first | exact trivial | omega | decide) | (refine ⟨Nat.le_of_ble_eq_true rfl, ?_⟩) | (dsimp only [frz]))))
section
variable {P : Program} {w : World} {K : PySem.W.Frag} {mg : Str → Option Value} {base : Heap}
theorem isB_int_nonetype  : isB "int" (.none) = false := by show (kitB "NoneType" "int").getD false = false; decide +kernel
theorem isB_int_bool (b : Bool) : isB "int" (.bool b) = true := by show (kitB "bool" "int").getD false = true; decide +kernel
theorem isB_int_int (b : Int) : isB "int" (.int b) = true := by show (kitB "int" "int").getD false = true; decide +kernel
theorem isB_int_str (b : Str) : isB "int" (.str b) = false := by show (kitB "str" "int").getD false = false; decide +kernel
theorem isB_int_list (b : List PyData) : isB "int" (.list b) = false := by show (kitB "list" "int").getD false = false; decide +kernel
theorem isB_int_tuple (b : List PyData) : isB "int" (.tuple b) = false := by show (kitB "tuple" "int").getD false = false; decide +kernel
theorem isB_bool_nonetype  : isB "bool" (.none) = false := by show (kitB "NoneType" "bool").getD false = false; decide +kernel
theorem isB_bool_bool (b : Bool) : isB "bool" (.bool b) = true := by show (kitB "bool" "bool").getD false = true; decide +kernel
theorem isB_bool_int (b : Int) : isB "bool" (.int b) = false := by show (kitB "int" "bool").getD false = false; decide +kernel
theorem isB_bool_str (b : Str) : isB "bool" (.str b) = false := by show (kitB "str" "bool").getD false = false; decide +kernel
theorem isB_bool_list (b : List PyData) : isB "bool" (.list b) = false := by show (kitB "list" "bool").getD false = false; decide +kernel
theorem isB_bool_tuple (b : List PyData) : isB "bool" (.tuple b) = false := by show (kitB "tuple" "bool").getD false = false; decide +kernel
theorem isB_list_nonetype  : isB "list" (.none) = false := by show (kitB "NoneType" "list").getD false = false; decide +kernel
theorem isB_list_bool (b : Bool) : isB "list" (.bool b) = false := by show (kitB "bool" "list").getD false = false; decide +kernel
theorem isB_list_int (b : Int) : isB "list" (.int b) = false := by show (kitB "int" "list").getD false = false; decide +kernel
theorem isB_list_str (b : Str) : isB "list" (.str b) = false := by show (kitB "str" "list").getD false = false; decide +kernel
theorem isB_list_list (b : List PyData) : isB "list" (.list b) = true := by show (kitB "list" "list").getD false = true; decide +kernel
theorem isB_list_tuple (b : List PyData) : isB "list" (.tuple b) = false := by show (kitB "tuple" "list").getD false = false; decide +kernel
theorem isB_tuple_nonetype  : isB "tuple" (.none) = false := by show (kitB "NoneType" "tuple").getD false = false; decide +kernel
theorem isB_tuple_bool (b : Bool) : isB "tuple" (.bool b) = false := by show (kitB "bool" "tuple").getD false = false; decide +kernel
theorem isB_tuple_int (b : Int) : isB "tuple" (.int b) = false := by show (kitB "int" "tuple").getD false = false; decide +kernel
theorem isB_tuple_str (b : Str) : isB "tuple" (.str b) = false := by show (kitB "str" "tuple").getD false = false; decide +kernel
theorem isB_tuple_list (b : List PyData) : isB "tuple" (.list b) = false := by show (kitB "list" "tuple").getD false = false; decide +kernel
theorem isB_tuple_tuple (b : List PyData) : isB "tuple" (.tuple b) = true := by show (kitB "tuple" "tuple").getD false = true; decide +kernel
theorem isB_str_nonetype  : isB "str" (.none) = false := by show (kitB "NoneType" "str").getD false = false; decide +kernel
theorem isB_str_bool (b : Bool) : isB "str" (.bool b) = false := by show (kitB "bool" "str").getD false = false; decide +kernel
theorem isB_str_int (b : Int) : isB "str" (.int b) = false := by show (kitB "int" "str").getD false = false; decide +kernel
theorem isB_str_str (b : Str) : isB "str" (.str b) = true := by show (kitB "str" "str").getD false = true; decide +kernel
theorem isB_str_list (b : List PyData) : isB "str" (.list b) = false := by show (kitB "list" "str").getD false = false; decide +kernel
theorem isB_str_tuple (b : List PyData) : isB "str" (.tuple b) = false := by show (kitB "tuple" "str").getD false = false; decide +kernel
theorem can_no {x : Str} {st : Stmt} {N ps : List Str} (F : Fn K mg x st ps) (Sc : FnScope N ps (defScope st)) : Can P w K mg base 1 x ps (fun _ _ _ => False) := by
  obtain ⟨f, fd, h1, h2, h3⟩ := F.ex
  refine ⟨f, fd, h1, h2.ok (k := 0) Sc (fun vs H Q E h => ?_) fun cdv A outer s H vs Q E hr h => ?_, h2.kp, h3⟩
  · obtain ⟨_, _, _, _, _, _, _, _, h, _⟩ := h
    exact h.elim
  · obtain ⟨_, _, _, _, _, _, _, _, h, _⟩ := h
    exact h.elim
theorem Can.up {x : Str} {ps : List Str} {T : FT} {j k : Nat} (C : Can P w K mg base j x ps T) (h : j ≤ k) : Can P w K mg base k x ps T := by
  obtain ⟨f, fd, h1, h2, h3, h4⟩ := C.ex
  exact ⟨f, fd, h1, h2.mono h, h3, h4⟩
/-! ## is_number, is_tuple_of -/
def T_is_number : FT := fun ks q Q => ∃ n : Int, ks = [.d (.int n)] ∧ Q (.d (.bool true)) q
theorem can_is_number (Bl : Blt mg) (F : Fn K mg "is_number" s_is_number ["thing"]) : Can P w K mg base 1 "is_number" ["thing"] T_is_number := by
  refine can_of F sc_is_number (fun ks q Qf h => ?_) (D_is_number Bl 0).2 fun ks q Qf h => ?_
  · obtain ⟨d, rfl, _⟩ := h
    rfl
  · obtain ⟨n, rfl, h⟩ := h
    unfold D_is_number
    dsimp only
    wtm_at "ph"
    try rw [isB_int_int]
    wtm_at "ph"
    try rw [isB_bool_int]
    exact h
def T_is_tuple_of : FT := fun ks q Q => (∃ xs, ∃ n : Int, ks = [.d (.tuple xs), .d (.int n)] ∧ Q (.d (.bool (decide ((xs.length : Int) = n)))) q) ∨ (∃ xs, ∃ n : Int, ks = [.d (.list xs), .d (.int n)] ∧ Q (.d (.bool false)) q)
theorem can_is_tuple_of (Bl : Blt mg) (F : Fn K mg "is_tuple_of" s_is_tuple_of ["thing", "many"]) : Can P w K mg base 1 "is_tuple_of" ["thing", "many"] T_is_tuple_of := by
  refine can_of F sc_is_tuple_of (fun ks q Qf h => ?_) (D_is_tuple_of Bl 0).2 fun ks q Qf h => ?_
  · rcases h with ⟨_, _, rfl, _⟩ | ⟨_, _, rfl, _⟩ <;> rfl
  · rcases h with ⟨xs, n, rfl, h⟩ | ⟨xs, n, rfl, h⟩
    · unfold D_is_tuple_of
      dsimp only
      wtm_at "ph"
      try rw [isB_tuple_tuple]
      wtm_at "ph"
      exact h
    · unfold D_is_tuple_of
      dsimp only
      wtm_at "ph"
      try rw [isB_tuple_list]
      wtm_at "ph"
      exact h
/-! ## key_by -/
def keyW (v : Wd) (h : Nat) (c : Cell) : List NestedKey := match v with
  | .letters => [.num h, .num c.letter]
  | .flag => [.num c.flag, .num c.row.later]
  | _ => []
def T_key_by : FT := fun ks q Q => ∃ (B : Bk) (v : Wd) (c : Cell) (h : Nat), ks = [.d (bookD B), .d (.str v.str), .d (placeD c), .d (rowD c.row)] ∧ B.hues[c.hue]? = some h ∧ Q (.d (NestedKey.tup (keyW v h c)).data) q
theorem can_key_by (Bl : Blt mg) (F : Fn K mg "key_by" s_key_by ["book", "word", "place", "row"]) : Can P w K mg base 1 "key_by" ["book", "word", "place", "row"] T_key_by := by
  refine can_of F sc_key_by (fun ks q Qf h => ?_) (D_key_by Bl 0).2 fun ks q Qf h => ?_
  · obtain ⟨_, _, _, _, rfl, _⟩ := h
    rfl
  · obtain ⟨B, v, c, h, rfl, hh, k⟩ := h
    unfold D_key_by
    dsimp only
    wtm_at "ph"
    refine r_bEqS .letters rfl ?_
    wtm_at "ph"
    refine ⟨fun hv => ?_, fun hv => ?_⟩
    · have hv := of_decide_eq_true hv
      subst hv
      wtm_at "ph"
      refine r_ixT (atI_ints hh) ?_
      wtm_at "ph"
      exact k
    · have hv := of_decide_eq_false hv
      wtm_at "ph"
      refine r_bEqS .flag rfl ?_
      wtm_at "ph"
      refine ⟨fun hf => ?_, fun hf => ?_⟩
      · have hf := of_decide_eq_true hf
        subst hf
        wtm_at "ph"
        exact k
      · have hf := of_decide_eq_false hf
        wtm_at "ph"
        cases v <;> first
          | exact absurd rfl hv
          | exact absurd rfl hf
          | exact k
/-! ## deep copies -/
def fit : Nat → PyData → Bool
  | _, .none => true
  | _, .bool _ => true
  | _, .int _ => true
  | _, .str x => PyData.canLay0 (.str x)
  | _, .dict _ => false
  | 0, .list _ => false
  | 0, .tuple _ => false
  | n + 1, .list xs => decide (xs.length ≤ 1000000) && xs.all (fit n)
  | n + 1, .tuple xs => decide (xs.length ≤ 1000000) && xs.all (fit n)
def tupN : Nat → PyData → PyData
  | n + 1, .list xs => .tuple (xs.map (tupN n))
  | n + 1, .tuple xs => .tuple (xs.map (tupN n))
  | _, d => d
def lstN : Nat → PyData → PyData
  | n + 1, .list xs => .list (xs.map (lstN n))
  | n + 1, .tuple xs => .list (xs.map (lstN n))
  | _, d => d
def T_tuple_of (n : Nat) : FT := fun ks q Q => ∃ d, ks = [.d d] ∧ fit n d = true ∧ Q (.d (tupN n d)) q
theorem map_id' {f : PyData → PyData} : (fun d : PyData => d) = id := rfl
theorem can_tuple_of (Bl : Blt mg) (F : Fn K mg "tuple_of" s_tuple_of ["thing"]) : ∀ n, Can P w K mg base (n + 2) "tuple_of" ["thing"] (T_tuple_of n) := by
  have step : ∀ n T, Can P w K mg base (n + 1) "tuple_of" ["thing"] T → (∀ xs : List PyData, ∀ x ∈ xs, fit n (.list xs) = true ∨ fit n (.tuple xs) = true → ∀ q Q, Q (.d (tupN (n - 1) x)) q → T [.d x] q Q) → Can P w K mg base (n + 2) "tuple_of" ["thing"] (T_tuple_of n) := by
    intro n T C hT
    refine can_of F sc_tuple_of (fun ks q Qf h => ?_) (D_tuple_of Bl (n + 1) C (Nat.le_refl _)).2 fun ks q Qf h => ?_
    · obtain ⟨d, rfl, _⟩ := h
      rfl
    · obtain ⟨d, rfl, hf, h⟩ := h
      unfold D_tuple_of
      dsimp only
      wtm_at "ph"
      cases d with
      | none =>
        try rw [isB_list_nonetype, isB_tuple_nonetype, Bool.or_false]
        wtm_at "ph"
        cases n <;> exact h
      | bool b =>
        try rw [isB_list_bool, isB_tuple_bool, Bool.or_false]
        wtm_at "ph"
        cases n <;> exact h
      | int b =>
        try rw [isB_list_int, isB_tuple_int, Bool.or_false]
        wtm_at "ph"
        cases n <;> exact h
      | str b =>
        try rw [isB_list_str, isB_tuple_str, Bool.or_false]
        wtm_at "ph"
        cases n <;> exact h
      | dict kvs => cases n <;> cases hf
      | list xs =>
        try rw [isB_list_list, Bool.true_or]
        wtm_at "ph"
        have hl : xs.length ≤ 1000000 := by
          cases n with
          | zero => cases hf
          | succ n => exact of_decide_eq_true (Bool.and_eq_true_iff.mp hf).1
        rw [show LcK xs = LcK (xs.map id) by rw [List.map_id]]
        refine lc_map (f := tupN (n - 1)) hl (fun x hx R R' hR => ?_) ?_
        · wtm_at "ph"
          refine hT xs x hx (.inl hf) _ _ ?_
          exact hR _ rfl
        · wtm_at "ph"
          cases n with
          | zero => cases hf
          | succ n => exact h
      | tuple xs =>
        try rw [isB_list_tuple, isB_tuple_tuple, Bool.or_true]
        wtm_at "ph"
        have hl : xs.length ≤ 1000000 := by
          cases n with
          | zero => cases hf
          | succ n => exact of_decide_eq_true (Bool.and_eq_true_iff.mp hf).1
        rw [show LcK xs = LcK (xs.map id) by rw [List.map_id]]
        refine lc_map (f := tupN (n - 1)) hl (fun x hx R R' hR => ?_) ?_
        · wtm_at "ph"
          refine hT xs x hx (.inr hf) _ _ ?_
          exact hR _ rfl
        · wtm_at "ph"
          cases n with
          | zero => cases hf
          | succ n => exact h
  intro n
  induction n with
  | zero => exact step 0 _ (can_no F sc_tuple_of) fun xs x hx h q Q k => by rcases h with h | h <;> cases h
  | succ n ih =>
    refine step (n + 1) _ ih fun xs x hx h q Q k => ⟨x, rfl, ?_, k⟩
    rcases h with h | h <;> exact List.all_eq_true.mp (Bool.and_eq_true_iff.mp h).2 x hx
end
end Ph

set_option Elab.async false
set_option linter.all false
set_option maxRecDepth 100000
set_option maxHeartbeats 4000000
namespace Ph
open PySem L2
local macro_rules | `(tactic| wtm_at "ph") => `(tactic| (repeat (first | (with_reducible refine r_ixBk3 ?_) | (with_reducible refine r_ixBk1 ?_) | (with_reducible refine r_row0 ?_) | (with_reducible refine r_row2 ?_) | (with_reducible refine r_row3 ?_) | (with_reducible refine r_pl0 ?_) | (with_reducible refine r_pl1 ?_) | (with_reducible refine r_pl2 ?_) | (with_reducible refine r_ce0 ?_) | (with_reducible refine r_ce1 ?_) | (with_reducible refine r_gCell ?_) | (with_reducible refine r_gPlace ?_) | (with_reducible refine r_slRow ?_) | (with_reducible refine r_slInt ?_) | (with_reducible refine r_slInt1 ?_) | (with_reducible refine r_exTab ?_) | (with_reducible refine r_exLine ?_) | (with_reducible refine r_numF ?_) | (with_reducible refine r_numFI ?_) | (with_reducible refine r_numL ?_) | (with_reducible refine r_numLI ?_) | (with_reducible refine r_lenI ?_) | (with_reducible refine r_bEqM ?_) | (with_reducible refine r_seq ?_) | (with_reducible refine r_next ?_) | (with_reducible refine r_asg ?_) | (with_reducible refine r_par ?_) | (with_reducible refine r_ret ?_) | (with_reducible refine r_ifS ?_) | (with_reducible refine r_C ?_) | (with_reducible refine r_fz ?_) | (with_reducible refine r_op ?_) | (with_reducible refine r_test ?_) | (with_reducible refine r_exB ?_) | (with_reducible refine r_and ?_) | (with_reducible refine r_not ?_) | (with_reducible refine r_neg ?_) | (with_reducible refine r_andT ?_) | (with_reducible refine r_orT ?_) | (with_reducible refine r_notT ?_) | (with_reducible refine r_if ?_) | (with_reducible refine r_nil ?_) | (with_reducible refine r_cons ?_) | (with_reducible refine r_dnil ?_) | (with_reducible refine r_dcons ?_) | (with_reducible refine r_tup ?_) | (with_reducible refine r_lst ?_) | (with_reducible refine r_call ?_) | (with_reducible refine r_isi ?_) | (with_reducible refine r_isi2 ?_) | (with_reducible refine r_exD ?_) | (with_reducible refine r_exI ?_) | (with_reducible refine r_tupRg ?_) | (with_reducible refine r_lstRg ?_) | (with_reducible refine r_sl ?_) | (with_reducible refine r_slT ?_) | (with_reducible refine r_slL ?_) | (with_reducible refine r_oNo ?_) | (with_reducible refine r_oI ?_) | (with_reducible refine r_fn ?_) | (with_reducible refine r_gName ?_) | (with_reducible refine r_gNil ?_) | (with_reducible refine r_gCons ?_) | (with_reducible refine r_iL ?_) | (with_reducible refine r_iT ?_) | (with_reducible refine r_iEL ?_) | (with_reducible refine r_iET ?_) | (with_reducible refine r_iLT ?_) | (with_reducible refine r_exLT_l ?_) | (with_reducible refine r_exLT_t ?_) | (with_reducible refine r_exL ?_) | (with_reducible refine r_exT ?_) | (with_reducible refine r_iR ?_) | (with_reducible refine r_iZ ?_) | (with_reducible refine r_exZt ?_) | (with_reducible refine r_exZl ?_) | (with_reducible refine r_idx ?_) | (with_reducible refine r_orL ?_) | (with_reducible refine r_disp ?_) | (with_reducible refine r_get ?_) | (with_reducible refine r_exS ?_) | (with_reducible refine r_exWD ?_) | (with_reducible refine r_back ?_) | (with_reducible refine r_lenSet ?_) | (with_reducible refine r_fnT ?_) | (with_reducible refine r_setO ?_) | (with_reducible refine r_tinSet ?_) | (with_reducible refine r_inD ?_) | (with_reducible refine r_par3 ?_) | (with_reducible refine r_ex3 ?_) | (with_reducible refine r_ex2 ?_) | (with_reducible refine r_yes ?_) | (with_reducible refine r_tt ?_) | (with_reducible refine r_ff ?_) | (with_reducible refine r_lc ?_) | (with_reducible refine r_for ?_) | (with_reducible refine r_int ?_) | (with_reducible refine r_intB ?_) | (with_reducible refine r_abs ?_) | (with_reducible refine r_isNn ?_) | (with_reducible refine r_isNb ?_) | (with_reducible refine r_isNi ?_) | (with_reducible refine r_isNs ?_) | (with_reducible refine r_bEqN ?_) | (with_reducible refine r_ft ?_) | (with_reducible refine r_tf ?_) | (with_reducible refine r_isN ?_) | ((with_reducible apply r_var); exact rfl) | ((with_reducible apply r_varT); exact rfl) | ((with_reducible apply r_varM); exact rfl) | ((with_reducible apply r_varS); exact rfl) | ((with_reducible apply r_lenO); exact rfl) | ((with_reducible apply r_len); exact rfl) | ((with_reducible apply r_tuple); exact rfl) | ((with_reducible apply r_list); exact rfl) | ((with_reducible apply r_ixT); exact rfl) | ((with_reducible apply r_ixL); exact rfl) | ((with_reducible apply r_gTup); exact rfl) | ((with_reducible apply r_fzS); exact rfl) | ((with_reducible apply r_ttE); exact rfl) | ((with_reducible apply r_ffE); exact rfl) | ((with_reducible apply r_ftE); exact rfl) | ((with_reducible apply r_tfE); exact rfl) | ((with_reducible apply r_app); exact ⟨_, rfl⟩) | ((with_reducible apply r_ixO); exact ⟨_, rfl⟩) | ((with_reducible apply r_ext); exact ⟨_, rfl⟩) | (with_reducible refine r_bEqS ?_) | (with_reducible refine r_bEqI ?_) | (with_reducible refine r_bEqT ?_) | (with_reducible refine r_bEqM ?_) | (with_reducible refine r_bEqB ?_) | (with_reducible refine r_bNeI ?_) | (with_reducible refine r_bNeT ?_) | (with_reducible refine r_bNeM ?_) | (with_reducible refine r_bNeB ?_) | ((with_reducible apply r_bI); first | exact trivial | omega | decide) | (refine ⟨Nat.le_of_ble_eq_true rfl, ?_⟩) | (dsimp only [frz]))))
section
variable {P : Program} {w : World} {K : PySem.W.Frag} {mg : Str → Option Value} {base : Heap}
/-! ## which agree -/
section
variable {κ β : Type} [DecidableEq κ]
theorem look_cons (j : κ) (x : β) (r : List (κ × β)) (k : κ) : look ((j, x) :: r) k = if j = k then some x else look r k := rfl
theorem look_mem {L : List (κ × β)} {k : κ} {v : β} (h : look L k = some v) : (k, v) ∈ L := by
  induction L with
  | nil => cases h
  | cons p r ih =>
    obtain ⟨j, x⟩ := p
    rw [look_cons] at h
    by_cases e : j = k
    · rw [if_pos e] at h
      rw [← e, ← Option.some.inj h]
      exact List.mem_cons_self
    · rw [if_neg e] at h
      exact List.mem_cons_of_mem _ (ih h)
theorem look_of {L : List (κ × β)} {p : κ × β} (h : p ∈ L) : ∃ v, look L p.1 = some v := by
  induction L with
  | nil => cases h
  | cons q r ih =>
    obtain ⟨j, x⟩ := q
    rw [look_cons]
    by_cases e : j = p.1
    · exact ⟨x, if_pos e⟩
    · rw [if_neg e]
      rcases List.mem_cons.mp h with rfl | h
      · exact absurd rfl e
      · exact ih h
theorem look_app (L M : List (κ × β)) (k : κ) : look (L ++ M) k = (look L k).or (look M k) := by
  induction L with
  | nil => rfl
  | cons p r ih =>
    obtain ⟨j, x⟩ := p
    rw [List.cons_append, look_cons, look_cons]
    by_cases e : j = k
    · rw [if_pos e, if_pos e]; rfl
    · rw [if_neg e, if_neg e, ih]
theorem look_take {L : List (κ × β)} {i : Nat} {p : κ × β} (h : L[i]? = some p) : look L p.1 = (look (L.take i) p.1).or (some p.2) := by
  have e : L = L.take i ++ p :: L.drop (i + 1) := by
    obtain ⟨hi, e⟩ := List.getElem?_eq_some_iff.mp h
    have z := List.take_append_drop i L
    rw [List.drop_eq_getElem_cons hi, e] at z
    exact z.symm
  conv => lhs; rw [e]
  rw [look_app]
  congr 1
  obtain ⟨k, v⟩ := p
  rw [look_cons, if_pos rfl]
theorem look_put (L : List (κ × β)) (k j : κ) (v : β) : look (put L k v) j = if k = j then some v else look L j := by
  induction L with
  | nil => rfl
  | cons p r ih =>
    obtain ⟨i, x⟩ := p
    unfold put
    by_cases e : i = k
    · rw [if_pos e]
      subst e
      rw [look_cons, look_cons]
      by_cases e2 : i = j
      · rw [if_pos e2, if_pos e2]
      · rw [if_neg e2, if_neg e2, if_neg e2]
    · rw [if_neg e, look_cons, look_cons]
      by_cases e2 : i = j
      · subst e2
        rw [if_pos rfl, if_pos rfl, if_neg fun z => e z.symm]
      · rw [if_neg e2, if_neg e2, ih]
theorem look_no (k j : κ) (v : β) (e : ¬ k = j) : look [(k, v)] j = none := by rw [look_cons, if_neg e]; rfl
def agree [DecidableEq β] (L : List (κ × β)) : Bool := L.all fun p => decide (look L p.1 = some p.2)
theorem agree_iff [DecidableEq β] {L : List (κ × β)} : agree L = true ↔ ∀ p ∈ L, ∀ p' ∈ L, p.1 = p'.1 → p.2 = p'.2 := by
  unfold agree
  rw [List.all_eq_true]
  constructor
  · intro h p hp p' hp' e
    have h1 := of_decide_eq_true (h p hp)
    have h2 := of_decide_eq_true (h p' hp')
    rw [e, h2] at h1
    exact (Option.some.inj h1).symm
  · intro h p hp
    obtain ⟨v, hv⟩ := look_of hp
    refine decide_eq_true ?_
    rw [hv, h p hp (p.1, v) (look_mem hv) rfl]
end
/-- the dict holds what the first of each key says -/
def Tab {β : Type} (enc : β → PyData) (pre : List (List NestedKey × β)) (kvs : List (NestedKey × PyData)) : Prop := ∀ k, look kvs (.tup k) = (look pre k).map enc
theorem Tab.nil {β : Type} {enc : β → PyData} : Tab enc [] [] := fun _ => rfl
theorem Tab.old {β : Type} {enc : β → PyData} {pre : List (List NestedKey × β)} {kvs : List (NestedKey × PyData)} (T : Tab enc pre kvs) {k : List NestedKey} {v v' : β} (h : look pre k = some v') : Tab enc (pre ++ [(k, v)]) kvs := fun j => by
  rw [T j, look_app]
  by_cases e : k = j
  · subst e
    rw [h]; rfl
  · rw [look_no _ _ _ e, Option.or_none]
theorem Tab.new {β : Type} {enc : β → PyData} {pre : List (List NestedKey × β)} {kvs : List (NestedKey × PyData)} (T : Tab enc pre kvs) {k : List NestedKey} {v : β} (h : look pre k = none) : Tab enc (pre ++ [(k, v)]) (put kvs (.tup k) (enc v)) := fun j => by
  rw [look_put, look_app]
  by_cases e : k = j
  · subst e
    rw [if_pos rfl, h, look_cons, if_pos rfl]; rfl
  · rw [if_neg fun z => e (NestedKey.tup.inj z), T j, look_no _ _ _ e, Option.or_none]
/-- the same value is written again -/
theorem Tab.again {β : Type} {enc : β → PyData} {pre : List (List NestedKey × β)} {kvs : List (NestedKey × PyData)} (T : Tab enc pre kvs) {k : List NestedKey} {v : β} (h : look pre k = some v ∨ look pre k = none) : Tab enc (pre ++ [(k, v)]) (put kvs (.tup k) (enc v)) := by
  rcases h with h | h
  · intro j
    rw [look_put, look_app]
    by_cases e : k = j
    · subst e
      rw [if_pos rfl, h]; rfl
    · rw [if_neg fun z => e (NestedKey.tup.inj z), T j, look_no _ _ _ e, Option.or_none]
  · exact T.new h
/-! ## books that are as they should be -/
structure Wf (B : Bk) : Prop where
  few : B.hues.length ≤ 8
  pos : 0 < B.hues.length
  rows : B.rows.length ≤ 8
  tab : ∀ t ∈ B.rows, t.length = B.hues.length ∧ ∀ c ∈ t, c.length ≤ 8 ∧ ∀ r ∈ c, r.maps.1.length = B.hues.length ∧ r.maps.2.length = B.hues.length ∧ (∀ x ∈ r.maps.1, x < B.hues.length) ∧ ∀ x ∈ r.maps.2, x < B.hues.length
theorem flat_le {α β : Type} {F : α → List β} {b : Nat} : ∀ {l : List α}, (∀ x ∈ l, (F x).length ≤ b) → (l.flatMap F).length ≤ l.length * b
  | [], _ => by simp
  | x :: l, h => by
    have h1 := h x List.mem_cons_self
    have h2 := flat_le (F := F) (b := b) (l := l) fun y hy => h y (List.mem_cons_of_mem _ hy)
    rw [List.flatMap_cons, List.length_append, List.length_cons, Nat.succ_mul]
    omega
theorem withIx_snd {α : Type} {xs : List α} {p : Nat × α} (h : p ∈ withIx xs) : p.2 ∈ xs := List.mem_of_getElem? (withIx_mem h)
theorem Wf.cells {B : Bk} (W : Wf B) : (cellsOf B).length ≤ 512 := by
  have h1 : (cellsOf B).length ≤ (withIx B.rows).length * 64 := by
    refine flat_le fun p hp => ?_
    have hm := W.tab _ (withIx_snd hp)
    have h2 : (cT p.1 p.2).length ≤ (withIx p.2).length * 8 := by
      refine flat_le fun p2 hp2 => ?_
      rw [cL_len, withIx_len]
      exact (hm.2 _ (withIx_snd hp2)).1
    rw [withIx_len, hm.1] at h2
    have := W.few
    omega
  rw [withIx_len] at h1
  have := W.rows
  omega
theorem Wf.cell {B : Bk} (W : Wf B) {c : Cell} (h : c ∈ cellsOf B) : (∃ x, B.hues[c.hue]? = some x) ∧ c.row.maps.1.length = B.hues.length ∧ c.row.maps.2.length = B.hues.length ∧ (∀ x ∈ c.row.maps.1, x < B.hues.length) ∧ ∀ x ∈ c.row.maps.2, x < B.hues.length := by
  obtain ⟨p, hp, h⟩ := List.mem_flatMap.mp h
  obtain ⟨p2, hp2, h⟩ := List.mem_flatMap.mp h
  obtain ⟨p3, hp3, rfl⟩ := List.mem_map.mp h
  have hm := W.tab _ (withIx_snd hp)
  have h2 := withIx_mem hp2
  have h3 := (List.getElem?_eq_some_iff.mp h2).1
  rw [hm.1] at h3
  exact ⟨⟨_, List.getElem?_eq_getElem h3⟩, (hm.2 _ (withIx_snd hp2)).2 _ (withIx_snd hp3)⟩
def hueOf (B : Bk) (c : Cell) : Nat := B.hues.getD c.hue 0
theorem hueOf_at {B : Bk} {c : Cell} {x : Nat} (h : B.hues[c.hue]? = some x) : hueOf B c = x := by
  unfold hueOf
  rw [List.getD_eq_getElem?_getD, h]; rfl
theorem Wf.hue {B : Bk} (W : Wf B) {c : Cell} (h : c ∈ cellsOf B) : B.hues[c.hue]? = some (hueOf B c) := by
  obtain ⟨x, hx⟩ := (W.cell h).1
  rw [hueOf_at hx]
  exact hx
/-! ## goes_by, told_of -/
def evW (B : Bk) (v : Wd) : List (List NestedKey × (List Nat × List Nat)) := (cellsOf B).map fun c => (keyW v (hueOf B c) c, c.row.maps)
def goesB (B : Bk) (v : Wd) : Bool := match v with
  | .all => true
  | .nobody => (cellsOf B).all fun c => decide (c.row.maps.1 = List.range B.hues.length) && decide (c.row.maps.2 = List.range B.hues.length)
  | .blind => (cellsOf B).all fun c => decide (c.row.maps.1 = c.row.maps.2)
  | v => agree (evW B v)
section
variable {α : Type} {G G1 : List Sl} {q q1 : Nn} {Q : Sl → List Sl → Nn → Prop} {xs : List α} {enc f : α → PyData} {g : AGT} {tt : ATT} {te : ATE} {vs : List Nat}
theorem lc_st (I : Nat → List PyData → List Sl → Nn → Prop) (hl : xs.length ≤ 1000000) (h0 : I 0 [] (wipeG G1 vs) q1) (hs : ∀ (i : Nat) x acc G q, xs[i]? = some x → I i acc G q → g (enc x) G fun G' => tt G' q fun b G2 q2 =>
    (b = true → te G2 q2 fun r G3 q3 => ∃ y, r = .d y ∧ I (i + 1) (acc ++ [y]) (wipeG G3 vs) q3) ∧ (b = false → I (i + 1) acc (wipeG G2 vs) q2)) (k : ∀ acc G q, I xs.length acc G q → Q (.l acc) G q) : LcK (xs.map enc) g tt te vs Q G1 q1 := by
  refine ⟨by rw [List.length_map]; exact hl, I, h0, fun i d acc G q hd hI => ?_, fun acc G q h => k acc G q (by rw [List.length_map] at h; exact h)⟩
  obtain ⟨x, hx, rfl, _⟩ := get_map hd
  exact hs i x acc G q hx hI
end
theorem keyW_depth (v : Wd) (h : Nat) (c : Cell) : (NestedKey.tup (keyW v h c)).depth ≤ 8 := by
  cases v <;> exact Nat.le_of_ble_eq_true rfl
theorem upTo_nat (n : Nat) : upTo (n : Int) = intD (List.range n) := rfl
def T_goes_by : FT := fun ks q Q => ∃ (d : PyData) (B : Bk) (v : Wd), ks = [.d d, .d (.str v.str)] ∧ fit 6 d = true ∧ tupN 6 d = bookD B ∧ Wf B ∧ Q (.d (.bool (goesB B v))) q
theorem can_goes_by (Bl : Blt mg) (F : Fn K mg "goes_by" s_goes_by ["book", "word"]) (C1 : Can P w K mg base 8 "tuple_of" ["thing"] (T_tuple_of 6)) (C2 : Can P w K mg base 1 "rows_of" ["book"] T_rows_of) (C3 : Can P w K mg base 1 "key_by" ["book", "word", "place", "row"] T_key_by) :
    Can P w K mg base 9 "goes_by" ["book", "word"] T_goes_by := by
  refine can_of F sc_goes_by (fun ks q Qf h => ?_) (D_goes_by Bl 8 C3 (by omega) C2 (by omega) C1 (by omega)).2 fun ks q Qf h => ?_
  · obtain ⟨_, _, _, rfl, _⟩ := h
    rfl
  · obtain ⟨d, B, v, rfl, hf, hd, W, h⟩ := h
    have hc := W.cells
    have hfew := W.few
    unfold D_goes_by
    dsimp only
    wtm_at "ph"
    refine ⟨d, rfl, hf, ?_⟩
    rw [hd]
    wtm_at "ph"
    refine ⟨B, rfl, by omega, ?_⟩
    wtm_at "ph"
    refine ⟨by omega, by omega, ?_⟩
    rw [upTo_nat]
    wtm_at "ph"
    refine r_bEqS .all rfl ?_
    wtm_at "ph"
    refine ⟨fun hv => ?_, fun hv => ?_⟩
    · have hv := of_decide_eq_true hv
      subst hv
      wtm_at "ph"
      exact h
    have hv := of_decide_eq_false hv
    wtm_at "ph"
    refine r_bEqS .nobody rfl ?_
    wtm_at "ph"
    refine ⟨fun hv2 => ?_, fun hv2 => ?_⟩
    · have hv2 := of_decide_eq_true hv2
      subst hv2
      wtm_at "ph"
      refine lc_map (f := fun c => .bool (decide (c.row.maps.1 = List.range B.hues.length) && decide (c.row.maps.2 = List.range B.hues.length))) (by omega) (fun c hc R R' hR => ?_) ?_
      · wtm_at "ph"
        by_cases e1 : c.row.maps.1 = List.range B.hues.length
        · have hR1 := fun G3 e => hR G3 e
          rw [decide_eq_true e1] at hR1 ⊢
          wtm_at "ph"
          exact hR1 _ rfl
        · have hR1 := fun G3 e => hR G3 e
          rw [decide_eq_false e1] at hR1 ⊢
          wtm_at "ph"
          exact hR1 _ rfl
      · wtm_at "ph"
        refine r_all ((cellsOf B).map fun c => decide (c.row.maps.1 = List.range B.hues.length) && decide (c.row.maps.2 = List.range B.hues.length)) (by rw [List.map_map]; rfl) ?_
        wtm_at "ph"
        rw [List.all_map]
        exact h
    have hv2 := of_decide_eq_false hv2
    wtm_at "ph"
    refine r_bEqS .blind rfl ?_
    wtm_at "ph"
    refine ⟨fun hv3 => ?_, fun hv3 => ?_⟩
    · have hv3 := of_decide_eq_true hv3
      subst hv3
      wtm_at "ph"
      refine lc_map (f := fun c => .bool (decide (c.row.maps.1 = c.row.maps.2))) (by omega) (fun c hc R R' hR => ?_) ?_
      · wtm_at "ph"
        exact hR _ rfl
      · wtm_at "ph"
        refine r_all ((cellsOf B).map fun c => decide (c.row.maps.1 = c.row.maps.2)) (by rw [List.map_map]; rfl) ?_
        wtm_at "ph"
        rw [List.all_map]
        exact h
    have hv3 := of_decide_eq_false hv3
    have hg : goesB B v = agree (evW B v) := by
      cases v <;> first
        | rfl
        | exact absurd rfl hv
        | exact absurd rfl hv2
        | exact absurd rfl hv3
    rw [hg] at h
    wtm_at "ph"
    refine .inl ?_
    wtm_at "ph"
    have eL : (evW B v).length = (cellsOf B).length := by unfold evW; rw [List.length_map]
    refine lc_st (fun i acc G q' => acc = ((evW B v).take i).map (fun p => .bool (decide (look (evW B v) p.1 = some p.2))) ∧ q' = q ∧ ∃ kvs, Tab (fun m => .tuple (mapsD m)) ((evW B v).take i) kvs ∧ kvs.length ≤ i ∧ G = [.d d, .d (.str v.str), .d (bookD B), .d (.list ((cellsOf B).map cellD)), .d (.tuple (intD (List.range B.hues.length))), .k kvs, .no, .no, .no]) (by omega) ⟨rfl, rfl, [], Tab.nil, Nat.le_refl _, rfl⟩ ?_ ?_
    · rintro i c acc G q' hx ⟨rfl, rfl, kvs, hT, hk, rfl⟩
      have hm : c ∈ cellsOf B := List.mem_of_getElem? hx
      have hi : i < (cellsOf B).length := (List.getElem?_eq_some_iff.mp hx).1
      have hx2 : (evW B v)[i]? = some (keyW v (hueOf B c) c, c.row.maps) := by
        unfold evW
        rw [List.getElem?_map, hx]; rfl
      have hlk := look_take hx2
      wtm_at "ph"
      refine ⟨⟨_, rfl⟩, ?_⟩
      wtm_at "ph"
      refine ⟨B, v, c, hueOf B c, rfl, W.hue hm, ?_⟩
      wtm_at "ph"
      refine ⟨_, kvs, _, rfl, keyW_depth _ _ _, rfl, by omega, fun z hz => ?_, fun hz => ?_⟩
      · rw [hT] at hz
        obtain ⟨m, hm1, rfl⟩ := Option.map_eq_some_iff.mp hz
        wtm_at "ph"
        refine ⟨?_, rfl, kvs, ?_, by omega, rfl⟩
        · rw [take_one hx2, List.map_append]
          rw [hm1] at hlk
          simp only [List.map_cons, List.map_nil, hlk]
          simp
        · rw [take_one hx2]
          exact hT.old hm1
      · rw [hT] at hz
        have hz : look ((evW B v).take i) (keyW v (hueOf B c) c) = none := Option.map_eq_none_iff.mp hz
        wtm_at "ph"
        refine ⟨?_, rfl, _, ?_, ?_, rfl⟩
        · rw [take_one hx2, List.map_append]
          rw [hz] at hlk
          simp only [List.map_cons, List.map_nil, hlk]
          simp
        · rw [take_one hx2]
          exact hT.new hz
        · have := put_len kvs (.tup (keyW v (hueOf B c) c)) (PyData.tuple (mapsD c.row.maps))
          omega
    · rintro acc G q' ⟨rfl, rfl, kvs, _, _, rfl⟩
      wtm_at "ph"
      rw [← eL, List.take_length]
      refine r_all ((evW B v).map fun p => decide (look (evW B v) p.1 = some p.2)) (by rw [List.map_map]; rfl) ?_
      wtm_at "ph"
      rw [List.all_map]
      exact h
end
end Ph

set_option Elab.async false
set_option linter.all false
set_option maxRecDepth 100000
set_option maxHeartbeats 4000000
namespace Ph
open PySem L2
local macro_rules | `(tactic| wtm_at "ph") => `(tactic| (repeat (first | (with_reducible refine r_ixBk3 ?_) | (with_reducible refine r_ixBk1 ?_) | (with_reducible refine r_row0 ?_) | (with_reducible refine r_row2 ?_) | (with_reducible refine r_row3 ?_) | (with_reducible refine r_pl0 ?_) | (with_reducible refine r_pl1 ?_) | (with_reducible refine r_pl2 ?_) | (with_reducible refine r_ce0 ?_) | (with_reducible refine r_ce1 ?_) | (with_reducible refine r_gCell ?_) | (with_reducible refine r_gPlace ?_) | (with_reducible refine r_slRow ?_) | (with_reducible refine r_slInt ?_) | (with_reducible refine r_slInt1 ?_) | (with_reducible refine r_exTab ?_) | (with_reducible refine r_exLine ?_) | (with_reducible refine r_numF ?_) | (with_reducible refine r_numFI ?_) | (with_reducible refine r_numL ?_) | (with_reducible refine r_numLI ?_) | (with_reducible refine r_lenI ?_) | (with_reducible refine r_bEqM ?_) | (with_reducible refine r_seq ?_) | (with_reducible refine r_next ?_) | (with_reducible refine r_asg ?_) | (with_reducible refine r_par ?_) | (with_reducible refine r_ret ?_) | (with_reducible refine r_ifS ?_) | (with_reducible refine r_C ?_) | (with_reducible refine r_fz ?_) | (with_reducible refine r_op ?_) | (with_reducible refine r_test ?_) | (with_reducible refine r_exB ?_) | (with_reducible refine r_and ?_) | (with_reducible refine r_not ?_) | (with_reducible refine r_neg ?_) | (with_reducible refine r_andT ?_) | (with_reducible refine r_orT ?_) | (with_reducible refine r_notT ?_) | (with_reducible refine r_if ?_) | (with_reducible refine r_nil ?_) | (with_reducible refine r_cons ?_) | (with_reducible refine r_dnil ?_) | (with_reducible refine r_dcons ?_) | (with_reducible refine r_tup ?_) | (with_reducible refine r_lst ?_) | (with_reducible refine r_call ?_) | (with_reducible refine r_isi ?_) | (with_reducible refine r_isi2 ?_) | (with_reducible refine r_exD ?_) | (with_reducible refine r_exI ?_) | (with_reducible refine r_tupRg ?_) | (with_reducible refine r_lstRg ?_) | (with_reducible refine r_sl ?_) | (with_reducible refine r_slT ?_) | (with_reducible refine r_slL ?_) | (with_reducible refine r_oNo ?_) | (with_reducible refine r_oI ?_) | (with_reducible refine r_fn ?_) | (with_reducible refine r_gName ?_) | (with_reducible refine r_gNil ?_) | (with_reducible refine r_gCons ?_) | (with_reducible refine r_iL ?_) | (with_reducible refine r_iT ?_) | (with_reducible refine r_iEL ?_) | (with_reducible refine r_iET ?_) | (with_reducible refine r_iLT ?_) | (with_reducible refine r_exLT_l ?_) | (with_reducible refine r_exLT_t ?_) | (with_reducible refine r_exL ?_) | (with_reducible refine r_exT ?_) | (with_reducible refine r_iR ?_) | (with_reducible refine r_iZ ?_) | (with_reducible refine r_exZt ?_) | (with_reducible refine r_exZl ?_) | (with_reducible refine r_idx ?_) | (with_reducible refine r_orL ?_) | (with_reducible refine r_disp ?_) | (with_reducible refine r_get ?_) | (with_reducible refine r_exS ?_) | (with_reducible refine r_exWD ?_) | (with_reducible refine r_back ?_) | (with_reducible refine r_lenSet ?_) | (with_reducible refine r_fnT ?_) | (with_reducible refine r_setO ?_) | (with_reducible refine r_tinSet ?_) | (with_reducible refine r_inD ?_) | (with_reducible refine r_par3 ?_) | (with_reducible refine r_ex3 ?_) | (with_reducible refine r_ex2 ?_) | (with_reducible refine r_yes ?_) | (with_reducible refine r_tt ?_) | (with_reducible refine r_ff ?_) | (with_reducible refine r_lc ?_) | (with_reducible refine r_for ?_) | (with_reducible refine r_int ?_) | (with_reducible refine r_intB ?_) | (with_reducible refine r_abs ?_) | (with_reducible refine r_isNn ?_) | (with_reducible refine r_isNb ?_) | (with_reducible refine r_isNi ?_) | (with_reducible refine r_isNs ?_) | (with_reducible refine r_bEqN ?_) | (with_reducible refine r_ft ?_) | (with_reducible refine r_tf ?_) | (with_reducible refine r_isN ?_) | ((with_reducible apply r_var); exact rfl) | ((with_reducible apply r_varT); exact rfl) | ((with_reducible apply r_varM); exact rfl) | ((with_reducible apply r_varS); exact rfl) | ((with_reducible apply r_lenO); exact rfl) | ((with_reducible apply r_len); exact rfl) | ((with_reducible apply r_tuple); exact rfl) | ((with_reducible apply r_list); exact rfl) | ((with_reducible apply r_ixT); exact rfl) | ((with_reducible apply r_ixL); exact rfl) | ((with_reducible apply r_gTup); exact rfl) | ((with_reducible apply r_fzS); exact rfl) | ((with_reducible apply r_ttE); exact rfl) | ((with_reducible apply r_ffE); exact rfl) | ((with_reducible apply r_ftE); exact rfl) | ((with_reducible apply r_tfE); exact rfl) | ((with_reducible apply r_app); exact ⟨_, rfl⟩) | ((with_reducible apply r_ixO); exact ⟨_, rfl⟩) | ((with_reducible apply r_ext); exact ⟨_, rfl⟩) | (with_reducible refine r_bEqS ?_) | (with_reducible refine r_bEqI ?_) | (with_reducible refine r_bEqT ?_) | (with_reducible refine r_bEqM ?_) | (with_reducible refine r_bEqB ?_) | (with_reducible refine r_bNeI ?_) | (with_reducible refine r_bNeT ?_) | (with_reducible refine r_bNeM ?_) | (with_reducible refine r_bNeB ?_) | ((with_reducible apply r_bI); first | exact trivial | omega | decide) | (refine ⟨Nat.le_of_ble_eq_true rfl, ?_⟩) | (dsimp only [frz]))))
section
variable {P : Program} {w : World} {K : PySem.W.Frag} {mg : Str → Option Value} {base : Heap}
/-! ## told_of -/
def words : List Wd := [.all, .blind, .flag, .letters, .nobody, .side]
def toldW (B : Bk) : List Wd := words.filter fun v => goesB B v
def wordsD (ws : List Wd) : List PyData := ws.map fun v => .str v.str
theorem d_words_eq : d_words = .tuple (words.map fun v => .str v.str) := rfl
def T_told_of : FT := fun ks q Q => ∃ (d : PyData) (B : Bk), ks = [.d d] ∧ fit 6 d = true ∧ tupN 6 d = bookD B ∧ Wf B ∧ Q (.d (.tuple (wordsD (toldW B)))) q
theorem can_told_of (Bl : Blt mg) (F : Fn K mg "told_of" s_told_of ["book"]) (Wg : GlD K mg "WORDS" d_words) (C1 : Can P w K mg base 9 "goes_by" ["book", "word"] T_goes_by) : Can P w K mg base 10 "told_of" ["book"] T_told_of := by
  refine can_of F sc_told_of (fun ks q Qf h => ?_) (D_told_of Bl 9 C1 (by omega) Wg).2 fun ks q Qf h => ?_
  · obtain ⟨_, _, rfl, _⟩ := h
    rfl
  · obtain ⟨d, B, rfl, hf, hd, W, h⟩ := h
    unfold D_told_of
    dsimp only
    wtm_at "ph"
    refine ⟨words.map fun v => .str v.str, rfl, ?_⟩
    refine lc_flt (f := fun v => .str v.str) (p := fun v => goesB B v) (by decide) (fun v hv R R' hR hR' => ?_) ?_
    · wtm_at "ph"
      refine ⟨d, B, v, rfl, hf, hd, W, ?_⟩
      wtm_at "ph"
      refine ⟨fun hg => ?_, fun hg => ?_⟩
      · wtm_at "ph"
        exact hR hg _ rfl
      · exact hR' hg _ rfl
    · wtm_at "ph"
      exact h
/-! ## _law_lines, _law_alike, _law_told -/
def T_law_lines : FT := fun ks q Q => ∃ B : Bk, ks = [.d (bookD B)] ∧ (cellsOf B).length ≤ 1000000 ∧ Q (.l ((cellsOf B).map cellD)) q
theorem can_law_lines (Bl : Blt mg) (F : Fn K mg "_law_lines" s_law_lines ["_law_book_so"]) : Can P w K mg base 1 "_law_lines" ["_law_book_so"] T_law_lines := by
  refine can_of F sc_law_lines (fun ks q Qf h => ?_) (D_law_lines Bl 0).2 fun ks q Qf h => ?_
  · obtain ⟨d, rfl, _⟩ := h
    rfl
  · obtain ⟨B, rfl, hlen, h⟩ := h
    unfold D_law_lines
    dsimp only
    wtm_at "ph"
    refine for_map (fun i G q' => q' = q ∧ ∃ a b c e, G = [.d (bookD B), .l ((((withIx B.rows).take i).flatMap fun p => cT p.1 p.2).map cellD), a, b, c, e, .no, .no]) ⟨rfl, _, _, _, _, rfl⟩ ?_ ?_
    · rintro i p1 G q' h1 ⟨rfl, a, b, c, e, rfl⟩
      wtm_at "ph"
      refine for_map (fun j G q2 => q2 = q' ∧ ∃ c e, G = [.d (bookD B), .l ((((withIx B.rows).take i).flatMap (fun p => cT p.1 p.2) ++ ((withIx p1.2).take j).flatMap fun q => cL p1.1 q.1 q.2).map cellD), .d (.int p1.1), .d (tabD p1.2), c, e, .no, .no]) ⟨rfl, c, e, by simp⟩ ?_ ?_
      · rintro j p2 G q2 h2 ⟨rfl, c, e, rfl⟩
        have hc := cells_in h1 h2
        wtm_at "ph"
        refine lc_map (f := fun p => cellD ⟨p1.1, p2.1, p.1, p.2⟩) ?_ (fun p3 h3 R R' hR => ?_) ?_
        · rw [cL_len] at hc
          omega
        · wtm_at "ph"
          exact hR _ rfl
        · refine r_catL ?_ ?_
          · rw [List.length_map, List.length_map]
            rw [cL_len] at hc
            omega
          · refine ⟨rfl, .d (.int p2.1), .d (lineD p2.2), ?_⟩
            rw [cells_next _ h2]
            rfl
      · rintro G q2 ⟨rfl, c, e, rfl⟩
        refine ⟨rfl, .d (.int p1.1), .d (tabD p1.2), c, e, ?_⟩
        rw [flat_one _ h1, List.take_length]
        rfl
    · rintro G q' ⟨rfl, a, b, c, e, rfl⟩
      wtm_at "ph"
      rw [List.take_length]
      exact h
end
end Ph

set_option Elab.async false
set_option linter.all false
set_option maxRecDepth 100000
set_option maxHeartbeats 4000000
namespace Ph
open PySem L2
local macro_rules | `(tactic| wtm_at "ph") => `(tactic| (repeat (first | (with_reducible refine r_ixBk3 ?_) | (with_reducible refine r_ixBk1 ?_) | (with_reducible refine r_row0 ?_) | (with_reducible refine r_row2 ?_) | (with_reducible refine r_row3 ?_) | (with_reducible refine r_pl0 ?_) | (with_reducible refine r_pl1 ?_) | (with_reducible refine r_pl2 ?_) | (with_reducible refine r_ce0 ?_) | (with_reducible refine r_ce1 ?_) | (with_reducible refine r_gCell ?_) | (with_reducible refine r_gPlace ?_) | (with_reducible refine r_slRow ?_) | (with_reducible refine r_slInt ?_) | (with_reducible refine r_slInt1 ?_) | (with_reducible refine r_exTab ?_) | (with_reducible refine r_exLine ?_) | (with_reducible refine r_numF ?_) | (with_reducible refine r_numFI ?_) | (with_reducible refine r_numL ?_) | (with_reducible refine r_numLI ?_) | (with_reducible refine r_lenI ?_) | (with_reducible refine r_bEqM ?_) | (with_reducible refine r_seq ?_) | (with_reducible refine r_next ?_) | (with_reducible refine r_asg ?_) | (with_reducible refine r_par ?_) | (with_reducible refine r_ret ?_) | (with_reducible refine r_ifS ?_) | (with_reducible refine r_C ?_) | (with_reducible refine r_fz ?_) | (with_reducible refine r_op ?_) | (with_reducible refine r_test ?_) | (with_reducible refine r_exB ?_) | (with_reducible refine r_and ?_) | (with_reducible refine r_not ?_) | (with_reducible refine r_neg ?_) | (with_reducible refine r_andT ?_) | (with_reducible refine r_orT ?_) | (with_reducible refine r_notT ?_) | (with_reducible refine r_if ?_) | (with_reducible refine r_nil ?_) | (with_reducible refine r_cons ?_) | (with_reducible refine r_dnil ?_) | (with_reducible refine r_dcons ?_) | (with_reducible refine r_tup ?_) | (with_reducible refine r_lst ?_) | (with_reducible refine r_call ?_) | (with_reducible refine r_isi ?_) | (with_reducible refine r_isi2 ?_) | (with_reducible refine r_exD ?_) | (with_reducible refine r_exI ?_) | (with_reducible refine r_tupRg ?_) | (with_reducible refine r_lstRg ?_) | (with_reducible refine r_sl ?_) | (with_reducible refine r_slT ?_) | (with_reducible refine r_slL ?_) | (with_reducible refine r_oNo ?_) | (with_reducible refine r_oI ?_) | (with_reducible refine r_fn ?_) | (with_reducible refine r_gName ?_) | (with_reducible refine r_gNil ?_) | (with_reducible refine r_gCons ?_) | (with_reducible refine r_iL ?_) | (with_reducible refine r_iT ?_) | (with_reducible refine r_iEL ?_) | (with_reducible refine r_iET ?_) | (with_reducible refine r_iLT ?_) | (with_reducible refine r_exLT_l ?_) | (with_reducible refine r_exLT_t ?_) | (with_reducible refine r_exL ?_) | (with_reducible refine r_exT ?_) | (with_reducible refine r_iR ?_) | (with_reducible refine r_iZ ?_) | (with_reducible refine r_exZt ?_) | (with_reducible refine r_exZl ?_) | (with_reducible refine r_idx ?_) | (with_reducible refine r_orL ?_) | (with_reducible refine r_disp ?_) | (with_reducible refine r_get ?_) | (with_reducible refine r_exS ?_) | (with_reducible refine r_exWD ?_) | (with_reducible refine r_back ?_) | (with_reducible refine r_lenSet ?_) | (with_reducible refine r_fnT ?_) | (with_reducible refine r_setO ?_) | (with_reducible refine r_tinSet ?_) | (with_reducible refine r_inD ?_) | (with_reducible refine r_par3 ?_) | (with_reducible refine r_ex3 ?_) | (with_reducible refine r_ex2 ?_) | (with_reducible refine r_yes ?_) | (with_reducible refine r_tt ?_) | (with_reducible refine r_ff ?_) | (with_reducible refine r_lc ?_) | (with_reducible refine r_for ?_) | (with_reducible refine r_int ?_) | (with_reducible refine r_intB ?_) | (with_reducible refine r_abs ?_) | (with_reducible refine r_isNn ?_) | (with_reducible refine r_isNb ?_) | (with_reducible refine r_isNi ?_) | (with_reducible refine r_isNs ?_) | (with_reducible refine r_bEqN ?_) | (with_reducible refine r_ft ?_) | (with_reducible refine r_tf ?_) | (with_reducible refine r_isN ?_) | ((with_reducible apply r_var); exact rfl) | ((with_reducible apply r_varT); exact rfl) | ((with_reducible apply r_varM); exact rfl) | ((with_reducible apply r_varS); exact rfl) | ((with_reducible apply r_lenO); exact rfl) | ((with_reducible apply r_len); exact rfl) | ((with_reducible apply r_tuple); exact rfl) | ((with_reducible apply r_list); exact rfl) | ((with_reducible apply r_ixT); exact rfl) | ((with_reducible apply r_ixL); exact rfl) | ((with_reducible apply r_gTup); exact rfl) | ((with_reducible apply r_fzS); exact rfl) | ((with_reducible apply r_ttE); exact rfl) | ((with_reducible apply r_ffE); exact rfl) | ((with_reducible apply r_ftE); exact rfl) | ((with_reducible apply r_tfE); exact rfl) | ((with_reducible apply r_app); exact ⟨_, rfl⟩) | ((with_reducible apply r_ixO); exact ⟨_, rfl⟩) | ((with_reducible apply r_ext); exact ⟨_, rfl⟩) | (with_reducible refine r_bEqS ?_) | (with_reducible refine r_bEqI ?_) | (with_reducible refine r_bEqT ?_) | (with_reducible refine r_bEqM ?_) | (with_reducible refine r_bEqB ?_) | (with_reducible refine r_bNeI ?_) | (with_reducible refine r_bNeT ?_) | (with_reducible refine r_bNeM ?_) | (with_reducible refine r_bNeB ?_) | ((with_reducible apply r_bI); first | exact trivial | omega | decide) | (refine ⟨Nat.le_of_ble_eq_true rfl, ?_⟩) | (dsimp only [frz]))))
section
variable {P : Program} {w : World} {K : PySem.W.Frag} {mg : Str → Option Value} {base : Heap}
/-! ## _law_alike -/
theorem look_first {κ β : Type} [DecidableEq κ] {L : List (κ × β)} {k : κ} {v : β} (h : look L k = some v) : ∃ j : Nat, L[j]? = some (k, v) ∧ ∀ (m : Nat) (z : κ × β), m < j → L[m]? = some z → z.1 ≠ k := by
  induction L with
  | nil => cases h
  | cons p r ih =>
    obtain ⟨i, x⟩ := p
    rw [look_cons] at h
    by_cases e : i = k
    · rw [if_pos e] at h
      refine ⟨0, ?_, fun m z hm => absurd hm (Nat.not_lt_zero _)⟩
      rw [← e, ← Option.some.inj h]; rfl
    · rw [if_neg e] at h
      obtain ⟨j, h1, h2⟩ := ih h
      refine ⟨j + 1, h1, fun m z hm hz => ?_⟩
      cases m with
      | zero =>
        have e2 : (i, x) = z := Option.some.inj hz
        rw [← e2]
        exact e
      | succ m => exact h2 m z (by omega) hz
def T_law_alike : FT := fun ks q Q => ∃ (cs : List Cell) (kd : Cell → PyData) (kf : Cell → List Nat), ks = [.d (.list (cs.map cellD)), .d (.list (cs.map kd))] ∧ cs.length ≤ 512 ∧ (∀ c ∈ cs, ∀ c' ∈ cs, PyData.eqv (kd c) (kd c') = decide (kf c = kf c')) ∧
  SeqAt.shaped (.list (cs.map kd)) = true ∧ (∀ c ∈ cs, SeqAt.shaped (kd c) = true) ∧ Q (.d (.bool (agree (cs.map fun c => (kf c, c.row.maps))))) q
theorem can_law_alike (Bl : Blt mg) (F : Fn K mg "_law_alike" s_law_alike ["_law_lines_so", "_law_keys_so"]) : Can P w K mg base 1 "_law_alike" ["_law_lines_so", "_law_keys_so"] T_law_alike := by
  refine can_of F sc_law_alike (fun ks q Qf h => ?_) (D_law_alike Bl 0).2 fun ks q Qf h => ?_
  · obtain ⟨_, _, _, rfl, _⟩ := h
    rfl
  · obtain ⟨cs, kd, kf, rfl, hl, he, s1, s2, h⟩ := h
    let E := cs.map fun c => (kf c, c.row.maps)
    have h : Qf (.d (.bool (agree E))) q := h
    unfold D_law_alike
    dsimp only
    wtm_at "ph"
    refine for_map (fun i G q' => q' = q ∧ (∀ p ∈ E.take i, look E p.1 = some p.2) ∧ ∃ a b c, G = [.d (.list (cs.map cellD)), .d (.list (cs.map kd)), a, b, c]) ⟨rfl, fun p hp => (by simp at hp), _, _, _, rfl⟩ ?_ ?_
    · rintro i p G q' hp ⟨rfl, hI, a, b, c, rfl⟩
      obtain ⟨hp1, hp2⟩ := withIx_get hp
      obtain ⟨ci, cc⟩ := p
      have hp1 : ci = i := hp1
      subst hp1
      have hp2 : cs[ci]? = some cc := hp2
      have hE : E[ci]? = some (kf cc, cc.row.maps) := by
        show (cs.map fun c => (kf c, c.row.maps))[ci]? = _
        rw [List.getElem?_map, hp2]; rfl
      have hm : cc ∈ cs := List.mem_of_getElem? hp2
      obtain ⟨v, hv⟩ := look_of (List.mem_of_getElem? hE)
      obtain ⟨j, hj, hno⟩ := look_first hv
      have hj' : (cs.map fun c => (kf c, c.row.maps))[j]? = some (kf cc, v) := hj
      rw [List.getElem?_map] at hj'
      obtain ⟨cj, hcj, ej⟩ := Option.map_eq_some_iff.mp hj'
      have ek : kf cj = kf cc := (Prod.mk.inj ej).1
      have ev : cj.row.maps = v := (Prod.mk.inj ej).2
      have hmj : cj ∈ cs := List.mem_of_getElem? hcj
      wtm_at "ph"
      refine ⟨kd cc, j, kd cj, rfl, s1, s2 cc hm, ?_, ?_, fun m z' hmj' hz' => ?_, ?_⟩
      · rw [List.getElem?_map, hcj]; rfl
      · rw [he cj hmj cc hm, ek]
        exact decide_eq_true rfl
      · rw [List.getElem?_map] at hz'
        obtain ⟨cm, hcm, em⟩ := Option.map_eq_some_iff.mp hz'
        rw [← em, he cm (List.mem_of_getElem? hcm) cc hm]
        refine decide_eq_false fun z => ?_
        refine hno m (kf cm, cm.row.maps) hmj' ?_ z
        show (cs.map fun c => (kf c, c.row.maps))[m]? = _
        rw [List.getElem?_map, hcm]; rfl
      · wtm_at "ph"
        refine r_ixL (atI_nat (by rw [List.getElem?_map, hcj]; rfl)) ?_
        wtm_at "ph"
        refine r_ixL (atI_nat (by rw [List.getElem?_map, hp2]; rfl)) ?_
        wtm_at "ph"
        refine ⟨fun hb => ?_, fun hb => ?_⟩
        · wtm_at "ph"
          have hne : ¬ cj.row.maps = cc.row.maps := by
            have := of_decide_eq_false (Bool.not_eq_true' _ |>.mp hb)
            exact this
          have hf : agree E = false := by
            cases ha : agree E with
            | false => rfl
            | true =>
              refine absurd (agree_iff.mp ha _ (List.mem_of_getElem? hj) _ (List.mem_of_getElem? hE) rfl) ?_
              rw [← ev]
              exact hne
          rw [hf] at h
          exact h
        · wtm_at "ph"
          have he2 : cj.row.maps = cc.row.maps := by
            have := of_decide_eq_true (Bool.not_eq_false' .. |>.mp hb)
            exact this
          refine ⟨rfl, fun p hp => ?_, _, _, _, rfl⟩
          rw [take_one hE] at hp
          rcases List.mem_append.mp hp with hp | hp
          · exact hI p hp
          · rw [List.mem_singleton.mp hp, hv, ← ev, he2]
    · rintro G q' ⟨rfl, hI, a, b, c, rfl⟩
      wtm_at "ph"
      have hlen : (withIx cs).length = E.length := by
        rw [withIx_len]
        show _ = (cs.map fun c => (kf c, c.row.maps)).length
        rw [List.length_map]
      rw [withIx_len] at hI
      have ht : agree E = true := by
        unfold agree
        rw [List.all_eq_true]
        intro p hp
        refine decide_eq_true (hI p ?_)
        rw [← withIx_len, hlen, List.take_length]
        exact hp
      rw [ht] at h
      exact h
/-! ## _law_told -/
section
variable {Qs : Sl → Prop} {α : Type} {L : List α}
theorem canLayAll_ones : ∀ L : List α, PyData.canLayAll0 (L.map fun _ => PyData.int 1) = true
  | [] => rfl
  | x :: xs => by rw [List.map_cons, PyData.canLayAll0, canLayAll_ones xs]; rfl
theorem depthAll_ones : ∀ L : List α, PyData.depthAll (L.map fun _ => PyData.int 1) = 0
  | [] => rfl
  | x :: xs => by rw [List.map_cons, PyData.depthAll, depthAll_ones xs]; rfl
theorem shaped_ones (L : List α) : SeqAt.shaped (.list (L.map fun _ => PyData.int 1)) = true := by
  unfold SeqAt.shaped
  rw [PyData.canLay0, PyData.depth, canLayAll_ones, depthAll_ones]
  rfl
theorem eqv_ones (L : List α) : PyData.eqv (.list (L.map fun _ => PyData.int 1)) (.list []) = L.isEmpty := by
  rw [PyData.eqv]
  cases L with
  | nil => rfl
  | cons x xs => rfl
theorem r_bEqNil (k : Qs (.d (.bool L.isEmpty))) : bEq (.d (.list (L.map fun _ => PyData.int 1))) (.d (.list [])) Qs := r_bEq (shaped_ones L) rfl (by rw [eqv_ones]; exact k)
theorem r_bNeNil (k : Qs (.d (.bool (!L.isEmpty)))) : bNe (.d (.list (L.map fun _ => PyData.int 1))) (.d (.list [])) Qs := r_bNe (shaped_ones L) rfl (by rw [eqv_ones]; exact k)
theorem filter_isEmpty (p : α → Bool) : ∀ L : List α, (L.filter p).isEmpty = L.all fun x => !p x
  | [] => rfl
  | x :: xs => by
    cases h : p x with
    | true => rw [List.filter_cons_of_pos h, List.all_cons, h]; rfl
    | false => rw [List.filter_cons_of_neg (by rw [h]; exact Bool.false_ne_true), List.all_cons, h, filter_isEmpty p xs]; rfl
theorem if_app {b : Bool} {us : ATS} {D : ADs} {rt : Sl → Nn → Prop} {G : List Sl} {q : Nn} {i : Nat} {y : PyData} {xs : List PyData} (h : G[i]? = some (.l xs)) (hl : xs.length ≤ 1000000) (k : us D (G.set i (.l (xs ++ if b = true then [y] else []))) q) :
    (b = true → aApp i (aC y) ⟨us D, rt⟩ G q) ∧ (b = false → aNext ⟨us D, rt⟩ G q) := by
  refine ⟨fun hb => ?_, fun hb => ?_⟩
  · subst hb
    exact ⟨⟨xs, h⟩, y, xs, rfl, h, hl, k⟩
  · subst hb
    have e : G.set i (.l (xs ++ [])) = G := by
      rw [List.append_nil]
      apply List.ext_getElem?
      intro j
      by_cases hj : i = j
      · subst hj
        have hi := (List.getElem?_eq_some_iff.mp h).1
        rw [List.getElem?_set_self hi, h]
      · rw [List.getElem?_set_ne hj]
    have k : us D (G.set i (.l (xs ++ []))) q := k
    rw [e] at k
    exact k
theorem agree_inj {κ κ' β : Type} [DecidableEq κ] [DecidableEq κ'] [DecidableEq β] {L : List α} {f : α → κ} {g : α → κ'} {m : α → β} (h : ∀ c ∈ L, ∀ c' ∈ L, f c = f c' ↔ g c = g c') : agree (L.map fun c => (f c, m c)) = agree (L.map fun c => (g c, m c)) := by
  rw [Bool.eq_iff_iff, agree_iff, agree_iff]
  constructor
  · rintro k p hp p' hp' e
    obtain ⟨c, hc, rfl⟩ := List.mem_map.mp hp
    obtain ⟨c', hc', rfl⟩ := List.mem_map.mp hp'
    exact k _ (List.mem_map.mpr ⟨c, hc, rfl⟩) _ (List.mem_map.mpr ⟨c', hc', rfl⟩) ((h c hc c' hc').mpr e)
  · rintro k p hp p' hp' e
    obtain ⟨c, hc, rfl⟩ := List.mem_map.mp hp
    obtain ⟨c', hc', rfl⟩ := List.mem_map.mp hp'
    exact k _ (List.mem_map.mpr ⟨c, hc, rfl⟩) _ (List.mem_map.mpr ⟨c', hc', rfl⟩) ((h c hc c' hc').mp e)
end
theorem canLayAll_of : ∀ {L : List PyData}, (∀ d ∈ L, d.canLay0 = true) → PyData.canLayAll0 L = true
  | [], _ => rfl
  | x :: xs, h => by rw [PyData.canLayAll0, h x List.mem_cons_self, canLayAll_of fun d hd => h d (List.mem_cons_of_mem _ hd)]; rfl
theorem depthAll_of {n : Nat} : ∀ {L : List PyData}, (∀ d ∈ L, d.depth ≤ n) → PyData.depthAll L ≤ n
  | [], _ => Nat.zero_le _
  | x :: xs, h => by
    rw [PyData.depthAll]
    exact Nat.max_le.mpr ⟨h x List.mem_cons_self, depthAll_of fun d hd => h d (List.mem_cons_of_mem _ hd)⟩
theorem shaped_keys {α : Type} {L : List α} {f : α → PyData} (h : ∀ c ∈ L, (f c).canLay0 = true ∧ (f c).depth ≤ 5) : SeqAt.shaped (.list (L.map f)) = true ∧ ∀ c ∈ L, SeqAt.shaped (f c) = true := by
  refine ⟨?_, fun c hc => ?_⟩
  · unfold SeqAt.shaped
    rw [PyData.canLay0, PyData.depth, canLayAll_of fun d hd => by obtain ⟨c, hc, rfl⟩ := List.mem_map.mp hd; exact (h c hc).1]
    have := depthAll_of (n := 5) (L := L.map f) fun d hd => by obtain ⟨c, hc, rfl⟩ := List.mem_map.mp hd; exact (h c hc).2
    rw [Bool.true_and]
    exact decide_eq_true (by omega)
  · unfold SeqAt.shaped
    rw [(h c hc).1, Bool.true_and]
    exact decide_eq_true (by have := (h c hc).2; omega)
theorem canLay_two (a b : Nat) : (PyData.tuple [.int a, .int b]).canLay0 = true ∧ (PyData.tuple [.int a, .int b]).depth ≤ 5 := ⟨rfl, Nat.le_of_ble_eq_true rfl⟩
theorem eqv_two (a b c d : Nat) : PyData.eqv (.tuple [.int a, .int b]) (.tuple [.int c, .int d]) = decide ([a, b] = [c, d]) := by
  rw [PyData.eqv]
  exact eqvAll_ints [a, b] [c, d]
theorem told_words (B : Bk) : wordsD (toldW B) = (((([PyData.str "all"] ++ if goesB B .blind = true then [PyData.str "blind"] else []) ++ if goesB B .flag = true then [PyData.str "flag"] else []) ++ if goesB B .letters = true then [PyData.str "letters"] else []) ++ if goesB B .nobody = true then [PyData.str "nobody"] else []) ++ if goesB B .side = true then [PyData.str "side"] else [] := by
  unfold toldW words wordsD
  have e : goesB B .all = true := rfl
  rw [List.filter_cons_of_pos e]
  simp only [List.filter_cons]
  cases goesB B .blind <;> cases goesB B .flag <;> cases goesB B .letters <;> cases goesB B .nobody <;> cases goesB B .side <;> rfl
def T_law_told : FT := fun ks q Q => ∃ B : Bk, ks = [.d (bookD B)] ∧ Wf B ∧ Q (.d (.tuple (wordsD (toldW B)))) q
set_option maxHeartbeats 16000000 in
theorem can_law_told (Bl : Blt mg) (F : Fn K mg "_law_told" s_law_told ["_law_book_so"]) (C1 : Can P w K mg base 1 "_law_alike" ["_law_lines_so", "_law_keys_so"] T_law_alike) (C2 : Can P w K mg base 1 "_law_lines" ["_law_book_so"] T_law_lines) : Can P w K mg base 2 "_law_told" ["_law_book_so"] T_law_told := by
  refine can_of F sc_law_told (fun ks q Qf h => ?_) (D_law_told Bl 1 C1 (by omega) C2 (by omega)).2 fun ks q Qf h => ?_
  · obtain ⟨_, rfl, _⟩ := h
    rfl
  · obtain ⟨B, rfl, W, h⟩ := h
    have hc := W.cells
    have hfew := W.few
    rw [told_words] at h
    unfold D_law_told
    dsimp only
    wtm_at "ph"
    refine ⟨B, rfl, by omega, ?_⟩
    wtm_at "ph"
    refine ⟨by omega, by omega, ?_⟩
    rw [upTo_nat]
    wtm_at "ph"
    -- blind
    refine lc_flt (f := fun _ => .int 1) (p := fun c => !decide (c.row.maps.1 = c.row.maps.2)) (by omega) (fun c hc R R' hR hR' => ?_) ?_
    · wtm_at "ph"
      refine ⟨fun hb => ?_, fun hb => hR' hb _ rfl⟩
      wtm_at "ph"
      exact hR hb _ rfl
    wtm_at "ph"
    refine r_bEqNil ?_
    wtm_at "ph"
    have e1 : ((cellsOf B).filter fun c => !decide (c.row.maps.1 = c.row.maps.2)).isEmpty = goesB B .blind := by
      rw [filter_isEmpty]
      simp only [Bool.not_not]
      rfl
    rw [e1]
    refine if_app rfl (Nat.le_of_ble_eq_true rfl) ?_
    -- flag
    wtm_at "ph"
    refine lc_map (f := fun c => .tuple [.int c.flag, .int c.row.later]) (by omega) (fun c hc R R' hR => ?_) ?_
    · wtm_at "ph"
      exact hR _ rfl
    wtm_at "ph"
    have s1 := shaped_keys (L := cellsOf B) (f := fun c => .tuple [.int c.flag, .int c.row.later]) fun c _ => canLay_two _ _
    refine ⟨cellsOf B, _, fun c => [c.flag, c.row.later], rfl, hc, fun c _ c' _ => eqv_two _ _ _ _, s1.1, s1.2, ?_⟩
    wtm_at "ph"
    have e2 : agree ((cellsOf B).map fun c => ([c.flag, c.row.later], c.row.maps)) = goesB B .flag := by
      show _ = agree ((cellsOf B).map fun c => (keyW .flag (hueOf B c) c, c.row.maps))
      refine agree_inj fun c _ c' _ => ?_
      simp [keyW]
      omega
    rw [e2]
    refine if_app rfl (by split <;> exact Nat.le_of_ble_eq_true rfl) ?_
    -- letters
    wtm_at "ph"
    refine lc_map (f := fun c => .tuple [.int (hueOf B c), .int c.letter]) (by omega) (fun c hc R R' hR => ?_) ?_
    · wtm_at "ph"
      refine r_ixT (atI_ints (W.hue hc)) ?_
      wtm_at "ph"
      exact hR _ rfl
    wtm_at "ph"
    have s2 := shaped_keys (L := cellsOf B) (f := fun c => .tuple [.int (hueOf B c), .int c.letter]) fun c _ => canLay_two _ _
    refine ⟨cellsOf B, _, fun c => [hueOf B c, c.letter], rfl, hc, fun c _ c' _ => eqv_two _ _ _ _, s2.1, s2.2, ?_⟩
    wtm_at "ph"
    have e3 : agree ((cellsOf B).map fun c => ([hueOf B c, c.letter], c.row.maps)) = goesB B .letters := by
      show _ = agree ((cellsOf B).map fun c => (keyW .letters (hueOf B c) c, c.row.maps))
      refine agree_inj fun c _ c' _ => ?_
      simp [keyW]
      omega
    rw [e3]
    refine if_app rfl (by split <;> split <;> exact Nat.le_of_ble_eq_true rfl) ?_
    -- nobody
    wtm_at "ph"
    refine lc_flt (f := fun _ => .int 1) (p := fun c => !decide (c.row.maps.1 = List.range B.hues.length) || !decide (c.row.maps.2 = List.range B.hues.length)) (by omega) (fun c hc R R' hR hR' => ?_) ?_
    · wtm_at "ph"
      by_cases h1 : c.row.maps.1 = List.range B.hues.length
      · rw [decide_eq_true h1] at hR hR' ⊢
        refine ⟨fun _ => ?_, fun hb => (nomatch hb)⟩
        wtm_at "ph"
        refine ⟨fun hb => ?_, fun hb => ?_⟩
        · wtm_at "ph"
          exact hR hb _ rfl
        · exact hR' hb _ rfl
      · rw [decide_eq_false h1] at hR hR' ⊢
        refine ⟨fun hb => (nomatch hb), fun _ => ?_⟩
        wtm_at "ph"
        exact hR rfl _ rfl
    wtm_at "ph"
    refine r_bEqNil ?_
    wtm_at "ph"
    have e4 : ((cellsOf B).filter fun c => !decide (c.row.maps.1 = List.range B.hues.length) || !decide (c.row.maps.2 = List.range B.hues.length)).isEmpty = goesB B .nobody := by
      rw [filter_isEmpty]
      simp only [Bool.not_or, Bool.not_not]
      rfl
    rw [e4]
    refine if_app rfl (by split <;> split <;> split <;> exact Nat.le_of_ble_eq_true rfl) ?_
    -- side
    wtm_at "ph"
    refine lc_map (f := fun c => .int 0) (by omega) (fun c hc R R' hR => ?_) ?_
    · wtm_at "ph"
      exact hR _ rfl
    wtm_at "ph"
    have s3 := shaped_keys (L := cellsOf B) (f := fun c => .int 0) fun c _ => ⟨rfl, Nat.le_of_ble_eq_true rfl⟩
    refine ⟨cellsOf B, _, fun c => [], rfl, hc, fun c _ c' _ => rfl, s3.1, s3.2, ?_⟩
    wtm_at "ph"
    have e5 : agree ((cellsOf B).map fun c => (([] : List Nat), c.row.maps)) = goesB B .side := by
      show _ = agree ((cellsOf B).map fun c => (keyW .side (hueOf B c) c, c.row.maps))
      refine agree_inj fun c _ c' _ => ?_
      simp [keyW]
    rw [e5]
    refine if_app rfl (by split <;> split <;> split <;> split <;> exact Nat.le_of_ble_eq_true rfl) ?_
    wtm_at "ph"
    exact h
end
end Ph

set_option Elab.async false
set_option linter.all false
set_option maxRecDepth 100000
set_option maxHeartbeats 4000000
namespace Ph
open PySem L2
local macro_rules | `(tactic| wtm_at "ph") => `(tactic| (repeat (first | (with_reducible refine r_ixBk3 ?_) | (with_reducible refine r_ixBk1 ?_) | (with_reducible refine r_row0 ?_) | (with_reducible refine r_row2 ?_) | (with_reducible refine r_row3 ?_) | (with_reducible refine r_pl0 ?_) | (with_reducible refine r_pl1 ?_) | (with_reducible refine r_pl2 ?_) | (with_reducible refine r_ce0 ?_) | (with_reducible refine r_ce1 ?_) | (with_reducible refine r_gCell ?_) | (with_reducible refine r_gPlace ?_) | (with_reducible refine r_slRow ?_) | (with_reducible refine r_slInt ?_) | (with_reducible refine r_slInt1 ?_) | (with_reducible refine r_exTab ?_) | (with_reducible refine r_exLine ?_) | (with_reducible refine r_numF ?_) | (with_reducible refine r_numFI ?_) | (with_reducible refine r_numL ?_) | (with_reducible refine r_numLI ?_) | (with_reducible refine r_lenI ?_) | (with_reducible refine r_bEqM ?_) | (with_reducible refine r_seq ?_) | (with_reducible refine r_next ?_) | (with_reducible refine r_asg ?_) | (with_reducible refine r_par ?_) | (with_reducible refine r_ret ?_) | (with_reducible refine r_ifS ?_) | (with_reducible refine r_C ?_) | (with_reducible refine r_fz ?_) | (with_reducible refine r_op ?_) | (with_reducible refine r_test ?_) | (with_reducible refine r_exB ?_) | (with_reducible refine r_and ?_) | (with_reducible refine r_not ?_) | (with_reducible refine r_neg ?_) | (with_reducible refine r_andT ?_) | (with_reducible refine r_orT ?_) | (with_reducible refine r_notT ?_) | (with_reducible refine r_if ?_) | (with_reducible refine r_nil ?_) | (with_reducible refine r_cons ?_) | (with_reducible refine r_dnil ?_) | (with_reducible refine r_dcons ?_) | (with_reducible refine r_tup ?_) | (with_reducible refine r_lst ?_) | (with_reducible refine r_call ?_) | (with_reducible refine r_isi ?_) | (with_reducible refine r_isi2 ?_) | (with_reducible refine r_exD ?_) | (with_reducible refine r_exI ?_) | (with_reducible refine r_tupRg ?_) | (with_reducible refine r_lstRg ?_) | (with_reducible refine r_sl ?_) | (with_reducible refine r_slT ?_) | (with_reducible refine r_slL ?_) | (with_reducible refine r_oNo ?_) | (with_reducible refine r_oI ?_) | (with_reducible refine r_fn ?_) | (with_reducible refine r_gName ?_) | (with_reducible refine r_gNil ?_) | (with_reducible refine r_gCons ?_) | (with_reducible refine r_iL ?_) | (with_reducible refine r_iT ?_) | (with_reducible refine r_iEL ?_) | (with_reducible refine r_iET ?_) | (with_reducible refine r_iLT ?_) | (with_reducible refine r_exLT_l ?_) | (with_reducible refine r_exLT_t ?_) | (with_reducible refine r_exL ?_) | (with_reducible refine r_exT ?_) | (with_reducible refine r_iR ?_) | (with_reducible refine r_iZ ?_) | (with_reducible refine r_exZt ?_) | (with_reducible refine r_exZl ?_) | (with_reducible refine r_idx ?_) | (with_reducible refine r_orL ?_) | (with_reducible refine r_disp ?_) | (with_reducible refine r_get ?_) | (with_reducible refine r_exS ?_) | (with_reducible refine r_exWD ?_) | (with_reducible refine r_back ?_) | (with_reducible refine r_lenSet ?_) | (with_reducible refine r_fnT ?_) | (with_reducible refine r_setO ?_) | (with_reducible refine r_tinSet ?_) | (with_reducible refine r_inD ?_) | (with_reducible refine r_par3 ?_) | (with_reducible refine r_ex3 ?_) | (with_reducible refine r_ex2 ?_) | (with_reducible refine r_yes ?_) | (with_reducible refine r_tt ?_) | (with_reducible refine r_ff ?_) | (with_reducible refine r_lc ?_) | (with_reducible refine r_for ?_) | (with_reducible refine r_int ?_) | (with_reducible refine r_intB ?_) | (with_reducible refine r_abs ?_) | (with_reducible refine r_isNn ?_) | (with_reducible refine r_isNb ?_) | (with_reducible refine r_isNi ?_) | (with_reducible refine r_isNs ?_) | (with_reducible refine r_bEqN ?_) | (with_reducible refine r_ft ?_) | (with_reducible refine r_tf ?_) | (with_reducible refine r_isN ?_) | ((with_reducible apply r_var); exact rfl) | ((with_reducible apply r_varT); exact rfl) | ((with_reducible apply r_varM); exact rfl) | ((with_reducible apply r_varS); exact rfl) | ((with_reducible apply r_lenO); exact rfl) | ((with_reducible apply r_len); exact rfl) | ((with_reducible apply r_tuple); exact rfl) | ((with_reducible apply r_list); exact rfl) | ((with_reducible apply r_ixT); exact rfl) | ((with_reducible apply r_ixL); exact rfl) | ((with_reducible apply r_gTup); exact rfl) | ((with_reducible apply r_fzS); exact rfl) | ((with_reducible apply r_ttE); exact rfl) | ((with_reducible apply r_ffE); exact rfl) | ((with_reducible apply r_ftE); exact rfl) | ((with_reducible apply r_tfE); exact rfl) | ((with_reducible apply r_app); exact ⟨_, rfl⟩) | ((with_reducible apply r_ixO); exact ⟨_, rfl⟩) | ((with_reducible apply r_ext); exact ⟨_, rfl⟩) | (with_reducible refine r_bEqS ?_) | (with_reducible refine r_bEqI ?_) | (with_reducible refine r_bEqT ?_) | (with_reducible refine r_bEqM ?_) | (with_reducible refine r_bEqB ?_) | (with_reducible refine r_bNeI ?_) | (with_reducible refine r_bNeT ?_) | (with_reducible refine r_bNeM ?_) | (with_reducible refine r_bNeB ?_) | ((with_reducible apply r_bI); first | exact trivial | omega | decide) | (refine ⟨Nat.le_of_ble_eq_true rfl, ?_⟩) | (dsimp only [frz]))))
section
variable {P : Program} {w : World} {K : PySem.W.Frag} {mg : Str → Option Value} {base : Heap}
def T_law_lists (n : Nat) : FT := fun ks q Q => ∃ d, ks = [.d d] ∧ fit n d = true ∧ Q (.d (lstN n d)) q
theorem can_law_lists (Bl : Blt mg) (F : Fn K mg "_law_lists" s_law_lists ["_law_matter"]) : ∀ n, Can P w K mg base (n + 2) "_law_lists" ["_law_matter"] (T_law_lists n) := by
  have step : ∀ n T, Can P w K mg base (n + 1) "_law_lists" ["_law_matter"] T → (∀ xs : List PyData, ∀ x ∈ xs, fit n (.list xs) = true ∨ fit n (.tuple xs) = true → ∀ q Q, Q (.d (lstN (n - 1) x)) q → T [.d x] q Q) → Can P w K mg base (n + 2) "_law_lists" ["_law_matter"] (T_law_lists n) := by
    intro n T C hT
    refine can_of F sc_law_lists (fun ks q Qf h => ?_) (D_law_lists Bl (n + 1) C (Nat.le_refl _)).2 fun ks q Qf h => ?_
    · obtain ⟨d, rfl, _⟩ := h
      rfl
    · obtain ⟨d, rfl, hf, h⟩ := h
      unfold D_law_lists
      dsimp only
      wtm_at "ph"
      cases d with
      | none =>
        try rw [isB_list_nonetype, isB_tuple_nonetype, Bool.or_false]
        wtm_at "ph"
        cases n <;> exact h
      | bool b =>
        try rw [isB_list_bool, isB_tuple_bool, Bool.or_false]
        wtm_at "ph"
        cases n <;> exact h
      | int b =>
        try rw [isB_list_int, isB_tuple_int, Bool.or_false]
        wtm_at "ph"
        cases n <;> exact h
      | str b =>
        try rw [isB_list_str, isB_tuple_str, Bool.or_false]
        wtm_at "ph"
        cases n <;> exact h
      | dict kvs => cases n <;> cases hf
      | list xs =>
        try rw [isB_list_list, Bool.true_or]
        wtm_at "ph"
        have hl : xs.length ≤ 1000000 := by
          cases n with
          | zero => cases hf
          | succ n => exact of_decide_eq_true (Bool.and_eq_true_iff.mp hf).1
        rw [show LcK xs = LcK (xs.map id) by rw [List.map_id]]
        refine lc_map (f := lstN (n - 1)) hl (fun x hx R R' hR => ?_) ?_
        · wtm_at "ph"
          refine hT xs x hx (.inl hf) _ _ ?_
          exact hR _ rfl
        · wtm_at "ph"
          cases n with
          | zero => cases hf
          | succ n => exact h
      | tuple xs =>
        try rw [isB_list_tuple, isB_tuple_tuple, Bool.or_true]
        wtm_at "ph"
        have hl : xs.length ≤ 1000000 := by
          cases n with
          | zero => cases hf
          | succ n => exact of_decide_eq_true (Bool.and_eq_true_iff.mp hf).1
        rw [show LcK xs = LcK (xs.map id) by rw [List.map_id]]
        refine lc_map (f := lstN (n - 1)) hl (fun x hx R R' hR => ?_) ?_
        · wtm_at "ph"
          refine hT xs x hx (.inr hf) _ _ ?_
          exact hR _ rfl
        · wtm_at "ph"
          cases n with
          | zero => cases hf
          | succ n => exact h
  intro n
  induction n with
  | zero => exact step 0 _ (can_no F sc_law_lists) fun xs x hx h q Q k => by rcases h with h | h <;> cases h
  | succ n ih =>
    refine step (n + 1) _ ih fun xs x hx h q Q k => ⟨x, rfl, ?_, k⟩
    rcases h with h | h <;> exact List.all_eq_true.mp (Bool.and_eq_true_iff.mp h).2 x hx
theorem zip_self (xs : List PyData) : zipD xs xs = xs.map fun x => .tuple [x, x] := by
  unfold zipD
  induction xs with
  | nil => rfl
  | cons x xs ih => rw [List.zipWith_cons_cons, List.map_cons, ih]
def T_law_same (n : Nat) : FT := fun ks q Q => ∃ d, ks = [.d d, .d d] ∧ fit n d = true ∧ Q (.d (.bool true)) q
theorem can_law_same (Bl : Blt mg) (F : Fn K mg "_law_same" s_law_same ["_law_got", "_law_due"]) : ∀ n, Can P w K mg base (n + 2) "_law_same" ["_law_got", "_law_due"] (T_law_same n) := by
  have step : ∀ n T, Can P w K mg base (n + 1) "_law_same" ["_law_got", "_law_due"] T → (∀ xs : List PyData, ∀ x ∈ xs, fit n (.list xs) = true ∨ fit n (.tuple xs) = true → ∀ q Q, Q (.d (.bool true)) q → T [.d x, .d x] q Q) → Can P w K mg base (n + 2) "_law_same" ["_law_got", "_law_due"] (T_law_same n) := by
    intro n T C hT
    refine can_of F sc_law_same (fun ks q Qf h => ?_) (D_law_same Bl (n + 1) C (Nat.le_refl _)).2 fun ks q Qf h => ?_
    · obtain ⟨d, rfl, _⟩ := h
      rfl
    · obtain ⟨d, rfl, hf, h⟩ := h
      unfold D_law_same
      dsimp only
      wtm_at "ph"
      cases d with
      | none =>
        try rw [isB_list_nonetype, isB_tuple_nonetype, Bool.or_false]
        wtm_at "ph"
        try rw [isB_bool_nonetype]
        wtm_at "ph"
        exact h
      | bool b =>
        try rw [isB_list_bool, isB_tuple_bool, Bool.or_false]
        wtm_at "ph"
        try rw [isB_bool_bool, Bool.true_or]
        wtm_at "ph"
        try rw [beq_self_eq_true]
        wtm_at "ph"
        try rw [isB_bool_bool]
        wtm_at "ph"
        exact h
      | int b =>
        try rw [isB_list_int, isB_tuple_int, Bool.or_false]
        wtm_at "ph"
        try rw [isB_bool_int, isB_str_int, Bool.or_false]
        wtm_at "ph"
        try rw [isB_int_int]
        wtm_at "ph"
        try rw [isB_bool_int]
        wtm_at "ph"
        try rw [decide_eq_true rfl]
        exact h
      | str b =>
        try rw [isB_list_str, isB_tuple_str, Bool.or_false]
        wtm_at "ph"
        try rw [isB_bool_str, isB_str_str, Bool.or_true]
        wtm_at "ph"
        have hs : SeqAt.shaped (.str b) = true := by
          have : PyData.canLay0 (.str b) = true := by cases n <;> exact hf
          unfold SeqAt.shaped
          rw [this]
          rfl
        refine r_bEq hs hs ?_
        wtm_at "ph"
        rw [show PyData.eqv (.str b) (.str b) = true by rw [PyData.eqv, beq_self_eq_true]]
        wtm_at "ph"
        try rw [isB_bool_str]
        wtm_at "ph"
        exact h
      | dict kvs => cases n <;> cases hf
      | list xs =>
        try rw [isB_list_list, Bool.true_or]
        wtm_at "ph"
        try rw [isB_list_list]
        wtm_at "ph"
        try rw [isB_tuple_list]
        wtm_at "ph"
        try rw [decide_eq_true rfl]
        wtm_at "ph"
        have hl : xs.length ≤ 1000000 := by
          cases n with
          | zero => cases hf
          | succ n => exact of_decide_eq_true (Bool.and_eq_true_iff.mp hf).1
        rw [zip_self]
        refine lc_map (f := fun _ => .bool true) hl (fun x hx R R' hR => ?_) ?_
        · wtm_at "ph"
          refine hT xs x hx (.inl hf) _ _ ?_
          exact hR _ rfl
        · wtm_at "ph"
          refine r_all (xs.map fun _ => true) (by rw [List.map_map]; rfl) ?_
          have e : (xs.map fun _ => true).all id = true := by rw [List.all_map]; exact List.all_eq_true.mpr fun _ _ => rfl
          rw [e]
          exact h
      | tuple xs =>
        try rw [isB_list_tuple, isB_tuple_tuple, Bool.or_true]
        wtm_at "ph"
        try rw [isB_list_tuple]
        wtm_at "ph"
        try rw [isB_tuple_tuple]
        wtm_at "ph"
        try rw [decide_eq_true rfl]
        wtm_at "ph"
        have hl : xs.length ≤ 1000000 := by
          cases n with
          | zero => cases hf
          | succ n => exact of_decide_eq_true (Bool.and_eq_true_iff.mp hf).1
        rw [zip_self]
        refine lc_map (f := fun _ => .bool true) hl (fun x hx R R' hR => ?_) ?_
        · wtm_at "ph"
          refine hT xs x hx (.inr hf) _ _ ?_
          exact hR _ rfl
        · wtm_at "ph"
          refine r_all (xs.map fun _ => true) (by rw [List.map_map]; rfl) ?_
          have e : (xs.map fun _ => true).all id = true := by rw [List.all_map]; exact List.all_eq_true.mpr fun _ _ => rfl
          rw [e]
          exact h
  intro n
  induction n with
  | zero => exact step 0 _ (can_no F sc_law_same) fun xs x hx h q Q k => by rcases h with h | h <;> cases h
  | succ n ih =>
    refine step (n + 1) _ ih fun xs x hx h q Q k => ⟨x, rfl, ?_, k⟩
    rcases h with h | h <;> exact List.all_eq_true.mp (Bool.and_eq_true_iff.mp h).2 x hx
end
end Ph

set_option Elab.async false
set_option linter.all false
set_option maxRecDepth 100000
set_option maxHeartbeats 4000000
namespace Ph
open PySem L2
local macro_rules | `(tactic| wtm_at "ph") => `(tactic| (repeat (first | (with_reducible refine r_ixBk3 ?_) | (with_reducible refine r_ixBk1 ?_) | (with_reducible refine r_row0 ?_) | (with_reducible refine r_row2 ?_) | (with_reducible refine r_row3 ?_) | (with_reducible refine r_pl0 ?_) | (with_reducible refine r_pl1 ?_) | (with_reducible refine r_pl2 ?_) | (with_reducible refine r_ce0 ?_) | (with_reducible refine r_ce1 ?_) | (with_reducible refine r_gCell ?_) | (with_reducible refine r_gPlace ?_) | (with_reducible refine r_slRow ?_) | (with_reducible refine r_slInt ?_) | (with_reducible refine r_slInt1 ?_) | (with_reducible refine r_exTab ?_) | (with_reducible refine r_exLine ?_) | (with_reducible refine r_numF ?_) | (with_reducible refine r_numFI ?_) | (with_reducible refine r_numL ?_) | (with_reducible refine r_numLI ?_) | (with_reducible refine r_lenI ?_) | (with_reducible refine r_bEqM ?_) | (with_reducible refine r_seq ?_) | (with_reducible refine r_next ?_) | (with_reducible refine r_asg ?_) | (with_reducible refine r_par ?_) | (with_reducible refine r_ret ?_) | (with_reducible refine r_ifS ?_) | (with_reducible refine r_C ?_) | (with_reducible refine r_fz ?_) | (with_reducible refine r_op ?_) | (with_reducible refine r_test ?_) | (with_reducible refine r_exB ?_) | (with_reducible refine r_and ?_) | (with_reducible refine r_not ?_) | (with_reducible refine r_neg ?_) | (with_reducible refine r_andT ?_) | (with_reducible refine r_orT ?_) | (with_reducible refine r_notT ?_) | (with_reducible refine r_if ?_) | (with_reducible refine r_nil ?_) | (with_reducible refine r_cons ?_) | (with_reducible refine r_dnil ?_) | (with_reducible refine r_dcons ?_) | (with_reducible refine r_tup ?_) | (with_reducible refine r_lst ?_) | (with_reducible refine r_call ?_) | (with_reducible refine r_isi ?_) | (with_reducible refine r_isi2 ?_) | (with_reducible refine r_exD ?_) | (with_reducible refine r_exI ?_) | (with_reducible refine r_tupRg ?_) | (with_reducible refine r_lstRg ?_) | (with_reducible refine r_sl ?_) | (with_reducible refine r_slT ?_) | (with_reducible refine r_slL ?_) | (with_reducible refine r_oNo ?_) | (with_reducible refine r_oI ?_) | (with_reducible refine r_fn ?_) | (with_reducible refine r_gName ?_) | (with_reducible refine r_gNil ?_) | (with_reducible refine r_gCons ?_) | (with_reducible refine r_iL ?_) | (with_reducible refine r_iT ?_) | (with_reducible refine r_iEL ?_) | (with_reducible refine r_iET ?_) | (with_reducible refine r_iLT ?_) | (with_reducible refine r_exLT_l ?_) | (with_reducible refine r_exLT_t ?_) | (with_reducible refine r_exL ?_) | (with_reducible refine r_exT ?_) | (with_reducible refine r_iR ?_) | (with_reducible refine r_iZ ?_) | (with_reducible refine r_exZt ?_) | (with_reducible refine r_exZl ?_) | (with_reducible refine r_idx ?_) | (with_reducible refine r_orL ?_) | (with_reducible refine r_disp ?_) | (with_reducible refine r_get ?_) | (with_reducible refine r_exS ?_) | (with_reducible refine r_exWD ?_) | (with_reducible refine r_back ?_) | (with_reducible refine r_lenSet ?_) | (with_reducible refine r_fnT ?_) | (with_reducible refine r_setO ?_) | (with_reducible refine r_tinSet ?_) | (with_reducible refine r_inD ?_) | (with_reducible refine r_par3 ?_) | (with_reducible refine r_ex3 ?_) | (with_reducible refine r_ex2 ?_) | (with_reducible refine r_yes ?_) | (with_reducible refine r_tt ?_) | (with_reducible refine r_ff ?_) | (with_reducible refine r_lc ?_) | (with_reducible refine r_for ?_) | (with_reducible refine r_int ?_) | (with_reducible refine r_intB ?_) | (with_reducible refine r_abs ?_) | (with_reducible refine r_isNn ?_) | (with_reducible refine r_isNb ?_) | (with_reducible refine r_isNi ?_) | (with_reducible refine r_isNs ?_) | (with_reducible refine r_bEqN ?_) | (with_reducible refine r_ft ?_) | (with_reducible refine r_tf ?_) | (with_reducible refine r_isN ?_) | ((with_reducible apply r_var); exact rfl) | ((with_reducible apply r_varT); exact rfl) | ((with_reducible apply r_varM); exact rfl) | ((with_reducible apply r_varS); exact rfl) | ((with_reducible apply r_lenO); exact rfl) | ((with_reducible apply r_len); exact rfl) | ((with_reducible apply r_tuple); exact rfl) | ((with_reducible apply r_list); exact rfl) | ((with_reducible apply r_ixT); exact rfl) | ((with_reducible apply r_ixL); exact rfl) | ((with_reducible apply r_gTup); exact rfl) | ((with_reducible apply r_fzS); exact rfl) | ((with_reducible apply r_ttE); exact rfl) | ((with_reducible apply r_ffE); exact rfl) | ((with_reducible apply r_ftE); exact rfl) | ((with_reducible apply r_tfE); exact rfl) | ((with_reducible apply r_app); exact ⟨_, rfl⟩) | ((with_reducible apply r_ixO); exact ⟨_, rfl⟩) | ((with_reducible apply r_ext); exact ⟨_, rfl⟩) | (with_reducible refine r_bEqS ?_) | (with_reducible refine r_bEqI ?_) | (with_reducible refine r_bEqT ?_) | (with_reducible refine r_bEqM ?_) | (with_reducible refine r_bEqB ?_) | (with_reducible refine r_bNeI ?_) | (with_reducible refine r_bNeT ?_) | (with_reducible refine r_bNeM ?_) | (with_reducible refine r_bNeB ?_) | ((with_reducible apply r_bI); first | exact trivial | omega | decide) | (refine ⟨Nat.le_of_ble_eq_true rfl, ?_⟩) | (dsimp only [frz]))))
section
variable {P : Program} {w : World} {K : PySem.W.Frag} {mg : Str → Option Value} {base : Heap}
/-! ## things: a list of numbers for each hue -/
def rowT (ns : List Nat) : PyData := .tuple (intD ns)
def thingD (t : List (List Nat)) : PyData := .tuple (t.map rowT)
structure ThOk (n : Nat) (t : List (List Nat)) : Prop where
  len : t.length = n
  even : ∃ m, 0 < m ∧ m ≤ 8 ∧ ∀ r ∈ t, r.length = m
def distinctB (hs : List Nat) (t : List (List Nat)) : Bool := decide ((hs.zip t).Nodup)
def nums (ns : List Nat) : List NestedKey := ns.map fun (n : Nat) => NestedKey.num n
theorem datas_nums : ∀ ns : List Nat, NestedKey.datas (nums ns) = intD ns
  | [] => rfl
  | n :: ns => by
    have ih := datas_nums ns
    unfold nums intD at ih ⊢
    rw [List.map_cons, List.map_cons, NestedKey.datas, ih]
    rfl
theorem nums_inj {a b : List Nat} : nums a = nums b ↔ a = b := by
  constructor
  · intro h
    unfold nums at h
    induction a generalizing b with
    | nil =>
      cases b with
      | nil => rfl
      | cons y ys => cases h
    | cons x xs ih =>
      cases b with
      | nil => cases h
      | cons y ys =>
        rw [List.map_cons, List.map_cons] at h
        obtain ⟨h1, h2⟩ := List.cons.inj h
        have h3 : (x : Int) = y := NestedKey.num.inj h1
        have h4 : x = y := by omega
        rw [h4, ih h2]
  · rintro rfl
    rfl
section
variable {ti ti1 : ATI} {g g1 : AGT} {te : ATE} {vs vs1 : List Nat} {G : List Sl} {q : Nn} {Q : Sl → List Sl → Nn → Prop}
def Lc2K (ds : List PyData) (g : AGT) (ti1 : ATI) (g1 : AGT) (te : ATE) (vs vs1 : List Nat) (Q : Sl → List Sl → Nn → Prop) (G1 : List Sl) (q1 : Nn) : Prop := ∃ I : Nat → List PyData → List Sl → Nn → Prop, I 0 [] (wipeG G1 vs) q1 ∧
  (∀ i d acc G q, ds[i]? = some d → I i acc G q → g d G fun G' => ti1 G' q fun es G2 q2 => ∃ J : Nat → List PyData → List Sl → Nn → Prop, J 0 acc (wipeG G2 vs1) q2 ∧
    (∀ j d acc G q, es[j]? = some d → J j acc G q → acc.length ≤ 1000000 ∧ g1 d G fun G' => te G' q fun r G3 q3 => ∃ x, r = .d x ∧ J (j + 1) (acc ++ [x]) (wipeG G3 vs1) q3) ∧
    (∀ acc G q, J es.length acc G q → I (i + 1) acc (wipeG G vs) q)) ∧
  (∀ acc G q, I ds.length acc G q → Q (.l acc) G q)
theorem r_lc2 (k : ti G q fun ds G1 q1 => Lc2K ds g ti1 g1 te vs vs1 Q G1 q1) : aLc2 ti g ti1 g1 te vs vs1 G q Q := k
theorem r_gRow {ns : List Nat} {F : List PyData → Prop} (k : F (intD ns)) : ∃ ds, Sl.d (rowT ns) = .d (.tuple ds) ∧ F ds := ⟨_, rfl, k⟩
theorem r_lenRow {Qs : Sl → Prop} {ns : List Nat} (k : Qs (.d (.int ns.length))) : bLen [.d (rowT ns)] Qs := r_lenI k
theorem r_exThing {t : List (List Nat)} {F : List PyData → Prop} (k : F (t.map rowT)) : ∃ ds, Sl.d (thingD t) = .d (.tuple ds) ∧ F ds := ⟨_, rfl, k⟩
theorem r_lenThing {Qs : Sl → Prop} {t : List (List Nat)} (k : Qs (.d (.int t.length))) : bLen [.d (thingD t)] Qs := ⟨_, _, rfl, rfl, by rw [List.length_map]; exact k⟩
theorem r_ixThing {Qs : Sl → Prop} {t : List (List Nat)} {i : Nat} {r : List Nat} (h : t[i]? = some r) (k : Qs (.d (rowT r))) : bIx (.d (thingD t)) (.d (.int i)) Qs := r_ixT (atI_nat (by rw [List.getElem?_map, h]; rfl)) k
theorem r_exZth {xs : List Nat} {t : List (List Nat)} {F : List PyData → List PyData → Prop} (k : F (intD xs) (t.map rowT)) : ∃ ds es, ((Sl.d (.tuple (intD xs)) = .d (.list ds) ∧ Sl.d (thingD t) = .d (.list es)) ∨ (Sl.d (.tuple (intD xs)) = .d (.tuple ds) ∧ Sl.d (thingD t) = .d (.tuple es))) ∧ F ds es := ⟨_, _, .inr ⟨rfl, rfl⟩, k⟩
end
theorem zip_thing (hs : List Nat) (t : List (List Nat)) : zipD (intD hs) (t.map rowT) = (hs.zip t).map fun p => .tuple [.int p.1, rowT p.2] := by
  unfold zipD intD
  induction hs generalizing t with
  | nil => rfl
  | cons h hs ih =>
    cases t with
    | nil => rfl
    | cons r t => rw [List.map_cons, List.map_cons, List.zipWith_cons_cons, List.zip_cons_cons, List.map_cons, ih]
def pairK (p : Nat × List Nat) : List NestedKey := [.num p.1, .tup (nums p.2)]
theorem pairK_data (p : Nat × List Nat) : (NestedKey.tup (pairK p)).data = .tuple [.int p.1, rowT p.2] := by
  show PyData.tuple [.int p.1, .tuple (NestedKey.datas (nums p.2))] = _
  rw [datas_nums]; rfl
theorem pairK_inj {p p' : Nat × List Nat} : pairK p = pairK p' ↔ p = p' := by
  obtain ⟨a, b⟩ := p
  obtain ⟨c, d⟩ := p'
  unfold pairK
  simp only [List.cons.injEq, NestedKey.num.injEq, NestedKey.tup.injEq, nums_inj, Prod.mk.injEq, and_true]
  constructor <;> rintro ⟨h1, h2⟩ <;> exact ⟨by omega, h2⟩
theorem depthAll_nums : ∀ ns : List Nat, NestedKey.depthAll (nums ns) = 0
  | [] => rfl
  | n :: ns => by
    have ih := depthAll_nums ns
    unfold nums at ih ⊢
    rw [List.map_cons, NestedKey.depthAll, ih]
    rfl
theorem pairK_depth (p : Nat × List Nat) : (NestedKey.tup (pairK p)).depth ≤ 8 := by
  unfold pairK
  simp only [NestedKey.depth, NestedKey.depthAll, depthAll_nums]
  exact Nat.le_of_ble_eq_true rfl
theorem plain_nums : ∀ ns : List Nat, plainKeys (nums ns) = true
  | [] => rfl
  | n :: ns => by
    have ih := plain_nums ns
    unfold nums at ih ⊢
    rw [List.map_cons, plainKeys, ih]
    rfl
theorem pairK_plain (p : Nat × List Nat) : plainKey (.tup (pairK p)) = true := by
  show (true && (plainKeys (nums p.2) && true)) = true
  rw [plain_nums]
  rfl
theorem nodup_map_iff {α β : Type} {f : α → β} (h : ∀ a b, f a = f b ↔ a = b) : ∀ {l : List α}, (l.map f).Nodup ↔ l.Nodup
  | [] => by simp
  | x :: xs => by
    rw [List.map_cons, List.nodup_cons, List.nodup_cons, nodup_map_iff h]
    constructor
    · rintro ⟨h1, h2⟩
      exact ⟨fun z => h1 (List.mem_map.mpr ⟨x, z, rfl⟩), h2⟩
    · rintro ⟨h1, h2⟩
      refine ⟨fun z => ?_, h2⟩
      obtain ⟨y, hy, e⟩ := List.mem_map.mp z
      rw [(h _ _).mp e] at hy
      exact h1 hy
theorem r_allT {Qs : Sl → Prop} {α : Type} {L : List α} (k : Qs (.d (.bool true))) : bAll [.l (L.map fun _ => PyData.bool true)] Qs := by
  refine r_all (L.map fun _ => true) (by rw [List.map_map]; rfl) ?_
  have e : (L.map fun _ => true).all id = true := by rw [List.all_map]; exact List.all_eq_true.mpr fun _ _ => rfl
  rw [e]
  exact k
theorem r_allR {Qs : Sl → Prop} {n : Nat} (k : Qs (.d (.bool true))) : bAll [.l (List.replicate n (PyData.bool true))] Qs := by
  refine r_all (List.replicate n true) (by rw [List.map_replicate]) ?_
  have e : (List.replicate n true).all id = true := by rw [List.all_replicate]; split <;> rfl
  rw [e]
  exact k
end
end Ph

set_option Elab.async false
set_option linter.all false
set_option maxRecDepth 100000
set_option maxHeartbeats 4000000
namespace Ph
open PySem L2
local macro_rules | `(tactic| wtm_at "ph") => `(tactic| (repeat (first | (with_reducible refine r_lc2 ?_) | (with_reducible refine r_gRow ?_) | (with_reducible refine r_lenRow ?_) | (with_reducible refine r_exThing ?_) | (with_reducible refine r_lenThing ?_) | (with_reducible refine r_exZth ?_) | (with_reducible refine r_ixBk3 ?_) | (with_reducible refine r_ixBk1 ?_) | (with_reducible refine r_row0 ?_) | (with_reducible refine r_row2 ?_) | (with_reducible refine r_row3 ?_) | (with_reducible refine r_pl0 ?_) | (with_reducible refine r_pl1 ?_) | (with_reducible refine r_pl2 ?_) | (with_reducible refine r_ce0 ?_) | (with_reducible refine r_ce1 ?_) | (with_reducible refine r_gCell ?_) | (with_reducible refine r_gPlace ?_) | (with_reducible refine r_slRow ?_) | (with_reducible refine r_slInt ?_) | (with_reducible refine r_slInt1 ?_) | (with_reducible refine r_exTab ?_) | (with_reducible refine r_exLine ?_) | (with_reducible refine r_numF ?_) | (with_reducible refine r_numFI ?_) | (with_reducible refine r_numL ?_) | (with_reducible refine r_numLI ?_) | (with_reducible refine r_lenI ?_) | (with_reducible refine r_bEqM ?_) | (with_reducible refine r_seq ?_) | (with_reducible refine r_next ?_) | (with_reducible refine r_asg ?_) | (with_reducible refine r_par ?_) | (with_reducible refine r_ret ?_) | (with_reducible refine r_ifS ?_) | (with_reducible refine r_C ?_) | (with_reducible refine r_fz ?_) | (with_reducible refine r_op ?_) | (with_reducible refine r_test ?_) | (with_reducible refine r_exB ?_) | (with_reducible refine r_and ?_) | (with_reducible refine r_not ?_) | (with_reducible refine r_neg ?_) | (with_reducible refine r_andT ?_) | (with_reducible refine r_orT ?_) | (with_reducible refine r_notT ?_) | (with_reducible refine r_if ?_) | (with_reducible refine r_nil ?_) | (with_reducible refine r_cons ?_) | (with_reducible refine r_dnil ?_) | (with_reducible refine r_dcons ?_) | (with_reducible refine r_tup ?_) | (with_reducible refine r_lst ?_) | (with_reducible refine r_call ?_) | (with_reducible refine r_isi ?_) | (with_reducible refine r_isi2 ?_) | (with_reducible refine r_exD ?_) | (with_reducible refine r_exI ?_) | (with_reducible refine r_tupRg ?_) | (with_reducible refine r_lstRg ?_) | (with_reducible refine r_sl ?_) | (with_reducible refine r_slT ?_) | (with_reducible refine r_slL ?_) | (with_reducible refine r_oNo ?_) | (with_reducible refine r_oI ?_) | (with_reducible refine r_fn ?_) | (with_reducible refine r_gName ?_) | (with_reducible refine r_gNil ?_) | (with_reducible refine r_gCons ?_) | (with_reducible refine r_iL ?_) | (with_reducible refine r_iT ?_) | (with_reducible refine r_iEL ?_) | (with_reducible refine r_iET ?_) | (with_reducible refine r_iLT ?_) | (with_reducible refine r_exLT_l ?_) | (with_reducible refine r_exLT_t ?_) | (with_reducible refine r_exL ?_) | (with_reducible refine r_exT ?_) | (with_reducible refine r_iR ?_) | (with_reducible refine r_iZ ?_) | (with_reducible refine r_exZt ?_) | (with_reducible refine r_exZl ?_) | (with_reducible refine r_idx ?_) | (with_reducible refine r_orL ?_) | (with_reducible refine r_disp ?_) | (with_reducible refine r_get ?_) | (with_reducible refine r_exS ?_) | (with_reducible refine r_exWD ?_) | (with_reducible refine r_back ?_) | (with_reducible refine r_lenSet ?_) | (with_reducible refine r_fnT ?_) | (with_reducible refine r_setO ?_) | (with_reducible refine r_tinSet ?_) | (with_reducible refine r_inD ?_) | (with_reducible refine r_par3 ?_) | (with_reducible refine r_ex3 ?_) | (with_reducible refine r_ex2 ?_) | (with_reducible refine r_yes ?_) | (with_reducible refine r_tt ?_) | (with_reducible refine r_ff ?_) | (with_reducible refine r_lc ?_) | (with_reducible refine r_for ?_) | (with_reducible refine r_int ?_) | (with_reducible refine r_intB ?_) | (with_reducible refine r_abs ?_) | (with_reducible refine r_isNn ?_) | (with_reducible refine r_isNb ?_) | (with_reducible refine r_isNi ?_) | (with_reducible refine r_isNs ?_) | (with_reducible refine r_bEqN ?_) | (with_reducible refine r_ft ?_) | (with_reducible refine r_tf ?_) | (with_reducible refine r_isN ?_) | ((with_reducible apply r_var); exact rfl) | ((with_reducible apply r_varT); exact rfl) | ((with_reducible apply r_varM); exact rfl) | ((with_reducible apply r_varS); exact rfl) | ((with_reducible apply r_lenO); exact rfl) | ((with_reducible apply r_len); exact rfl) | ((with_reducible apply r_tuple); exact rfl) | ((with_reducible apply r_list); exact rfl) | ((with_reducible apply r_ixT); exact rfl) | ((with_reducible apply r_ixL); exact rfl) | ((with_reducible apply r_gTup); exact rfl) | ((with_reducible apply r_fzS); exact rfl) | ((with_reducible apply r_ttE); exact rfl) | ((with_reducible apply r_ffE); exact rfl) | ((with_reducible apply r_ftE); exact rfl) | ((with_reducible apply r_tfE); exact rfl) | ((with_reducible apply r_app); exact ⟨_, rfl⟩) | ((with_reducible apply r_ixO); exact ⟨_, rfl⟩) | ((with_reducible apply r_ext); exact ⟨_, rfl⟩) | (with_reducible refine r_bEqS ?_) | (with_reducible refine r_bEqI ?_) | (with_reducible refine r_bEqT ?_) | (with_reducible refine r_bEqM ?_) | (with_reducible refine r_bEqB ?_) | (with_reducible refine r_bNeI ?_) | (with_reducible refine r_bNeT ?_) | (with_reducible refine r_bNeM ?_) | (with_reducible refine r_bNeB ?_) | ((with_reducible apply r_bI); first | exact trivial | omega | decide) | (refine ⟨Nat.le_of_ble_eq_true rfl, ?_⟩) | (dsimp only [frz]))))
section
variable {P : Program} {w : World} {K : PySem.W.Frag} {mg : Str → Option Value} {base : Heap}
def T_are_numbers : FT := fun ks q Q => ∃ hs : List Nat, 0 < hs.length ∧ hs.length ≤ 8 ∧
  ((∃ t, ks = [.d (.tuple (intD hs)), .d (thingD t)] ∧ ThOk hs.length t ∧ Q (.d (.bool (distinctB hs t))) q) ∨
   (∃ xs, ks = [.d (.tuple (intD hs)), .d (.list xs)] ∧ Q (.d (.bool false)) q) ∨
   (∃ xs, ks = [.d (.tuple (intD hs)), .d (.tuple xs)] ∧ xs.length ≠ hs.length ∧ Q (.d (.bool false)) q))
set_option maxHeartbeats 16000000 in
theorem can_are_numbers (Bl : Blt mg) (F : Fn K mg "are_numbers" s_are_numbers ["hues", "thing"]) (C1 : Can P w K mg base 1 "is_number" ["thing"] T_is_number) (C2 : Can P w K mg base 1 "is_tuple_of" ["thing", "many"] T_is_tuple_of) : Can P w K mg base 2 "are_numbers" ["hues", "thing"] T_are_numbers := by
  refine can_of F sc_are_numbers (fun ks q Qf h => ?_) (D_are_numbers Bl 1 C1 (by omega) C2 (by omega)).2 fun ks q Qf h => ?_
  · obtain ⟨_, _, _, ⟨_, rfl, _⟩ | ⟨_, rfl, _⟩ | ⟨_, rfl, _⟩⟩ := h <;> rfl
  · obtain ⟨hs, h0, h8, ⟨t, rfl, W, h⟩ | ⟨xs, rfl, h⟩ | ⟨xs, rfl, hne, h⟩⟩ := h
    · obtain ⟨hl, m, m0, m8, hm⟩ := W
      unfold D_are_numbers
      dsimp only
      wtm_at "ph"
      refine .inl ⟨t.map rowT, _, rfl, ?_⟩
      have e1 : decide ((((t.map rowT).length : Nat) : Int) = ((hs.length : Nat) : Int)) = true := decide_eq_true (by rw [List.length_map, hl])
      rw [e1]
      wtm_at "ph"
      have ht : t.length ≤ 1000000 := by omega
      refine lc_map (f := fun _ => .bool true) ht (fun r hr R R' hR => ?_) ?_
      · wtm_at "ph"
        unfold rowT
        try rw [isB_tuple_tuple]
        exact hR _ rfl
      wtm_at "ph"
      refine r_allT ?_
      wtm_at "ph"
      obtain ⟨r0, hr0⟩ : ∃ r, t[0]? = some r := ⟨t[0]'(by omega), List.getElem?_eq_getElem _⟩
      have hr0l : r0.length = m := hm r0 (List.mem_of_getElem? hr0)
      refine r_ixThing (i := 0) hr0 ?_
      wtm_at "ph"
      rw [hr0l]
      have e2 : decide (((m : Nat) : Int) = 0) = false := decide_eq_false (by omega)
      rw [e2]
      wtm_at "ph"
      refine lc_map (f := fun _ => .bool true) ht (fun r hr R R' hR => ?_) ?_
      · wtm_at "ph"
        rw [hm r hr, decide_eq_true rfl]
        exact hR _ rfl
      wtm_at "ph"
      refine r_allT ?_
      wtm_at "ph"
      refine ⟨fun i acc G q' => q' = q ∧ (∃ n, acc = List.replicate n (.bool true) ∧ n ≤ 8 * i) ∧ G = [.d (.tuple (intD hs)), .d (thingD t), .d (.int m), .no, .no, .no], ⟨rfl, ⟨0, rfl, Nat.zero_le _⟩, rfl⟩, ?_, ?_⟩
      · rintro i d acc G q' hd ⟨rfl, ⟨n, rfl, hn⟩, rfl⟩
        obtain ⟨r, hr, rfl, hrm⟩ := get_map hd
        have hi : i < t.length := (List.getElem?_eq_some_iff.mp hr).1
        have hrl := hm r hrm
        wtm_at "ph"
        refine ⟨fun j acc G q2 => q2 = q' ∧ j ≤ r.length ∧ (∃ n, acc = List.replicate n (.bool true) ∧ n ≤ 8 * i + j) ∧ G = [.d (.tuple (intD hs)), .d (thingD t), .d (.int m), .d (rowT r), .no, .no], ⟨rfl, Nat.zero_le _, ⟨n, rfl, hn⟩, rfl⟩, ?_, ?_⟩
        · rintro j d acc G q2 hd ⟨rfl, hj, ⟨n, rfl, hn⟩, rfl⟩
          obtain ⟨x, hx, rfl, _⟩ := get_map (xs := r) (enc := fun (n : Nat) => PyData.int n) hd
          have hj2 : j < r.length := (List.getElem?_eq_some_iff.mp hx).1
          refine ⟨by rw [List.length_replicate]; omega, ?_⟩
          wtm_at "ph"
          refine ⟨_, rfl, ?_⟩
          wtm_at "ph"
          have e3 : decide ((0 : Int) ≤ (x : Int)) = true := decide_eq_true (by omega)
          try rw [e3]
          refine ⟨rfl, hj2, ⟨n + 1, ?_, by omega⟩, rfl⟩
          rw [List.replicate_succ']
        · rintro acc G q2 ⟨rfl, hj, ⟨n, rfl, hn⟩, rfl⟩
          have hj : r.length ≤ r.length := Nat.le_refl _
          have hn : n ≤ 8 * i + (intD r).length := hn
          unfold intD at hn
          rw [List.length_map] at hn
          exact ⟨rfl, ⟨n, rfl, by omega⟩, rfl⟩
      · rintro acc G q' ⟨rfl, ⟨n, rfl, hn⟩, rfl⟩
        wtm_at "ph"
        refine r_allR ?_
        wtm_at "ph"
        rw [zip_thing]
        refine lc_map (f := fun p => .tuple [.int p.1, rowT p.2]) (by rw [List.length_zip]; omega) (fun p hp R R' hR => ?_) ?_
        · wtm_at "ph"
          exact hR _ rfl
        · have hzl : (hs.zip t).length = hs.length := by rw [List.length_zip, hl]; omega
          refine ⟨(hs.zip t).map pairK, ?_, ?_, by rw [List.length_map, hzl]; omega, fun n hn => ?_⟩
          · rw [List.map_map]
            congr 1
            refine List.map_congr_left fun p _ => ?_
            exact (pairK_data p).symm
          · intro k hk
            obtain ⟨p, _, rfl⟩ := List.mem_map.mp hk
            exact ⟨pairK_depth p, pairK_plain p⟩
          · wtm_at "ph"
            have e4 : decide ((n : Int) = ((hs.length : Nat) : Int)) = distinctB hs t := by
              unfold distinctB
              rw [List.length_map, hzl] at hn
              rw [Bool.eq_iff_iff, decide_eq_true_eq, decide_eq_true_eq, ← nodup_map_iff fun a b => pairK_inj, ← hn]
              omega
            rw [e4]
            exact h
    · unfold D_are_numbers
      dsimp only
      wtm_at "ph"
      refine .inr ⟨xs, _, rfl, ?_⟩
      wtm_at "ph"
      exact h
    · unfold D_are_numbers
      dsimp only
      wtm_at "ph"
      refine .inl ⟨xs, _, rfl, ?_⟩
      have e1 : decide (((xs.length : Nat) : Int) = ((hs.length : Nat) : Int)) = false := decide_eq_false (by omega)
      rw [e1]
      wtm_at "ph"
      exact h
end
end Ph

set_option Elab.async false
set_option linter.all false
set_option maxRecDepth 100000
set_option maxHeartbeats 4000000
namespace Ph
open PySem L2
local macro_rules | `(tactic| wtm_at "ph") => `(tactic| (repeat (first | (with_reducible refine r_lc2 ?_) | (with_reducible refine r_gRow ?_) | (with_reducible refine r_lenRow ?_) | (with_reducible refine r_exThing ?_) | (with_reducible refine r_lenThing ?_) | (with_reducible refine r_exZth ?_) | (with_reducible refine r_ixBk3 ?_) | (with_reducible refine r_ixBk1 ?_) | (with_reducible refine r_row0 ?_) | (with_reducible refine r_row2 ?_) | (with_reducible refine r_row3 ?_) | (with_reducible refine r_pl0 ?_) | (with_reducible refine r_pl1 ?_) | (with_reducible refine r_pl2 ?_) | (with_reducible refine r_ce0 ?_) | (with_reducible refine r_ce1 ?_) | (with_reducible refine r_gCell ?_) | (with_reducible refine r_gPlace ?_) | (with_reducible refine r_slRow ?_) | (with_reducible refine r_slInt ?_) | (with_reducible refine r_slInt1 ?_) | (with_reducible refine r_exTab ?_) | (with_reducible refine r_exLine ?_) | (with_reducible refine r_numF ?_) | (with_reducible refine r_numFI ?_) | (with_reducible refine r_numL ?_) | (with_reducible refine r_numLI ?_) | (with_reducible refine r_lenI ?_) | (with_reducible refine r_bEqM ?_) | (with_reducible refine r_seq ?_) | (with_reducible refine r_next ?_) | (with_reducible refine r_asg ?_) | (with_reducible refine r_par ?_) | (with_reducible refine r_ret ?_) | (with_reducible refine r_ifS ?_) | (with_reducible refine r_C ?_) | (with_reducible refine r_fz ?_) | (with_reducible refine r_op ?_) | (with_reducible refine r_test ?_) | (with_reducible refine r_exB ?_) | (with_reducible refine r_and ?_) | (with_reducible refine r_not ?_) | (with_reducible refine r_neg ?_) | (with_reducible refine r_andT ?_) | (with_reducible refine r_orT ?_) | (with_reducible refine r_notT ?_) | (with_reducible refine r_if ?_) | (with_reducible refine r_nil ?_) | (with_reducible refine r_cons ?_) | (with_reducible refine r_dnil ?_) | (with_reducible refine r_dcons ?_) | (with_reducible refine r_tup ?_) | (with_reducible refine r_lst ?_) | (with_reducible refine r_call ?_) | (with_reducible refine r_isi ?_) | (with_reducible refine r_isi2 ?_) | (with_reducible refine r_exD ?_) | (with_reducible refine r_exI ?_) | (with_reducible refine r_tupRg ?_) | (with_reducible refine r_lstRg ?_) | (with_reducible refine r_sl ?_) | (with_reducible refine r_slT ?_) | (with_reducible refine r_slL ?_) | (with_reducible refine r_oNo ?_) | (with_reducible refine r_oI ?_) | (with_reducible refine r_fn ?_) | (with_reducible refine r_gName ?_) | (with_reducible refine r_gNil ?_) | (with_reducible refine r_gCons ?_) | (with_reducible refine r_iL ?_) | (with_reducible refine r_iT ?_) | (with_reducible refine r_iEL ?_) | (with_reducible refine r_iET ?_) | (with_reducible refine r_iLT ?_) | (with_reducible refine r_exLT_l ?_) | (with_reducible refine r_exLT_t ?_) | (with_reducible refine r_exL ?_) | (with_reducible refine r_exT ?_) | (with_reducible refine r_iR ?_) | (with_reducible refine r_iZ ?_) | (with_reducible refine r_exZt ?_) | (with_reducible refine r_exZl ?_) | (with_reducible refine r_idx ?_) | (with_reducible refine r_orL ?_) | (with_reducible refine r_disp ?_) | (with_reducible refine r_get ?_) | (with_reducible refine r_exS ?_) | (with_reducible refine r_exWD ?_) | (with_reducible refine r_back ?_) | (with_reducible refine r_lenSet ?_) | (with_reducible refine r_fnT ?_) | (with_reducible refine r_setO ?_) | (with_reducible refine r_tinSet ?_) | (with_reducible refine r_inD ?_) | (with_reducible refine r_par3 ?_) | (with_reducible refine r_ex3 ?_) | (with_reducible refine r_ex2 ?_) | (with_reducible refine r_yes ?_) | (with_reducible refine r_tt ?_) | (with_reducible refine r_ff ?_) | (with_reducible refine r_lc ?_) | (with_reducible refine r_for ?_) | (with_reducible refine r_int ?_) | (with_reducible refine r_intB ?_) | (with_reducible refine r_abs ?_) | (with_reducible refine r_isNn ?_) | (with_reducible refine r_isNb ?_) | (with_reducible refine r_isNi ?_) | (with_reducible refine r_isNs ?_) | (with_reducible refine r_bEqN ?_) | (with_reducible refine r_ft ?_) | (with_reducible refine r_tf ?_) | (with_reducible refine r_isN ?_) | ((with_reducible apply r_var); exact rfl) | ((with_reducible apply r_varT); exact rfl) | ((with_reducible apply r_varM); exact rfl) | ((with_reducible apply r_varS); exact rfl) | ((with_reducible apply r_lenO); exact rfl) | ((with_reducible apply r_len); exact rfl) | ((with_reducible apply r_tuple); exact rfl) | ((with_reducible apply r_list); exact rfl) | ((with_reducible apply r_ixT); exact rfl) | ((with_reducible apply r_ixL); exact rfl) | ((with_reducible apply r_gTup); exact rfl) | ((with_reducible apply r_fzS); exact rfl) | ((with_reducible apply r_ttE); exact rfl) | ((with_reducible apply r_ffE); exact rfl) | ((with_reducible apply r_ftE); exact rfl) | ((with_reducible apply r_tfE); exact rfl) | ((with_reducible apply r_app); exact ⟨_, rfl⟩) | ((with_reducible apply r_ixO); exact ⟨_, rfl⟩) | ((with_reducible apply r_ext); exact ⟨_, rfl⟩) | (with_reducible refine r_bEqS ?_) | (with_reducible refine r_bEqI ?_) | (with_reducible refine r_bEqT ?_) | (with_reducible refine r_bEqM ?_) | (with_reducible refine r_bEqB ?_) | (with_reducible refine r_bNeI ?_) | (with_reducible refine r_bNeT ?_) | (with_reducible refine r_bNeM ?_) | (with_reducible refine r_bNeB ?_) | ((with_reducible apply r_bI); first | exact trivial | omega | decide) | (refine ⟨Nat.le_of_ble_eq_true rfl, ?_⟩) | (dsimp only [frz]))))
section
variable {P : Program} {w : World} {K : PySem.W.Frag} {mg : Str → Option Value} {base : Heap}
/-! ## the parts' events -/
def sideOf (s : Nat) (r : Row) : List Nat := if s = 2 then r.maps.1 else r.maps.2
/-- one entry: side, level, hue index, its place, the number -/
def keyP (B : Bk) (t : List (List Nat)) (c : Cell) (s k l : Nat) : List NestedKey :=
  [.num l, .tup [.num s, .num (hueOf B c), .num c.letter, .num (B.hues.getD k 0), .tup (nums ((t.getD k []).drop l)), .tup (nums ((t.getD c.hue []).drop (l + 1)))]]
def ev4 (B : Bk) (t : List (List Nat)) (c : Cell) (s k : Nat) (p : Nat × Nat) : List (List NestedKey × Nat) := [(keyP B t c s k p.1, p.2)]
def ev3 (B : Bk) (t : List (List Nat)) (c : Cell) (s : Nat) (p : Nat × Nat) : List (List NestedKey × Nat) := (withIx (t.getD p.2 [])).flatMap (ev4 B t c s p.1)
def ev2 (B : Bk) (t : List (List Nat)) (c : Cell) (s : Nat) : List (List NestedKey × Nat) := (withIx (sideOf s c.row)).flatMap (ev3 B t c s)
def ev1 (B : Bk) (t : List (List Nat)) (c : Cell) : List (List NestedKey × Nat) := [2, 3].flatMap (ev2 B t c)
def evP (B : Bk) (t : List (List Nat)) : List (List NestedKey × Nat) := (cellsOf B).flatMap (ev1 B t)
def partsB (B : Bk) (t : List (List Nat)) : Bool := distinctB B.hues t && agree (evP B t)
/-- E goes on from pre with new -/
def Pre {α : Type} (E pre new : List α) : Prop := ∃ rest, E = pre ++ (new ++ rest)
theorem Pre.down {α β : Type} {E pre : List β} {xs : List α} {F : α → List β} (h : Pre E pre (xs.flatMap F)) {i : Nat} {x : α} (hx : xs[i]? = some x) : Pre E (pre ++ (xs.take i).flatMap F) (F x) := by
  obtain ⟨rest, e⟩ := h
  refine ⟨(xs.drop (i + 1)).flatMap F ++ rest, ?_⟩
  rw [e, flat_split F hx]
  simp
theorem pre_next {α β : Type} {pre : List β} {xs : List α} {F : α → List β} {i : Nat} {x : α} (hx : xs[i]? = some x) : pre ++ (xs.take (i + 1)).flatMap F = (pre ++ (xs.take i).flatMap F) ++ F x := by
  rw [flat_one F hx, List.append_assoc]
theorem Pre.look {κ β : Type} [DecidableEq κ] {E pre : List (κ × β)} {e : κ × β} (h : Pre E pre [e]) : look E e.1 = (look pre e.1).or (some e.2) := by
  obtain ⟨rest, h⟩ := h
  rw [h, look_app]
  congr 1
  obtain ⟨k, v⟩ := e
  rw [List.singleton_append, look_cons, if_pos rfl]
theorem Pre.len {α : Type} {E pre new : List α} (h : Pre E pre new) : pre.length + new.length ≤ E.length := by
  obtain ⟨rest, h⟩ := h
  rw [h, List.length_append, List.length_append]
  omega
/-- what the dict holds and what has been seen so far -/
structure Seen (E pre : List (List NestedKey × Nat)) (kvs : List (NestedKey × PyData)) : Prop where
  tab : Tab (fun n => .int (n : Nat)) pre kvs
  len : kvs.length ≤ pre.length
  ok : ∀ p ∈ pre, look E p.1 = some p.2
theorem Seen.zero (E : List (List NestedKey × Nat)) : Seen E [] [] := ⟨Tab.nil, Nat.le_refl _, fun p h => (by cases h)⟩
theorem Seen.all {E : List (List NestedKey × Nat)} {kvs : List (NestedKey × PyData)} (h : Seen E E kvs) : agree E = true := by
  unfold agree
  rw [List.all_eq_true]
  exact fun p hp => decide_eq_true (h.ok p hp)
theorem Seen.bad {E pre : List (List NestedKey × Nat)} {kvs : List (NestedKey × PyData)} {e : List NestedKey × Nat} {v : Nat} (P : Pre E pre [e]) (hv : look pre e.1 = some v) (hne : v ≠ e.2) : agree E = false := by
  have h1 := P.look
  rw [hv] at h1
  have hm : e ∈ E := by
    obtain ⟨rest, h⟩ := P
    rw [h]
    simp
  cases ha : agree E with
  | false => rfl
  | true => exact absurd (agree_iff.mp ha _ (look_mem (show look E e.1 = some v from h1)) _ hm rfl) hne
theorem Seen.old {E pre : List (List NestedKey × Nat)} {kvs : List (NestedKey × PyData)} {e : List NestedKey × Nat} (S : Seen E pre kvs) (P : Pre E pre [e]) (hv : look pre e.1 = some e.2) : Seen E (pre ++ [e]) kvs := by
  have h1 := P.look
  rw [hv] at h1
  refine ⟨S.tab.old hv, by rw [List.length_append]; exact Nat.le_succ_of_le S.len, fun p hp => ?_⟩
  rcases List.mem_append.mp hp with hp | hp
  · exact S.ok p hp
  · rw [List.mem_singleton.mp hp]
    exact h1
theorem Seen.new {E pre : List (List NestedKey × Nat)} {kvs : List (NestedKey × PyData)} {e : List NestedKey × Nat} (S : Seen E pre kvs) (P : Pre E pre [e]) (hv : look pre e.1 = some e.2 ∨ look pre e.1 = none) : Seen E (pre ++ [e]) (put kvs (.tup e.1) (.int e.2)) := by
  have h1 := P.look
  refine ⟨S.tab.again hv, ?_, fun p hp => ?_⟩
  · have := put_len kvs (.tup e.1) (PyData.int e.2)
    have := S.len
    rw [List.length_append, List.length_singleton]
    omega
  · rcases List.mem_append.mp hp with hp | hp
    · exact S.ok p hp
    · rw [List.mem_singleton.mp hp, h1]
      rcases hv with hv | hv <;> rw [hv] <;> rfl
theorem evP_len {B : Bk} {t : List (List Nat)} (W : Wf B) (T : ThOk B.hues.length t) : (evP B t).length ≤ 100000 := by
  obtain ⟨hl, m, m0, m8, hm⟩ := T
  have hf := W.few
  have h3 : ∀ c s (p : Nat × Nat), (ev3 B t c s p).length ≤ 8 := fun c s p => by
    have h := flat_le (F := ev4 B t c s p.1) (b := 1) (l := withIx (t.getD p.2 [])) fun x _ => Nat.le_refl _
    rw [withIx_len] at h
    have h2 : (t.getD p.2 []).length ≤ 8 := by
      rw [List.getD_eq_getElem?_getD]
      cases hx : t[p.2]? with
      | none => exact Nat.zero_le _
      | some r => exact Nat.le_trans (Nat.le_of_eq (hm r (List.mem_of_getElem? hx))) m8
    unfold ev3
    omega
  have h1 : ∀ c ∈ cellsOf B, (ev1 B t c).length ≤ 128 := fun c hc => by
    refine Nat.le_trans (flat_le (F := ev2 B t c) (b := 64) fun s hs => ?_) (Nat.le_of_ble_eq_true rfl)
    have hw := W.cell hc
    have h := flat_le (F := ev3 B t c s) (b := 8) (l := withIx (sideOf s c.row)) fun x _ => h3 c s x
    rw [withIx_len] at h
    have h2 : (sideOf s c.row).length ≤ 8 := by
      unfold sideOf
      split
      · rw [hw.2.1]; exact hf
      · rw [hw.2.2.1]; exact hf
    show ((withIx (sideOf s c.row)).flatMap (ev3 B t c s)).length ≤ 64
    omega
  have h := flat_le (F := ev1 B t) (b := 128) (l := cellsOf B) h1
  have := W.cells
  show ((cellsOf B).flatMap (ev1 B t)).length ≤ 100000
  omega
theorem keyP_depth (B : Bk) (t : List (List Nat)) (c : Cell) (s k l : Nat) : (NestedKey.tup (keyP B t c s k l)).depth ≤ 8 := by
  unfold keyP
  simp only [NestedKey.depth, NestedKey.depthAll, depthAll_nums]
  exact Nat.le_of_ble_eq_true rfl
theorem keyP_data (B : Bk) (t : List (List Nat)) (c : Cell) (s k l : Nat) : (NestedKey.tup (keyP B t c s k l)).data = .tuple [.int l, .tuple [.int s, .int (hueOf B c), .int c.letter, .int (B.hues.getD k 0), .tuple (intD ((t.getD k []).drop l)), .tuple (intD ((t.getD c.hue []).drop (l + 1)))]] := by
  show PyData.tuple [.int l, .tuple [.int s, .int (hueOf B c), .int c.letter, .int (B.hues.getD k 0), .tuple (NestedKey.datas (nums ((t.getD k []).drop l))), .tuple (NestedKey.datas (nums ((t.getD c.hue []).drop (l + 1))))]] = _
  rw [datas_nums, datas_nums]
theorem r_slRowT {F : Sl → Prop} {ns : List Nat} {k : Nat} (h : F (.d (.tuple (intD (ns.drop k))))) : SlK (some (k : Int)) none (.d (rowT ns)) F := r_slInt h
theorem r_slRowT1 {F : Sl → Prop} {ns : List Nat} {k : Nat} (h : F (.d (.tuple (intD (ns.drop (k + 1)))))) : SlK (some ((k : Int) + 1)) none (.d (rowT ns)) F := r_slInt1 h
theorem getD_of {α : Type} {xs : List α} {i : Nat} {x d : α} (h : xs[i]? = some x) : xs.getD i d = x := by rw [List.getD_eq_getElem?_getD, h]; rfl
theorem r_ixSide {Qs : Sl → Prop} {r : Row} {s : Nat} (hs : s = 2 ∨ s = 3) (k : Qs (.d (.tuple (intD (sideOf s r))))) : bIx (.d (rowD r)) (.d (.int s)) Qs := by
  rcases hs with rfl | rfl
  · exact r_row2 k
  · exact r_row3 k
theorem r_numFT {D : ADs} {g : AGT} {ts : ATS} {G : List Sl} {q : Nn} {ns : List Nat} (k : ForK ((withIx ns).map fun p => .tuple [.int p.1, .int p.2]) g ts D G q) : ForK (numbered (intD ns)) g ts D G q := r_numFI k
def ThArg (n : Nat) (x : PyData) (r : List (List Nat) → Prop) (no : Prop) : Prop := (∃ t, x = thingD t ∧ ThOk n t ∧ r t) ∨ (∃ xs, x = .list xs ∧ no) ∨ (∃ xs, x = .tuple xs ∧ xs.length ≠ n ∧ no)
def T_is_parts : FT := fun ks q Q => ∃ (d x : PyData) (B : Bk), ks = [.d d, .d x] ∧ fit 6 d = true ∧ tupN 6 d = bookD B ∧ Wf B ∧ ThArg B.hues.length x (fun t => Q (.d (.bool (partsB B t))) q) (Q (.d (.bool false)) q)
set_option maxHeartbeats 16000000 in
theorem can_is_parts (Bl : Blt mg) (F : Fn K mg "is_parts" s_is_parts ["book", "thing"]) (C1 : Can P w K mg base 2 "are_numbers" ["hues", "thing"] T_are_numbers) (C2 : Can P w K mg base 1 "rows_of" ["book"] T_rows_of) (C3 : Can P w K mg base 8 "tuple_of" ["thing"] (T_tuple_of 6)) : Can P w K mg base 9 "is_parts" ["book", "thing"] T_is_parts := by
  refine can_of F sc_is_parts (fun ks q Qf h => ?_) (D_is_parts Bl 8 C1 (by omega) C2 (by omega) C3 (by omega)).2 fun ks q Qf h => ?_
  · obtain ⟨_, _, _, rfl, _⟩ := h
    rfl
  · obtain ⟨d, x, B, rfl, hf, hd, W, h⟩ := h
    have hc := W.cells
    have hfew := W.few
    have hpos := W.pos
    unfold D_is_parts
    dsimp only
    wtm_at "ph"
    refine ⟨d, rfl, hf, ?_⟩
    rw [hd]
    wtm_at "ph"
    refine ⟨B.hues, hpos, hfew, ?_⟩
    rcases h with ⟨t, rfl, T, h⟩ | ⟨xs, rfl, h⟩ | ⟨xs, rfl, hne, h⟩
    · refine .inl ⟨t, rfl, T, ?_⟩
      wtm_at "ph"
      refine ⟨fun hb => ?_, fun hb => ?_⟩
      · wtm_at "ph"
        have hb : distinctB B.hues t = false := by simpa using hb
        unfold partsB at h
        rw [hb] at h
        exact h
      have hb : distinctB B.hues t = true := by simpa using hb
      have hEl := evP_len W T
      unfold partsB at h
      rw [hb, Bool.true_and] at h
      generalize hE : evP B t = E at h hEl
      have P0 : Pre E [] ((cellsOf B).flatMap (ev1 B t)) := ⟨[], by rw [← hE]; simp [evP]⟩
      wtm_at "ph"
      refine .inl ?_
      wtm_at "ph"
      refine ⟨B, rfl, by omega, ?_⟩
      wtm_at "ph"
      have hth : ∀ k, k < B.hues.length → t[k]? = some (t.getD k []) := fun k hk => by
        have h1 : k < t.length := by rw [T.len]; exact hk
        rw [List.getD_eq_getElem?_getD, List.getElem?_eq_getElem h1]; rfl
      refine for_map (fun i G q' => q' = q ∧ ∃ kvs a5 a6 a7 a8 a9 a10 a11 a12 a13 a14, Seen E ([] ++ ((cellsOf B).take i).flatMap (ev1 B t)) kvs ∧ G = [.d d, .d (thingD t), .d (bookD B), .d (.tuple (intD B.hues)), .k kvs, a5, a6, a7, a8, a9, a10, a11, a12, a13, a14]) ⟨rfl, [], _, _, _, _, _, _, _, _, _, _, Seen.zero E, rfl⟩ ?_ ?_
      · rintro i c G q' hi ⟨rfl, kvs, a5, a6, a7, a8, a9, a10, a11, a12, a13, a14, S, rfl⟩
        have hcm : c ∈ cellsOf B := List.mem_of_getElem? hi
        have hcell := W.cell hcm
        have hhue := W.hue hcm
        have hcl : c.hue < B.hues.length := (List.getElem?_eq_some_iff.mp hhue).1
        have P1 : Pre E ([] ++ ((cellsOf B).take i).flatMap (ev1 B t)) ([2, 3].flatMap (ev2 B t c)) := P0.down hi
        generalize hpre1 : [] ++ ((cellsOf B).take i).flatMap (ev1 B t) = pre1 at S P1
        wtm_at "ph"
        refine for_map (xs := [2, 3]) (enc := fun (n : Nat) => PyData.int n) (fun j G q2 => q2 = q' ∧ ∃ kvs a9 a10 a11 a12 a13 a14, Seen E (pre1 ++ (([2, 3] : List Nat).take j).flatMap (ev2 B t c)) kvs ∧ G = [.d d, .d (thingD t), .d (bookD B), .d (.tuple (intD B.hues)), .k kvs, .d (.int c.flag), .d (.int c.hue), .d (.int c.letter), .d (rowD c.row), a9, a10, a11, a12, a13, a14]) ⟨rfl, kvs, _, _, _, _, _, _, by rw [List.take_zero, List.flatMap_nil, List.append_nil]; exact S, rfl⟩ ?_ ?_
        · rintro j s G q2 hj ⟨rfl, kvs, a9, a10, a11, a12, a13, a14, S, rfl⟩
          have hs : s = 2 ∨ s = 3 := by
            have := List.mem_of_getElem? hj
            simpa using this
          have hsl : (sideOf s c.row).length = B.hues.length ∧ ∀ x ∈ sideOf s c.row, x < B.hues.length := by
            unfold sideOf
            split
            · exact ⟨hcell.2.1, hcell.2.2.2.1⟩
            · exact ⟨hcell.2.2.1, hcell.2.2.2.2⟩
          have P2 : Pre E (pre1 ++ (([2, 3] : List Nat).take j).flatMap (ev2 B t c)) ((withIx (sideOf s c.row)).flatMap (ev3 B t c s)) := P1.down hj
          generalize hpre2 : pre1 ++ (([2, 3] : List Nat).take j).flatMap (ev2 B t c) = pre2 at S P2
          wtm_at "ph"
          refine r_ixSide hs ?_
          wtm_at "ph"
          refine for_map (fun k G q3 => q3 = q2 ∧ ∃ kvs a10 a11 a12 a13 a14, Seen E (pre2 ++ ((withIx (sideOf s c.row)).take k).flatMap (ev3 B t c s)) kvs ∧ G = [.d d, .d (thingD t), .d (bookD B), .d (.tuple (intD B.hues)), .k kvs, .d (.int c.flag), .d (.int c.hue), .d (.int c.letter), .d (rowD c.row), .d (.int s), a10, a11, a12, a13, a14]) ⟨rfl, kvs, _, _, _, _, _, by rw [List.take_zero, List.flatMap_nil, List.append_nil]; exact S, rfl⟩ ?_ ?_
          · rintro k p3 G q3 hk ⟨rfl, kvs, a10, a11, a12, a13, a14, S, rfl⟩
            have hk2 := withIx_mem (List.mem_of_getElem? hk)
            have hp3l : p3.1 < B.hues.length := by rw [← hsl.1]; exact (List.getElem?_eq_some_iff.mp hk2).1
            have hp3m : p3.2 < B.hues.length := hsl.2 _ (List.mem_of_getElem? hk2)
            have P3 : Pre E (pre2 ++ ((withIx (sideOf s c.row)).take k).flatMap (ev3 B t c s)) ((withIx (t.getD p3.2 [])).flatMap (ev4 B t c s p3.1)) := P2.down hk
            generalize hpre3 : pre2 ++ ((withIx (sideOf s c.row)).take k).flatMap (ev3 B t c s) = pre3 at S P3
            wtm_at "ph"
            refine r_ixThing (hth _ hp3m) ?_
            wtm_at "ph"
            refine for_map (fun l G q4 => q4 = q3 ∧ ∃ kvs a12 a13 a14, Seen E (pre3 ++ ((withIx (t.getD p3.2 [])).take l).flatMap (ev4 B t c s p3.1)) kvs ∧ G = [.d d, .d (thingD t), .d (bookD B), .d (.tuple (intD B.hues)), .k kvs, .d (.int c.flag), .d (.int c.hue), .d (.int c.letter), .d (rowD c.row), .d (.int s), .d (.int p3.1), .d (.int p3.2), a12, a13, a14]) ⟨rfl, kvs, _, _, _, by rw [List.take_zero, List.flatMap_nil, List.append_nil]; exact S, rfl⟩ ?_ ?_
            · rintro l p4 G q4 hl4 ⟨rfl, kvs, a12, a13, a14, S, rfl⟩
              have P4 : Pre E (pre3 ++ ((withIx (t.getD p3.2 [])).take l).flatMap (ev4 B t c s p3.1)) [(keyP B t c s p3.1 p4.1, p4.2)] := P3.down hl4
              generalize hpre4 : pre3 ++ ((withIx (t.getD p3.2 [])).take l).flatMap (ev4 B t c s p3.1) = pre4 at S P4
              have hlen4 := P4.len
              wtm_at "ph"
              refine r_ixT (atI_ints hhue) ?_
              wtm_at "ph"
              refine r_ixT (atI_ints (show B.hues[p3.1]? = some (B.hues.getD p3.1 0) by rw [List.getD_eq_getElem?_getD, List.getElem?_eq_getElem hp3l]; rfl)) ?_
              wtm_at "ph"
              refine r_ixThing (hth _ hp3l) ?_
              wtm_at "ph"
              refine r_slRowT ?_
              wtm_at "ph"
              refine r_ixThing (hth _ hcl) ?_
              wtm_at "ph"
              refine r_slRowT1 ?_
              wtm_at "ph"
              refine ⟨⟨_, rfl⟩, ?_⟩
              wtm_at "ph"
              refine ⟨keyP B t c s p3.1 p4.1, kvs, .int p4.2, by rw [keyP_data], keyP_depth _ _ _ _ _ _, rfl, by have := S.len; omega, fun z hz => ?_, fun hz => ?_⟩
              · rw [S.tab] at hz
                obtain ⟨v, hv, rfl⟩ := Option.map_eq_some_iff.mp hz
                wtm_at "ph"
                refine ⟨fun hne => ?_, fun heq => ?_⟩
                · wtm_at "ph"
                  rw [Seen.bad (kvs := kvs) P4 hv (by
                    intro e
                    have e : v = p4.2 := e
                    rw [e, decide_eq_true rfl] at hne
                    cases hne)] at h
                  exact h
                · have heq : v = p4.2 := by
                    have := of_decide_eq_true (show decide ((v : Int) = p4.2) = true by simpa using heq)
                    omega
                  rw [heq] at hv
                  wtm_at "ph"
                  refine ⟨rfl, kvs, _, _, _, ?_, rfl⟩
                  rw [pre_next hl4, hpre4]
                  exact S.old P4 hv
              · rw [S.tab] at hz
                have hz := Option.map_eq_none_iff.mp hz
                wtm_at "ph"
                refine ⟨fun hne => ?_, fun heq => ?_⟩
                · rw [decide_eq_true rfl] at hne
                  cases hne
                · wtm_at "ph"
                  refine ⟨rfl, _, _, _, _, ?_, rfl⟩
                  rw [pre_next hl4, hpre4]
                  exact S.new P4 (.inr hz)
            · rintro G q4 ⟨rfl, kvs, a12, a13, a14, S, rfl⟩
              refine ⟨rfl, kvs, _, _, _, _, _, ?_, rfl⟩
              rw [List.take_length] at S
              rw [pre_next hk, hpre3]
              exact S
          · rintro G q3 ⟨rfl, kvs, a10, a11, a12, a13, a14, S, rfl⟩
            refine ⟨rfl, kvs, _, _, _, _, _, _, ?_, rfl⟩
            rw [List.take_length] at S
            rw [pre_next hj, hpre2]
            exact S
        · rintro G q2 ⟨rfl, kvs, a9, a10, a11, a12, a13, a14, S, rfl⟩
          refine ⟨rfl, kvs, _, _, _, _, _, _, _, _, _, _, ?_, rfl⟩
          rw [List.take_length] at S
          rw [pre_next hi, hpre1]
          exact S
      · rintro G q' ⟨rfl, kvs, a5, a6, a7, a8, a9, a10, a11, a12, a13, a14, S, rfl⟩
        wtm_at "ph"
        rw [List.take_length, List.nil_append] at S
        have S : Seen (evP B t) (evP B t) kvs := by rw [hE]; rw [← hE] at S ⊢; exact S
        rw [← hE, S.all] at h
        exact h
    · refine .inr (.inl ⟨xs, rfl, ?_⟩)
      wtm_at "ph"
      exact h
    · refine .inr (.inr ⟨xs, rfl, hne, ?_⟩)
      wtm_at "ph"
      exact h
end
end Ph

set_option Elab.async false
set_option linter.all false
set_option maxRecDepth 100000
set_option maxHeartbeats 4000000
namespace Ph
open PySem L2
local macro_rules | `(tactic| wtm_at "ph") => `(tactic| (repeat (first | (with_reducible refine r_lc2 ?_) | (with_reducible refine r_gRow ?_) | (with_reducible refine r_lenRow ?_) | (with_reducible refine r_exThing ?_) | (with_reducible refine r_lenThing ?_) | (with_reducible refine r_exZth ?_) | (with_reducible refine r_ixBk3 ?_) | (with_reducible refine r_ixBk1 ?_) | (with_reducible refine r_row0 ?_) | (with_reducible refine r_row2 ?_) | (with_reducible refine r_row3 ?_) | (with_reducible refine r_pl0 ?_) | (with_reducible refine r_pl1 ?_) | (with_reducible refine r_pl2 ?_) | (with_reducible refine r_ce0 ?_) | (with_reducible refine r_ce1 ?_) | (with_reducible refine r_gCell ?_) | (with_reducible refine r_gPlace ?_) | (with_reducible refine r_slRow ?_) | (with_reducible refine r_slInt ?_) | (with_reducible refine r_slInt1 ?_) | (with_reducible refine r_exTab ?_) | (with_reducible refine r_exLine ?_) | (with_reducible refine r_numF ?_) | (with_reducible refine r_numFI ?_) | (with_reducible refine r_numL ?_) | (with_reducible refine r_numLI ?_) | (with_reducible refine r_lenI ?_) | (with_reducible refine r_bEqM ?_) | (with_reducible refine r_seq ?_) | (with_reducible refine r_next ?_) | (with_reducible refine r_asg ?_) | (with_reducible refine r_par ?_) | (with_reducible refine r_ret ?_) | (with_reducible refine r_ifS ?_) | (with_reducible refine r_C ?_) | (with_reducible refine r_fz ?_) | (with_reducible refine r_op ?_) | (with_reducible refine r_test ?_) | (with_reducible refine r_exB ?_) | (with_reducible refine r_and ?_) | (with_reducible refine r_not ?_) | (with_reducible refine r_neg ?_) | (with_reducible refine r_andT ?_) | (with_reducible refine r_orT ?_) | (with_reducible refine r_notT ?_) | (with_reducible refine r_if ?_) | (with_reducible refine r_nil ?_) | (with_reducible refine r_cons ?_) | (with_reducible refine r_dnil ?_) | (with_reducible refine r_dcons ?_) | (with_reducible refine r_tup ?_) | (with_reducible refine r_lst ?_) | (with_reducible refine r_call ?_) | (with_reducible refine r_isi ?_) | (with_reducible refine r_isi2 ?_) | (with_reducible refine r_exD ?_) | (with_reducible refine r_exI ?_) | (with_reducible refine r_tupRg ?_) | (with_reducible refine r_lstRg ?_) | (with_reducible refine r_sl ?_) | (with_reducible refine r_slT ?_) | (with_reducible refine r_slL ?_) | (with_reducible refine r_oNo ?_) | (with_reducible refine r_oI ?_) | (with_reducible refine r_fn ?_) | (with_reducible refine r_gName ?_) | (with_reducible refine r_gNil ?_) | (with_reducible refine r_gCons ?_) | (with_reducible refine r_iL ?_) | (with_reducible refine r_iT ?_) | (with_reducible refine r_iEL ?_) | (with_reducible refine r_iET ?_) | (with_reducible refine r_iLT ?_) | (with_reducible refine r_exLT_l ?_) | (with_reducible refine r_exLT_t ?_) | (with_reducible refine r_exL ?_) | (with_reducible refine r_exT ?_) | (with_reducible refine r_iR ?_) | (with_reducible refine r_iZ ?_) | (with_reducible refine r_exZt ?_) | (with_reducible refine r_exZl ?_) | (with_reducible refine r_idx ?_) | (with_reducible refine r_orL ?_) | (with_reducible refine r_disp ?_) | (with_reducible refine r_get ?_) | (with_reducible refine r_exS ?_) | (with_reducible refine r_exWD ?_) | (with_reducible refine r_back ?_) | (with_reducible refine r_lenSet ?_) | (with_reducible refine r_fnT ?_) | (with_reducible refine r_setO ?_) | (with_reducible refine r_tinSet ?_) | (with_reducible refine r_inD ?_) | (with_reducible refine r_par3 ?_) | (with_reducible refine r_ex3 ?_) | (with_reducible refine r_ex2 ?_) | (with_reducible refine r_yes ?_) | (with_reducible refine r_tt ?_) | (with_reducible refine r_ff ?_) | (with_reducible refine r_lc ?_) | (with_reducible refine r_for ?_) | (with_reducible refine r_int ?_) | (with_reducible refine r_intB ?_) | (with_reducible refine r_abs ?_) | (with_reducible refine r_isNn ?_) | (with_reducible refine r_isNb ?_) | (with_reducible refine r_isNi ?_) | (with_reducible refine r_isNs ?_) | (with_reducible refine r_bEqN ?_) | (with_reducible refine r_ft ?_) | (with_reducible refine r_tf ?_) | (with_reducible refine r_isN ?_) | ((with_reducible apply r_var); exact rfl) | ((with_reducible apply r_varT); exact rfl) | ((with_reducible apply r_varM); exact rfl) | ((with_reducible apply r_varS); exact rfl) | ((with_reducible apply r_lenO); exact rfl) | ((with_reducible apply r_len); exact rfl) | ((with_reducible apply r_tuple); exact rfl) | ((with_reducible apply r_list); exact rfl) | ((with_reducible apply r_ixT); exact rfl) | ((with_reducible apply r_ixL); exact rfl) | ((with_reducible apply r_gTup); exact rfl) | ((with_reducible apply r_fzS); exact rfl) | ((with_reducible apply r_ttE); exact rfl) | ((with_reducible apply r_ffE); exact rfl) | ((with_reducible apply r_ftE); exact rfl) | ((with_reducible apply r_tfE); exact rfl) | ((with_reducible apply r_app); exact ⟨_, rfl⟩) | ((with_reducible apply r_ixO); exact ⟨_, rfl⟩) | ((with_reducible apply r_ext); exact ⟨_, rfl⟩) | (with_reducible refine r_bEqS ?_) | (with_reducible refine r_bEqI ?_) | (with_reducible refine r_bEqT ?_) | (with_reducible refine r_bEqM ?_) | (with_reducible refine r_bEqB ?_) | (with_reducible refine r_bNeI ?_) | (with_reducible refine r_bNeT ?_) | (with_reducible refine r_bNeM ?_) | (with_reducible refine r_bNeB ?_) | ((with_reducible apply r_bI); first | exact trivial | omega | decide) | (refine ⟨Nat.le_of_ble_eq_true rfl, ?_⟩) | (dsimp only [frz]))))
section
variable {P : Program} {w : World} {K : PySem.W.Frag} {mg : Str → Option Value} {base : Heap}
/-! ## _law_has_parts -/
def keyH (B : Bk) (t : List (List Nat)) (c : Cell) (s k l : Nat) : List NestedKey :=
  [.num s, .num l, .num (hueOf B c), .num c.letter, .tup (nums ((t.getD c.hue []).drop (l + 1))), .num (B.hues.getD k 0), .tup (nums ((t.getD k []).drop l))]
def laterOf (t : List (List Nat)) (c : Cell) (s k : Nat) : List Nat := t.getD ((sideOf s c.row).getD k 0) []
def eh4 (B : Bk) (t : List (List Nat)) (c : Cell) (k s l : Nat) : List (List NestedKey × Nat) := [(keyH B t c s k l, (laterOf t c s k).getD l 0)]
def eh3 (B : Bk) (t : List (List Nat)) (c : Cell) (k s : Nat) : List (List NestedKey × Nat) := (List.range (laterOf t c s k).length).flatMap (eh4 B t c k s)
def eh2 (B : Bk) (t : List (List Nat)) (c : Cell) (p : Nat × Nat) : List (List NestedKey × Nat) := [2, 3].flatMap (eh3 B t c p.1)
def eh1 (B : Bk) (t : List (List Nat)) (c : Cell) : List (List NestedKey × Nat) := (withIx B.hues).flatMap (eh2 B t c)
def evH (B : Bk) (t : List (List Nat)) : List (List NestedKey × Nat) := (cellsOf B).flatMap (eh1 B t)
theorem keyH_data (B : Bk) (t : List (List Nat)) (c : Cell) (s k l : Nat) : (NestedKey.tup (keyH B t c s k l)).data = .tuple [.int s, .int l, .int (hueOf B c), .int c.letter, .tuple (intD ((t.getD c.hue []).drop (l + 1))), .int (B.hues.getD k 0), .tuple (intD ((t.getD k []).drop l))] := by
  show PyData.tuple [.int s, .int l, .int (hueOf B c), .int c.letter, .tuple (NestedKey.datas (nums ((t.getD c.hue []).drop (l + 1)))), .int (B.hues.getD k 0), .tuple (NestedKey.datas (nums ((t.getD k []).drop l)))] = _
  rw [datas_nums, datas_nums]
theorem keyH_depth (B : Bk) (t : List (List Nat)) (c : Cell) (s k l : Nat) : (NestedKey.tup (keyH B t c s k l)).depth ≤ 8 := by
  unfold keyH
  simp only [NestedKey.depth, NestedKey.depthAll, depthAll_nums]
  exact Nat.le_of_ble_eq_true rfl
theorem key_same (B : Bk) (t : List (List Nat)) (c c' : Cell) (s s' k k' l l' : Nat) : keyH B t c s k l = keyH B t c' s' k' l' ↔ keyP B t c s k l = keyP B t c' s' k' l' := by
  unfold keyH keyP
  simp only [List.cons.injEq, NestedKey.num.injEq, NestedKey.tup.injEq, and_true]
  constructor
  · rintro ⟨a, b, c, d, e, f, g⟩
    exact ⟨b, a, c, d, f, g, e⟩
  · rintro ⟨b, a, c, d, f, g, e⟩
    exact ⟨a, b, c, d, e, f, g⟩
theorem withIx_of {α : Type} {xs : List α} {i : Nat} {x : α} (h : xs[i]? = some x) : (i, x) ∈ withIx xs := by
  have hi := (List.getElem?_eq_some_iff.mp h).1
  refine List.mem_of_getElem? (i := i) ?_
  unfold withIx
  rw [List.getElem?_zip_eq_some]
  exact ⟨by rw [List.getElem?_eq_getElem (by rw [List.length_range]; exact hi), List.getElem_range], h⟩
/-- one event -/
def IsEv (B : Bk) (t : List (List Nat)) (c : Cell) (s k l n : Nat) : Prop := c ∈ cellsOf B ∧ (s = 2 ∨ s = 3) ∧ k < B.hues.length ∧ (laterOf t c s k)[l]? = some n
theorem mem_evP {B : Bk} {t : List (List Nat)} (W : Wf B) (p : List NestedKey × Nat) : p ∈ evP B t ↔ ∃ c s k l n, IsEv B t c s k l n ∧ p = (keyP B t c s k l, n) := by
  constructor
  · intro h
    obtain ⟨c, hc, h⟩ := List.mem_flatMap.mp h
    obtain ⟨s, hs, h⟩ := List.mem_flatMap.mp h
    obtain ⟨p3, hp3, h⟩ := List.mem_flatMap.mp h
    obtain ⟨p4, hp4, h⟩ := List.mem_flatMap.mp h
    have hw := W.cell hc
    have hs : s = 2 ∨ s = 3 := by simpa using hs
    have h3 := withIx_mem hp3
    have hl : (sideOf s c.row).length = B.hues.length := by
      unfold sideOf
      split
      · exact hw.2.1
      · exact hw.2.2.1
    refine ⟨c, s, p3.1, p4.1, p4.2, ⟨hc, hs, by rw [← hl]; exact (List.getElem?_eq_some_iff.mp h3).1, ?_⟩, List.mem_singleton.mp h⟩
    unfold laterOf
    rw [getD_of h3]
    exact withIx_mem hp4
  · rintro ⟨c, s, k, l, n, ⟨hc, hs, hk, hn⟩, rfl⟩
    have hw := W.cell hc
    have hl : (sideOf s c.row).length = B.hues.length := by
      unfold sideOf
      split
      · exact hw.2.1
      · exact hw.2.2.1
    have h3 : (sideOf s c.row)[k]? = some ((sideOf s c.row).getD k 0) := by rw [List.getD_eq_getElem?_getD, List.getElem?_eq_getElem (by rw [hl]; exact hk)]; rfl
    refine List.mem_flatMap.mpr ⟨c, hc, List.mem_flatMap.mpr ⟨s, by simpa using hs, List.mem_flatMap.mpr ⟨_, withIx_of h3, List.mem_flatMap.mpr ⟨_, withIx_of hn, List.mem_singleton.mpr rfl⟩⟩⟩⟩
theorem mem_evH {B : Bk} {t : List (List Nat)} (p : List NestedKey × Nat) : p ∈ evH B t ↔ ∃ c s k l n, IsEv B t c s k l n ∧ p = (keyH B t c s k l, n) := by
  constructor
  · intro h
    obtain ⟨c, hc, h⟩ := List.mem_flatMap.mp h
    obtain ⟨p2, hp2, h⟩ := List.mem_flatMap.mp h
    obtain ⟨s, hs, h⟩ := List.mem_flatMap.mp h
    obtain ⟨l, hl, h⟩ := List.mem_flatMap.mp h
    have hs : s = 2 ∨ s = 3 := by simpa using hs
    have h2 := withIx_mem hp2
    refine ⟨c, s, p2.1, l, _, ⟨hc, hs, (List.getElem?_eq_some_iff.mp h2).1, ?_⟩, List.mem_singleton.mp h⟩
    rw [List.getD_eq_getElem?_getD, List.getElem?_eq_getElem (List.mem_range.mp hl)]; rfl
  · rintro ⟨c, s, k, l, n, ⟨hc, hs, hk, hn⟩, rfl⟩
    refine List.mem_flatMap.mpr ⟨c, hc, List.mem_flatMap.mpr ⟨(k, B.hues.getD k 0), withIx_of (by rw [List.getD_eq_getElem?_getD, List.getElem?_eq_getElem hk]; rfl), List.mem_flatMap.mpr ⟨s, by simpa using hs, List.mem_flatMap.mpr ⟨l, List.mem_range.mpr (List.getElem?_eq_some_iff.mp hn).1, List.mem_singleton.mpr ?_⟩⟩⟩⟩
    rw [getD_of hn]
theorem agree_HP {B : Bk} {t : List (List Nat)} (W : Wf B) : agree (evH B t) = agree (evP B t) := by
  rw [Bool.eq_iff_iff, agree_iff, agree_iff]
  constructor
  · intro h p hp p' hp' e
    obtain ⟨c, s, k, l, n, he, rfl⟩ := (mem_evP W p).mp hp
    obtain ⟨c', s', k', l', n', he', rfl⟩ := (mem_evP W p').mp hp'
    exact h (keyH B t c s k l, n) ((mem_evH _).mpr ⟨c, s, k, l, n, he, rfl⟩) (keyH B t c' s' k' l', n') ((mem_evH _).mpr ⟨c', s', k', l', n', he', rfl⟩) ((key_same _ _ _ _ _ _ _ _ _ _).mpr e)
  · intro h p hp p' hp' e
    obtain ⟨c, s, k, l, n, he, rfl⟩ := (mem_evH p).mp hp
    obtain ⟨c', s', k', l', n', he', rfl⟩ := (mem_evH p').mp hp'
    exact h (keyP B t c s k l, n) ((mem_evP W _).mpr ⟨c, s, k, l, n, he, rfl⟩) (keyP B t c' s' k' l', n') ((mem_evP W _).mpr ⟨c', s', k', l', n', he', rfl⟩) ((key_same _ _ _ _ _ _ _ _ _ _).mp e)
theorem evH_len {B : Bk} {t : List (List Nat)} (W : Wf B) (T : ThOk B.hues.length t) : (evH B t).length ≤ 100000 := by
  obtain ⟨hl, m, m0, m8, hm⟩ := T
  have hf := W.few
  have h3 : ∀ c k s, (eh3 B t c k s).length ≤ 8 := fun c k s => by
    have h := flat_le (F := eh4 B t c k s) (b := 1) (l := List.range (laterOf t c s k).length) fun x _ => Nat.le_refl _
    rw [List.length_range] at h
    have h2 : (laterOf t c s k).length ≤ 8 := by
      unfold laterOf
      rw [List.getD_eq_getElem?_getD]
      cases hx : t[(sideOf s c.row).getD k 0]? with
      | none => exact Nat.zero_le _
      | some r => exact Nat.le_trans (Nat.le_of_eq (hm r (List.mem_of_getElem? hx))) m8
    unfold eh3
    omega
  have h1 : ∀ c ∈ cellsOf B, (eh1 B t c).length ≤ 128 := fun c hc => by
    have h2 : ∀ p ∈ withIx B.hues, (eh2 B t c p).length ≤ 16 := fun p _ => Nat.le_trans (flat_le (F := eh3 B t c p.1) (b := 8) fun s hs => h3 c p.1 s) (Nat.le_of_ble_eq_true rfl)
    have h := flat_le (F := eh2 B t c) (b := 16) h2
    rw [withIx_len] at h
    show ((withIx B.hues).flatMap (eh2 B t c)).length ≤ 128
    omega
  have h := flat_le (F := eh1 B t) (b := 128) (l := cellsOf B) h1
  have := W.cells
  show ((cellsOf B).flatMap (eh1 B t)).length ≤ 100000
  omega
theorem r_bEqRow {Qs : Sl → Prop} {a b : List Nat} (k : Qs (.d (.bool (decide (a = b))))) : bEq (.d (rowT a)) (.d (rowT b)) Qs := r_bEqT k
theorem r_ixRowT {Qs : Sl → Prop} {ns : List Nat} {i x : Nat} (h : ns[i]? = some x) (k : Qs (.d (.int x))) : bIx (.d (rowT ns)) (.d (.int i)) Qs := r_ixT (atI_ints h) k
theorem r_getD {i : Nat} {t : ATE} {G : List Sl} {q : Nn} {Q : Sl → List Sl → Nn → Prop} (h : ∃ k, G[i]? = some k ∧ k ≠ .no) (k : t G q fun r G' q' =>
    (∃ (k : List NestedKey) (kvs : List (NestedKey × PyData)) (d : PyData), r = .d (NestedKey.tup k).data ∧ (NestedKey.tup k).depth ≤ 8 ∧ G'[i]? = some (.k kvs) ∧ look kvs (.tup k) = some d ∧ Q (.d d) G' q') ∨
    (∃ (j : Int) (kvs : List (Int × PyData)) (d : PyData), r = .d (.int j) ∧ G'[i]? = some (.i kvs) ∧ look kvs j = some d ∧ Q (.d d) G' q')) : aGetD i t G q Q := ⟨h, k⟩
theorem r_putD {i : Nat} {t u : ATE} {G : List Sl} {q : Nn} {D : ADs} (k : t G q fun r G1 q1 => ∃ y, r = .d y ∧ (∃ k, G1[i]? = some k ∧ k ≠ .no) ∧ u G1 q1 fun r2 G2 q2 =>
    (∃ (k : List NestedKey) (kvs : List (NestedKey × PyData)), r2 = .d (NestedKey.tup k).data ∧ (NestedKey.tup k).depth ≤ 8 ∧ G2[i]? = some (.k kvs) ∧ kvs.length ≤ 1000000 ∧ D.nx (G2.set i (.k (put kvs (.tup k) y))) q2) ∨
    (∃ (j : Int) (kvs : List (Int × PyData)), r2 = .d (.int j) ∧ G2[i]? = some (.i kvs) ∧ kvs.length ≤ 1000000 ∧ D.nx (G2.set i (.i (put kvs j y))) q2)) : aPutD i t u D G q := k
theorem take_nodup {α : Type} {l : List α} {i : Nat} {x : α} (hx : l[i]? = some x) (h : (l.take i).Nodup) : (x ∈ l.take i → ¬ l.Nodup) ∧ (x ∉ l.take i → (l.take (i + 1)).Nodup) := by
  constructor
  · intro hm hn
    have e : l = l.take i ++ x :: l.drop (i + 1) := by
      obtain ⟨hi, e⟩ := List.getElem?_eq_some_iff.mp hx
      have z := List.take_append_drop i l
      rw [List.drop_eq_getElem_cons hi, e] at z
      exact z.symm
    rw [e] at hn
    exact (List.nodup_append.mp hn).2.2 x hm x List.mem_cons_self rfl
  · intro hm
    rw [take_one hx]
    refine List.nodup_append.mpr ⟨h, by simp, fun a ha b hb => ?_⟩
    rw [List.mem_singleton.mp hb]
    rintro rfl
    exact hm ha
def T_law_has_parts : FT := fun ks q Q => ∃ (B : Bk) (t : List (List Nat)), ks = [.d (bookD B), .d (thingD t)] ∧ Wf B ∧ ThOk B.hues.length t ∧ Q (.d (.bool (partsB B t))) q
set_option maxHeartbeats 16000000 in
theorem can_law_has_parts (Bl : Blt mg) (F : Fn K mg "_law_has_parts" s_law_has_parts ["_law_book_so", "_law_parts_so"]) (C1 : Can P w K mg base 1 "_law_lines" ["_law_book_so"] T_law_lines) : Can P w K mg base 2 "_law_has_parts" ["_law_book_so", "_law_parts_so"] T_law_has_parts := by
  refine can_of F sc_law_has_parts (fun ks q Qf h => ?_) (D_law_has_parts Bl 1 C1 (by omega)).2 fun ks q Qf h => ?_
  · obtain ⟨_, _, rfl, _⟩ := h
    rfl
  · obtain ⟨B, t, rfl, W, T, h⟩ := h
    have hc := W.cells
    have hfew := W.few
    have hpos := W.pos
    have hth : ∀ k, k < B.hues.length → t[k]? = some (t.getD k []) := fun k hk => by
      have h1 : k < t.length := by rw [T.len]; exact hk
      rw [List.getD_eq_getElem?_getD, List.getElem?_eq_getElem h1]; rfl
    have hzl : (B.hues.zip t).length = B.hues.length := by rw [List.length_zip, T.len]; omega
    have hEl := evH_len W T
    unfold D_law_has_parts
    dsimp only
    wtm_at "ph"
    refine .inl ?_
    wtm_at "ph"
    refine for_map (fun i G q' => q' = q ∧ ((B.hues.zip t).take i).Nodup ∧ ∃ a4 a5, G = [.d (bookD B), .d (thingD t), .d (.tuple (intD B.hues)), .k [], a4, a5, .no, .no, .no, .no, .no, .no, .no, .no]) ⟨rfl, by simp, _, _, rfl⟩ ?_ ?_
    · rintro i p G q' hi ⟨rfl, hnd, a4, a5, rfl⟩
      obtain ⟨hp1, hp2⟩ := withIx_get hi
      obtain ⟨k, own⟩ := p
      have hp1 : k = i := hp1
      subst hp1
      have hp2 : B.hues[k]? = some own := hp2
      have hk : k < B.hues.length := (List.getElem?_eq_some_iff.mp hp2).1
      have hz : (B.hues.zip t)[k]? = some (own, t.getD k []) := by
        rw [List.getElem?_zip_eq_some]
        exact ⟨hp2, hth k hk⟩
      wtm_at "ph"
      refine ⟨by omega, by omega, ?_⟩
      refine lc_flt (xs := List.range k) (enc := fun (n : Nat) => PyData.int n) (f := fun _ => .int 1) (p := fun j => decide (B.hues.getD j 0 = own) && decide (t.getD j [] = t.getD k [])) (by rw [List.length_range]; omega) (fun j hj R R' hR hR' => ?_) ?_
      · have hjk := List.mem_range.mp hj
        have hj2 : B.hues[j]? = some (B.hues.getD j 0) := by rw [List.getD_eq_getElem?_getD, List.getElem?_eq_getElem (by omega)]; rfl
        wtm_at "ph"
        refine r_ixT (atI_ints hj2) ?_
        wtm_at "ph"
        by_cases e1 : B.hues.getD j 0 = own
        · have e1' : decide (((B.hues.getD j 0 : Nat) : Int) = (own : Nat)) = true := decide_eq_true (by rw [e1])
          rw [e1']
          rw [decide_eq_true e1, Bool.true_and] at hR hR'
          wtm_at "ph"
          refine r_ixThing (hth j (by omega)) ?_
          wtm_at "ph"
          refine r_ixThing (hth k hk) ?_
          refine r_bEqRow ?_
          wtm_at "ph"
          refine ⟨fun hb => ?_, fun hb => hR' hb _ rfl⟩
          wtm_at "ph"
          exact hR hb _ rfl
        · have e1' : decide (((B.hues.getD j 0 : Nat) : Int) = (own : Nat)) = false := decide_eq_false (by omega)
          rw [e1']
          rw [decide_eq_false e1, Bool.false_and] at hR hR'
          wtm_at "ph"
          exact hR' rfl _ rfl
      · wtm_at "ph"
        refine r_bNeNil ?_
        wtm_at "ph"
        have hmem : ((List.range k).filter fun j => decide (B.hues.getD j 0 = own) && decide (t.getD j [] = t.getD k [])).isEmpty = true ↔ (own, t.getD k []) ∉ (B.hues.zip t).take k := by
          rw [filter_isEmpty, List.all_eq_true]
          constructor
          · intro hall hm
            obtain ⟨j, hj, ej⟩ := List.getElem_of_mem hm
            have hjk : j < k := by rw [List.length_take] at hj; omega
            rw [List.getElem_take] at ej
            have hz2 : (B.hues.zip t)[j]? = some (own, t.getD k []) := by rw [List.getElem?_eq_getElem (by rw [hzl]; omega), ej]
            rw [List.getElem?_zip_eq_some] at hz2
            have := hall j (List.mem_range.mpr hjk)
            rw [getD_of hz2.1, getD_of hz2.2] at this
            simp at this
          · intro hm j hj
            have hjk := List.mem_range.mp hj
            rw [Bool.not_eq_true', Bool.and_eq_false_iff, decide_eq_false_iff_not, decide_eq_false_iff_not]
            rcases Classical.em (B.hues.getD j 0 = own) with e1 | e1
            · refine .inr fun e2 => hm ?_
              have hz2 : ((B.hues.zip t).take k)[j]? = some (own, t.getD k []) := by
                rw [List.getElem?_take_of_lt hjk, List.getElem?_zip_eq_some, ← e1, ← e2]
                exact ⟨by rw [List.getD_eq_getElem?_getD, List.getElem?_eq_getElem (by omega)]; rfl, hth j (by omega)⟩
              exact List.mem_of_getElem? hz2
            · exact .inl e1
        obtain ⟨t1, t2⟩ := take_nodup hz hnd
        refine ⟨fun hb => ?_, fun hb => ?_⟩
        · wtm_at "ph"
          have hin : (own, t.getD k []) ∈ (B.hues.zip t).take k := by
            refine Classical.byContradiction fun hni => ?_
            rw [hmem.mpr hni] at hb
            cases hb
          have hd : partsB B t = false := by
            unfold partsB distinctB
            rw [decide_eq_false (t1 hin), Bool.false_and]
          rw [hd] at h
          exact h
        · wtm_at "ph"
          refine ⟨rfl, t2 (hmem.mp (by simpa using hb)), _, _, rfl⟩
    · rintro G q' ⟨rfl, hnd, a4, a5, rfl⟩
      have hd : distinctB B.hues t = true := by
        unfold distinctB
        rw [withIx_len, ← hzl, List.take_length] at hnd
        exact decide_eq_true hnd
      unfold partsB at h
      rw [hd, Bool.true_and, ← agree_HP W] at h
      generalize hE : evH B t = E at h hEl
      have P0 : Pre E [] ((cellsOf B).flatMap (eh1 B t)) := ⟨[], by rw [← hE]; simp [evH]⟩
      wtm_at "ph"
      refine ⟨B, rfl, by omega, ?_⟩
      wtm_at "ph"
      refine for_map (fun i G q2 => q2 = q' ∧ ∃ kvs a4 a5 a6 a7 a8 a9 a10 a11 a12, Seen E ([] ++ ((cellsOf B).take i).flatMap (eh1 B t)) kvs ∧ G = [.d (bookD B), .d (thingD t), .d (.tuple (intD B.hues)), .k kvs, a4, a5, a6, a7, a8, a9, a10, a11, a12, .no]) ⟨rfl, [], _, _, _, _, _, _, _, _, _, Seen.zero E, rfl⟩ ?_ ?_
      · rintro i c G q2 hi ⟨rfl, kvs, a4, a5, a6, a7, a8, a9, a10, a11, a12, S, rfl⟩
        have hcm : c ∈ cellsOf B := List.mem_of_getElem? hi
        have hcell := W.cell hcm
        have hhue := W.hue hcm
        have hcl : c.hue < B.hues.length := (List.getElem?_eq_some_iff.mp hhue).1
        have P1 : Pre E ([] ++ ((cellsOf B).take i).flatMap (eh1 B t)) ((withIx B.hues).flatMap (eh2 B t c)) := P0.down hi
        generalize hpre1 : [] ++ ((cellsOf B).take i).flatMap (eh1 B t) = pre1 at S P1
        wtm_at "ph"
        refine for_map (fun k G q3 => q3 = q2 ∧ ∃ kvs a4 a5 a8 a9 a10 a11 a12, Seen E (pre1 ++ ((withIx B.hues).take k).flatMap (eh2 B t c)) kvs ∧ G = [.d (bookD B), .d (thingD t), .d (.tuple (intD B.hues)), .k kvs, a4, a5, .d (placeD c), .d (rowD c.row), a8, a9, a10, a11, a12, .no]) ⟨rfl, kvs, _, _, _, _, _, _, _, by rw [List.take_zero, List.flatMap_nil, List.append_nil]; exact S, rfl⟩ ?_ ?_
        · rintro k p2 G q3 hk ⟨rfl, kvs, a4, a5, a8, a9, a10, a11, a12, S, rfl⟩
          have hk2 := withIx_mem (List.mem_of_getElem? hk)
          have hkl : p2.1 < B.hues.length := (List.getElem?_eq_some_iff.mp hk2).1
          have hown : B.hues.getD p2.1 0 = p2.2 := getD_of hk2
          have P2 : Pre E (pre1 ++ ((withIx B.hues).take k).flatMap (eh2 B t c)) ([2, 3].flatMap (eh3 B t c p2.1)) := P1.down hk
          generalize hpre2 : pre1 ++ ((withIx B.hues).take k).flatMap (eh2 B t c) = pre2 at S P2
          wtm_at "ph"
          refine for_map (xs := [2, 3]) (enc := fun (n : Nat) => PyData.int n) (fun j G q4 => q4 = q3 ∧ ∃ kvs a8 a9 a10 a11 a12, Seen E (pre2 ++ (([2, 3] : List Nat).take j).flatMap (eh3 B t c p2.1)) kvs ∧ G = [.d (bookD B), .d (thingD t), .d (.tuple (intD B.hues)), .k kvs, .d (.int p2.1), .d (.int p2.2), .d (placeD c), .d (rowD c.row), a8, a9, a10, a11, a12, .no]) ⟨rfl, kvs, _, _, _, _, _, by rw [List.take_zero, List.flatMap_nil, List.append_nil]; exact S, rfl⟩ ?_ ?_
          · rintro j s G q4 hj ⟨rfl, kvs, a8, a9, a10, a11, a12, S, rfl⟩
            have hs : s = 2 ∨ s = 3 := by
              have := List.mem_of_getElem? hj
              simpa using this
            have hsl : (sideOf s c.row).length = B.hues.length ∧ ∀ x ∈ sideOf s c.row, x < B.hues.length := by
              unfold sideOf
              split
              · exact ⟨hcell.2.1, hcell.2.2.2.1⟩
              · exact ⟨hcell.2.2.1, hcell.2.2.2.2⟩
            have hsk : (sideOf s c.row)[p2.1]? = some ((sideOf s c.row).getD p2.1 0) := by rw [List.getD_eq_getElem?_getD, List.getElem?_eq_getElem (by rw [hsl.1]; exact hkl)]; rfl
            have hsm := hsl.2 _ (List.mem_of_getElem? hsk)
            have P3 : Pre E (pre2 ++ (([2, 3] : List Nat).take j).flatMap (eh3 B t c p2.1)) ((List.range (laterOf t c s p2.1).length).flatMap (eh4 B t c p2.1 s)) := P2.down hj
            generalize hpre3 : pre2 ++ (([2, 3] : List Nat).take j).flatMap (eh3 B t c p2.1) = pre3 at S P3
            have hlater : t.getD ((sideOf s c.row).getD p2.1 0) [] = laterOf t c s p2.1 := rfl
            have hll : (laterOf t c s p2.1).length ≤ 8 := by
              obtain ⟨_, m, _, m8, hm⟩ := T
              rw [← hlater, hm _ (List.mem_of_getElem? (hth _ hsm))]
              exact m8
            wtm_at "ph"
            refine r_ixSide hs ?_
            wtm_at "ph"
            refine r_ixT (atI_ints hsk) ?_
            wtm_at "ph"
            refine r_ixThing (hth _ hsm) ?_
            rw [hlater]
            wtm_at "ph"
            refine ⟨by omega, by omega, ?_⟩
            refine for_map (xs := List.range (laterOf t c s p2.1).length) (enc := fun (n : Nat) => PyData.int n) (fun l G q5 => q5 = q4 ∧ ∃ kvs a10 a11 a12, Seen E (pre3 ++ ((List.range (laterOf t c s p2.1).length).take l).flatMap (eh4 B t c p2.1 s)) kvs ∧ G = [.d (bookD B), .d (thingD t), .d (.tuple (intD B.hues)), .k kvs, .d (.int p2.1), .d (.int p2.2), .d (placeD c), .d (rowD c.row), .d (.int s), .d (rowT (laterOf t c s p2.1)), a10, a11, a12, .no]) ⟨rfl, kvs, _, _, _, by rw [List.take_zero, List.flatMap_nil, List.append_nil]; exact S, rfl⟩ ?_ ?_
            · rintro li l G q5 hl ⟨rfl, kvs, a10, a11, a12, S, rfl⟩
              have hlr := List.mem_range.mp (List.mem_of_getElem? hl)
              have hlv : (laterOf t c s p2.1)[l]? = some ((laterOf t c s p2.1).getD l 0) := by rw [List.getD_eq_getElem?_getD, List.getElem?_eq_getElem hlr]; rfl
              have P4 : Pre E (pre3 ++ ((List.range (laterOf t c s p2.1).length).take li).flatMap (eh4 B t c p2.1 s)) [(keyH B t c s p2.1 l, (laterOf t c s p2.1).getD l 0)] := P3.down hl
              generalize hpre4 : pre3 ++ ((List.range (laterOf t c s p2.1).length).take li).flatMap (eh4 B t c p2.1 s) = pre4 at S P4
              have hlen4 := P4.len
              have hSl := S.len
              generalize hv : (laterOf t c s p2.1).getD l 0 = num at P4 hlv hlen4
              have hkd := keyH_data B t c s p2.1 l
              rw [hown] at hkd
              have hE4 : eh4 B t c p2.1 s l = [(keyH B t c s p2.1 l, num)] := by unfold eh4; rw [hv]
              wtm_at "ph"
              refine r_ixT (atI_ints hhue) ?_
              wtm_at "ph"
              refine r_ixThing (hth _ hcl) ?_
              wtm_at "ph"
              refine r_slRowT1 ?_
              wtm_at "ph"
              refine r_ixThing (hth _ hkl) ?_
              wtm_at "ph"
              refine r_slRowT ?_
              wtm_at "ph"
              refine r_catT (Nat.le_of_ble_eq_true rfl) ?_
              wtm_at "ph"
              refine .inl ⟨keyH B t c s p2.1 l, kvs, by rw [hkd]; rfl, keyH_depth _ _ _ _ _ _, rfl, ?_⟩
              rw [S.tab]
              cases hlk : look pre4 (keyH B t c s p2.1 l) with
              | none =>
                wtm_at "ph"
                refine r_putD ?_
                wtm_at "ph"
                refine r_ixRowT hlv ?_
                wtm_at "ph"
                refine ⟨⟨_, rfl, fun z => nomatch z⟩, ?_⟩
                wtm_at "ph"
                refine .inl ⟨keyH B t c s p2.1 l, kvs, by rw [hkd]; rfl, keyH_depth _ _ _ _ _ _, rfl, by omega, ?_⟩
                refine ⟨rfl, _, _, _, _, ?_, rfl⟩
                rw [pre_next hl, hpre4, hE4]
                exact S.new P4 (.inr hlk)
              | some v =>
                wtm_at "ph"
                refine r_getD ⟨_, rfl, fun z => nomatch z⟩ ?_
                wtm_at "ph"
                refine .inl ⟨keyH B t c s p2.1 l, kvs, .int v, by rw [hkd]; rfl, keyH_depth _ _ _ _ _ _, rfl, by rw [S.tab, hlk]; rfl, ?_⟩
                wtm_at "ph"
                refine r_ixRowT hlv ?_
                wtm_at "ph"
                refine ⟨fun hne => ?_, fun heq => ?_⟩
                · wtm_at "ph"
                  rw [Seen.bad (kvs := kvs) P4 hlk (by
                    intro e
                    have e : v = num := e
                    rw [e, decide_eq_true rfl] at hne
                    cases hne)] at h
                  exact h
                · have heq : v = num := by
                    have := of_decide_eq_true (show decide ((v : Int) = num) = true by simpa using heq)
                    omega
                  rw [heq] at hlk
                  wtm_at "ph"
                  refine r_putD ?_
                  wtm_at "ph"
                  refine r_ixRowT hlv ?_
                  wtm_at "ph"
                  refine ⟨⟨_, rfl, fun z => nomatch z⟩, ?_⟩
                  wtm_at "ph"
                  refine .inl ⟨keyH B t c s p2.1 l, kvs, by rw [hkd]; rfl, keyH_depth _ _ _ _ _ _, rfl, by omega, ?_⟩
                  refine ⟨rfl, _, _, _, _, ?_, rfl⟩
                  rw [pre_next hl, hpre4, hE4]
                  exact S.new P4 (.inl hlk)
            · rintro G q5 ⟨rfl, kvs, a10, a11, a12, S, rfl⟩
              refine ⟨rfl, kvs, _, _, _, _, _, ?_, rfl⟩
              rw [List.take_length] at S
              rw [pre_next hj, hpre3]
              exact S
          · rintro G q4 ⟨rfl, kvs, a8, a9, a10, a11, a12, S, rfl⟩
            refine ⟨rfl, kvs, _, _, _, _, _, _, _, ?_, rfl⟩
            have S : Seen E (pre2 ++ ([2, 3] : List Nat).flatMap (eh3 B t c p2.1)) kvs := S
            rw [pre_next hk, hpre2]
            exact S
        · rintro G q3 ⟨rfl, kvs, a4, a5, a8, a9, a10, a11, a12, S, rfl⟩
          refine ⟨rfl, kvs, _, _, _, _, _, _, _, _, _, ?_, rfl⟩
          rw [List.take_length] at S
          rw [pre_next hi, hpre1]
          exact S
      · rintro G q2 ⟨rfl, kvs, a4, a5, a6, a7, a8, a9, a10, a11, a12, S, rfl⟩
        wtm_at "ph"
        rw [List.take_length, List.nil_append] at S
        have S : Seen (evH B t) (evH B t) kvs := by rw [← hE] at S; exact S
        rw [← hE, S.all] at h
        exact h
end
end Ph

set_option Elab.async false
set_option linter.all false
set_option maxRecDepth 100000
set_option maxHeartbeats 4000000
namespace Ph
open PySem L2
local macro_rules | `(tactic| wtm_at "ph") => `(tactic| (repeat (first | (with_reducible refine r_lc2 ?_) | (with_reducible refine r_gRow ?_) | (with_reducible refine r_lenRow ?_) | (with_reducible refine r_exThing ?_) | (with_reducible refine r_lenThing ?_) | (with_reducible refine r_exZth ?_) | (with_reducible refine r_ixBk3 ?_) | (with_reducible refine r_ixBk1 ?_) | (with_reducible refine r_row0 ?_) | (with_reducible refine r_row2 ?_) | (with_reducible refine r_row3 ?_) | (with_reducible refine r_pl0 ?_) | (with_reducible refine r_pl1 ?_) | (with_reducible refine r_pl2 ?_) | (with_reducible refine r_ce0 ?_) | (with_reducible refine r_ce1 ?_) | (with_reducible refine r_gCell ?_) | (with_reducible refine r_gPlace ?_) | (with_reducible refine r_slRow ?_) | (with_reducible refine r_slInt ?_) | (with_reducible refine r_slInt1 ?_) | (with_reducible refine r_exTab ?_) | (with_reducible refine r_exLine ?_) | (with_reducible refine r_numF ?_) | (with_reducible refine r_numFI ?_) | (with_reducible refine r_numL ?_) | (with_reducible refine r_numLI ?_) | (with_reducible refine r_lenI ?_) | (with_reducible refine r_bEqM ?_) | (with_reducible refine r_seq ?_) | (with_reducible refine r_next ?_) | (with_reducible refine r_asg ?_) | (with_reducible refine r_par ?_) | (with_reducible refine r_ret ?_) | (with_reducible refine r_ifS ?_) | (with_reducible refine r_C ?_) | (with_reducible refine r_fz ?_) | (with_reducible refine r_op ?_) | (with_reducible refine r_test ?_) | (with_reducible refine r_exB ?_) | (with_reducible refine r_and ?_) | (with_reducible refine r_not ?_) | (with_reducible refine r_neg ?_) | (with_reducible refine r_andT ?_) | (with_reducible refine r_orT ?_) | (with_reducible refine r_notT ?_) | (with_reducible refine r_if ?_) | (with_reducible refine r_nil ?_) | (with_reducible refine r_cons ?_) | (with_reducible refine r_dnil ?_) | (with_reducible refine r_dcons ?_) | (with_reducible refine r_tup ?_) | (with_reducible refine r_lst ?_) | (with_reducible refine r_call ?_) | (with_reducible refine r_isi ?_) | (with_reducible refine r_isi2 ?_) | (with_reducible refine r_exD ?_) | (with_reducible refine r_exI ?_) | (with_reducible refine r_tupRg ?_) | (with_reducible refine r_lstRg ?_) | (with_reducible refine r_sl ?_) | (with_reducible refine r_slT ?_) | (with_reducible refine r_slL ?_) | (with_reducible refine r_oNo ?_) | (with_reducible refine r_oI ?_) | (with_reducible refine r_fn ?_) | (with_reducible refine r_gName ?_) | (with_reducible refine r_gNil ?_) | (with_reducible refine r_gCons ?_) | (with_reducible refine r_iL ?_) | (with_reducible refine r_iT ?_) | (with_reducible refine r_iEL ?_) | (with_reducible refine r_iET ?_) | (with_reducible refine r_iLT ?_) | (with_reducible refine r_exLT_l ?_) | (with_reducible refine r_exLT_t ?_) | (with_reducible refine r_exL ?_) | (with_reducible refine r_exT ?_) | (with_reducible refine r_iR ?_) | (with_reducible refine r_iZ ?_) | (with_reducible refine r_exZt ?_) | (with_reducible refine r_exZl ?_) | (with_reducible refine r_idx ?_) | (with_reducible refine r_orL ?_) | (with_reducible refine r_disp ?_) | (with_reducible refine r_get ?_) | (with_reducible refine r_exS ?_) | (with_reducible refine r_exWD ?_) | (with_reducible refine r_back ?_) | (with_reducible refine r_lenSet ?_) | (with_reducible refine r_fnT ?_) | (with_reducible refine r_setO ?_) | (with_reducible refine r_tinSet ?_) | (with_reducible refine r_inD ?_) | (with_reducible refine r_par3 ?_) | (with_reducible refine r_ex3 ?_) | (with_reducible refine r_ex2 ?_) | (with_reducible refine r_yes ?_) | (with_reducible refine r_tt ?_) | (with_reducible refine r_ff ?_) | (with_reducible refine r_lc ?_) | (with_reducible refine r_for ?_) | (with_reducible refine r_int ?_) | (with_reducible refine r_intB ?_) | (with_reducible refine r_abs ?_) | (with_reducible refine r_isNn ?_) | (with_reducible refine r_isNb ?_) | (with_reducible refine r_isNi ?_) | (with_reducible refine r_isNs ?_) | (with_reducible refine r_bEqN ?_) | (with_reducible refine r_ft ?_) | (with_reducible refine r_tf ?_) | (with_reducible refine r_isN ?_) | ((with_reducible apply r_var); exact rfl) | ((with_reducible apply r_varT); exact rfl) | ((with_reducible apply r_varM); exact rfl) | ((with_reducible apply r_varS); exact rfl) | ((with_reducible apply r_lenO); exact rfl) | ((with_reducible apply r_len); exact rfl) | ((with_reducible apply r_tuple); exact rfl) | ((with_reducible apply r_list); exact rfl) | ((with_reducible apply r_ixT); exact rfl) | ((with_reducible apply r_ixL); exact rfl) | ((with_reducible apply r_gTup); exact rfl) | ((with_reducible apply r_fzS); exact rfl) | ((with_reducible apply r_ttE); exact rfl) | ((with_reducible apply r_ffE); exact rfl) | ((with_reducible apply r_ftE); exact rfl) | ((with_reducible apply r_tfE); exact rfl) | ((with_reducible apply r_app); exact ⟨_, rfl⟩) | ((with_reducible apply r_ixO); exact ⟨_, rfl⟩) | ((with_reducible apply r_ext); exact ⟨_, rfl⟩) | (with_reducible refine r_bEqS ?_) | (with_reducible refine r_bEqI ?_) | (with_reducible refine r_bEqT ?_) | (with_reducible refine r_bEqM ?_) | (with_reducible refine r_bEqB ?_) | (with_reducible refine r_bNeI ?_) | (with_reducible refine r_bNeT ?_) | (with_reducible refine r_bNeM ?_) | (with_reducible refine r_bNeB ?_) | ((with_reducible apply r_bI); first | exact trivial | omega | decide) | (refine ⟨Nat.le_of_ble_eq_true rfl, ?_⟩) | (dsimp only [frz]))))
section
variable {P : Program} {w : World} {K : PySem.W.Frag} {mg : Str → Option Value} {base : Heap}
/-! ## draws -/
def big40 : Nat := 1099511627776
theorem mod_nat (x : Int) {b : Nat} (hb : 0 < b) : ∃ i : Nat, i < b ∧ x % (b : Int) = (i : Int) := by
  have h1 := Int.emod_nonneg x (show (b : Int) ≠ 0 by omega)
  have h2 := Int.emod_lt_of_pos x (show (0 : Int) < b by omega)
  exact ⟨(x % (b : Int)).toNat, by omega, by omega⟩
def T_law_take : FT := fun ks q Q => ∃ (b n : Nat), ks = [.t, .d (.int b)] ∧ q = some n ∧ n < 1099511627776 ∧ 0 < b ∧ b < 1000000 ∧ ∀ i : Nat, i < b → Q (.d (.int i)) (some (n + 1))
theorem can_law_take (Bl : Blt mg) (F : Fn K mg "_law_take" s_law_take ["_law_tin", "_law_below_so"]) : Can P w K mg base 1 "_law_take" ["_law_tin", "_law_below_so"] T_law_take := by
  refine can_of F sc_law_take (fun ks q Qf h => ?_) (D_law_take Bl 0).2 fun ks q Qf h => ?_
  · obtain ⟨_, _, rfl, _⟩ := h
    rfl
  · obtain ⟨b, n, rfl, rfl, hn, hb, hb2, h⟩ := h
    unfold D_law_take
    dsimp only
    wtm_at "ph"
    refine r_tin rfl fun g hg => ?_
    wtm_at "ph"
    refine ⟨fun hc => ?_, fun hc => ?_⟩
    · have hg0 : 0 < g := by have := of_decide_eq_true hc; omega
      wtm_at "ph"
      refine r_tin rfl fun g2 hg2 => ?_
      wtm_at "ph"
      refine r_tin rfl fun g3 hg3 => ?_
      wtm_at "ph"
      refine r_bI ⟨by omega, by omega⟩ ?_
      wtm_at "ph"
      refine ⟨n, n + 1, _, rfl, rfl, rfl, ⟨Int.ediv_nonneg hg3.1 (by omega), fun z => absurd z (by decide), fun z => absurd z (by decide)⟩, by omega, ?_⟩
      wtm_at "ph"
      obtain ⟨i, hi, e⟩ := mod_nat g2 hb
      rw [e]
      exact h i hi
    · wtm_at "ph"
      refine r_tin rfl fun z hz => ?_
      wtm_at "ph"
      have hz2 := hz.2.2 rfl
      refine ⟨n, n + 1, _, rfl, rfl, rfl, ⟨by have := hz.1; omega, fun z => absurd z (by decide), fun _ => by omega⟩, by omega, ?_⟩
      wtm_at "ph"
      refine r_tin rfl fun s1 hs1 => ?_
      wtm_at "ph"
      refine r_tin rfl fun k1 hk1 => ?_
      refine r_bI (.inl (by decide)) ?_
      wtm_at "ph"
      refine r_tin rfl fun k2 hk2 => ?_
      wtm_at "ph"
      refine r_bI (.inr ?_) ?_
      · have a1 := hk2.1
        have a2 := hk2.2.2 rfl
        constructor <;> omega
      wtm_at "ph"
      generalize ho : (s1 + 48271 * k1) * (39373 + k2) % 2147483647 = once
      have ho1 := Int.emod_nonneg ((s1 + 48271 * k1) * (39373 + k2)) (show (2147483647 : Int) ≠ 0 by decide)
      have ho2 := Int.emod_lt_of_pos ((s1 + 48271 * k1) * (39373 + k2)) (show (0 : Int) < 2147483647 by decide)
      rw [ho] at ho1 ho2
      refine r_tin rfl fun k3 hk3 => ?_
      wtm_at "ph"
      refine r_tin rfl fun s2 hs2 => ?_
      wtm_at "ph"
      refine r_bI ⟨by decide, by decide⟩ ?_
      wtm_at "ph"
      refine r_bI (.inr ?_) ?_
      · have a1 := Int.emod_nonneg once (show (40009 : Int) ≠ 0 by decide)
        have a2 := Int.emod_lt_of_pos once (show (0 : Int) < 40009 by decide)
        constructor <;> omega
      wtm_at "ph"
      refine r_bI (.inr (by decide)) ?_
      wtm_at "ph"
      refine r_bI ⟨by decide, by decide⟩ ?_
      wtm_at "ph"
      generalize (_ : Int) / 64 = v
      obtain ⟨i, hi, e⟩ := mod_nat v hb
      rw [e]
      exact h i hi
def T_law_of : FT := fun ks q Q => ∃ (xs : List PyData) (n : Nat), ks = [.t, .d (.list xs)] ∧ q = some n ∧ n < 1099511627776 ∧ xs ≠ [] ∧ xs.length ≤ 1000 ∧ ∀ x ∈ xs, Q (.d x) (some (n + 1))
theorem can_law_of (Bl : Blt mg) (F : Fn K mg "_law_of" s_law_of ["_law_tin", "_law_goods_so"]) (C1 : Can P w K mg base 1 "_law_take" ["_law_tin", "_law_below_so"] T_law_take) : Can P w K mg base 2 "_law_of" ["_law_tin", "_law_goods_so"] T_law_of := by
  refine can_of F sc_law_of (fun ks q Qf h => ?_) (D_law_of Bl 1 C1 (by omega)).2 fun ks q Qf h => ?_
  · obtain ⟨_, _, rfl, _⟩ := h
    rfl
  · obtain ⟨xs, n, rfl, rfl, hn, hne, hl, h⟩ := h
    unfold D_law_of
    dsimp only
    wtm_at "ph"
    have hpos : 0 < xs.length := List.length_pos_iff.mpr hne
    refine ⟨xs.length, n, rfl, rfl, hn, hpos, by omega, fun i hi => ?_⟩
    refine r_ixL (atI_nat (List.getElem?_eq_getElem hi)) ?_
    wtm_at "ph"
    exact h _ (List.getElem_mem hi)
def MapOk (n : Nat) (ms : List Nat) : Prop := ms.length = n ∧ ∀ x ∈ ms, x < n
def T_law_map : FT := fun ks q Q => ∃ (hs : List Nat) (n : Nat), ks = [.t, .d (.tuple (intD hs))] ∧ q = some n ∧ n + 8 < 1099511627776 ∧ hs.length ≤ 8 ∧ ∀ ms m, MapOk hs.length ms → m ≤ n + 8 → Q (.d (.tuple (intD ms))) (some m)
theorem ints_of_all {P : Nat → Prop} : ∀ {ys : List PyData}, (∀ (i : Nat) y, ys[i]? = some y → ∃ x : Nat, y = .int x ∧ P x) → ∃ ms : List Nat, ys = intD ms ∧ ms.length = ys.length ∧ ∀ x ∈ ms, P x
  | [], _ => ⟨[], rfl, rfl, fun x h => (by cases h)⟩
  | y :: ys, h => by
    obtain ⟨x, rfl, hx⟩ := h 0 y rfl
    obtain ⟨ms, rfl, hl, hm⟩ := ints_of_all (ys := ys) fun i z hz => h (i + 1) z hz
    refine ⟨x :: ms, rfl, by rw [List.length_cons, List.length_cons, hl], fun z hz => ?_⟩
    rcases List.mem_cons.mp hz with rfl | hz
    · exact hx
    · exact hm z hz
set_option maxHeartbeats 8000000 in
theorem can_law_map (Bl : Blt mg) (F : Fn K mg "_law_map" s_law_map ["_law_tin", "_law_hues_so"]) (C1 : Can P w K mg base 2 "_law_of" ["_law_tin", "_law_goods_so"] T_law_of) : Can P w K mg base 3 "_law_map" ["_law_tin", "_law_hues_so"] T_law_map := by
  refine can_of F sc_law_map (fun ks q Qf h => ?_) (D_law_map Bl 2 C1 (by omega)).2 fun ks q Qf h => ?_
  · obtain ⟨_, _, rfl, _⟩ := h
    rfl
  · obtain ⟨hs, n, rfl, rfl, hn, hl, h⟩ := h
    unfold D_law_map
    dsimp only
    wtm_at "ph"
    refine lc_draw (xs := hs) (enc := fun (n : Nat) => PyData.int n) (c := 1) (P := fun _ y => ∃ x : Nat, y = .int x ∧ x < hs.length) rfl (by omega) (fun i own m hi hm R R' hR => ?_) fun ys m hm hyl hy => ?_
    · have hil : i < hs.length := (List.getElem?_eq_some_iff.mp hi).1
      wtm_at "ph"
      refine lc_flt (f := fun p => .int p.1) (p := fun p => decide (p.2 = own)) (by rw [withIx_len]; omega) (fun p hp R2 R2' hR2 hR2' => ?_) ?_
      · wtm_at "ph"
        refine ⟨fun hb => ?_, fun hb => ?_⟩
        · wtm_at "ph"
          refine hR2 (decide_eq_true (by have := of_decide_eq_true hb; omega)) _ rfl
        · refine hR2' (decide_eq_false (by have := of_decide_eq_false hb; omega)) _ rfl
      · wtm_at "ph"
        refine ⟨_, m, rfl, rfl, by omega, ?_, ?_, fun x hx => ?_⟩
        · have hm1 : ((i, own) : Nat × Nat) ∈ (withIx hs).filter fun p => decide (p.2 = own) := List.mem_filter.mpr ⟨withIx_of hi, decide_eq_true rfl⟩
          intro e
          have e2 := List.map_eq_nil_iff.mp e
          rw [e2] at hm1
          cases hm1
        · rw [List.length_map]
          have := List.length_filter_le (fun p : Nat × Nat => decide (p.2 = own)) (withIx hs)
          rw [withIx_len] at this
          omega
        · obtain ⟨p, hp, rfl⟩ := List.mem_map.mp hx
          have hp2 := withIx_mem (List.mem_filter.mp hp).1
          exact hR _ _ _ ⟨p.1, rfl, (List.getElem?_eq_some_iff.mp hp2).1⟩ (by omega) rfl
    · wtm_at "ph"
      obtain ⟨ms, rfl, hml, hmm⟩ := ints_of_all hy
      exact h ms m ⟨by rw [hml, hyl], hmm⟩ (by omega)
theorem b01 (c : Bool) : (0 : Int) ≤ (if c = true then 1 else 0) ∧ (if c = true then 1 else 0) ≤ (1 : Int) := by cases c <;> decide
def intsZ (ns : List Int) : List PyData := ns.map PyData.int
def T_law_box : FT := fun ks q Q => ∃ (ns : List Int) (k : Nat), ks = [.d (.list (intsZ ns)), .d (.int k)] ∧ k ≤ 1000 ∧ ∀ g s : Int, 0 ≤ g → 0 ≤ s → s < 4000000000000000000 → Q (.l [.int g, .int s, .int 0]) q
theorem can_law_box (Bl : Blt mg) (F : Fn K mg "_law_box" s_law_box ["_law_script", "_law_k"]) : Can P w K mg base 1 "_law_box" ["_law_script", "_law_k"] T_law_box := by
  refine can_of F sc_law_box (fun ks q Qf h => ?_) (D_law_box Bl 0).2 fun ks q Qf h => ?_
  · obtain ⟨_, _, rfl, _⟩ := h
    rfl
  · obtain ⟨ns, k, rfl, hk, h⟩ := h
    unfold D_law_box
    dsimp only
    wtm_at "ph"
    refine ⟨fun hc => ?_, fun hc => ?_⟩
    · have hlt : k < ns.length := by
        have := of_decide_eq_true hc
        unfold intsZ at this
        rw [List.length_map] at this
        omega
      wtm_at "ph"
      refine r_ixL (atI_nat (show (intsZ ns)[k]? = some (.int ns[k]) by unfold intsZ; rw [List.getElem?_map, List.getElem?_eq_getElem hlt]; rfl)) ?_
      generalize ns[k] = bit
      wtm_at "ph"
      refine r_bI ⟨by decide, by decide, by decide⟩ ?_
      wtm_at "ph"
      refine r_bI (.inr ⟨Int.lt_of_lt_of_le (by decide) (b01 _).1, Int.lt_of_le_of_lt (b01 _).2 (by decide)⟩) ?_
      wtm_at "ph"
      refine r_bI (.inl (by decide)) ?_
      wtm_at "ph"
      refine h _ _ ?_ ?_ ?_
      · refine Int.mul_nonneg ?_ ?_
        · split <;> omega
        · exact (b01 _).1
      · have a1 := Int.emod_nonneg bit (show (2305843009213693951 : Int) ≠ 0 by decide)
        omega
      · have a2 := Int.emod_lt_of_pos bit (show (0 : Int) < 2305843009213693951 by decide)
        omega
    · wtm_at "ph"
      refine r_bI ⟨by decide, by decide, by decide⟩ ?_
      wtm_at "ph"
      refine r_bI (.inr ⟨Int.lt_of_lt_of_le (by decide) (b01 _).1, Int.lt_of_le_of_lt (b01 _).2 (by decide)⟩) ?_
      wtm_at "ph"
      refine r_bI (.inl (by decide)) ?_
      wtm_at "ph"
      refine h _ _ ?_ ?_ ?_
      · refine Int.mul_nonneg ?_ ?_
        · split <;> omega
        · exact (b01 _).1
      · have a1 := Int.emod_nonneg 0 (show (2305843009213693951 : Int) ≠ 0 by decide)
        omega
      · have a2 := Int.emod_lt_of_pos 0 (show (0 : Int) < 2305843009213693951 by decide)
        omega

end
end Ph

set_option Elab.async false
set_option linter.all false
set_option maxRecDepth 100000
set_option maxHeartbeats 4000000
namespace Ph
open PySem L2
local macro_rules | `(tactic| wtm_at "ph") => `(tactic| (repeat (first | (with_reducible refine r_lc2 ?_) | (with_reducible refine r_gRow ?_) | (with_reducible refine r_lenRow ?_) | (with_reducible refine r_exThing ?_) | (with_reducible refine r_lenThing ?_) | (with_reducible refine r_exZth ?_) | (with_reducible refine r_ixBk3 ?_) | (with_reducible refine r_ixBk1 ?_) | (with_reducible refine r_row0 ?_) | (with_reducible refine r_row2 ?_) | (with_reducible refine r_row3 ?_) | (with_reducible refine r_pl0 ?_) | (with_reducible refine r_pl1 ?_) | (with_reducible refine r_pl2 ?_) | (with_reducible refine r_ce0 ?_) | (with_reducible refine r_ce1 ?_) | (with_reducible refine r_gCell ?_) | (with_reducible refine r_gPlace ?_) | (with_reducible refine r_slRow ?_) | (with_reducible refine r_slInt ?_) | (with_reducible refine r_slInt1 ?_) | (with_reducible refine r_exTab ?_) | (with_reducible refine r_exLine ?_) | (with_reducible refine r_numF ?_) | (with_reducible refine r_numFI ?_) | (with_reducible refine r_numL ?_) | (with_reducible refine r_numLI ?_) | (with_reducible refine r_lenI ?_) | (with_reducible refine r_bEqM ?_) | (with_reducible refine r_seq ?_) | (with_reducible refine r_next ?_) | (with_reducible refine r_asg ?_) | (with_reducible refine r_par ?_) | (with_reducible refine r_ret ?_) | (with_reducible refine r_ifS ?_) | (with_reducible refine r_C ?_) | (with_reducible refine r_fz ?_) | (with_reducible refine r_op ?_) | (with_reducible refine r_test ?_) | (with_reducible refine r_exB ?_) | (with_reducible refine r_and ?_) | (with_reducible refine r_not ?_) | (with_reducible refine r_neg ?_) | (with_reducible refine r_andT ?_) | (with_reducible refine r_orT ?_) | (with_reducible refine r_notT ?_) | (with_reducible refine r_if ?_) | (with_reducible refine r_nil ?_) | (with_reducible refine r_cons ?_) | (with_reducible refine r_dnil ?_) | (with_reducible refine r_dcons ?_) | (with_reducible refine r_tup ?_) | (with_reducible refine r_lst ?_) | (with_reducible refine r_call ?_) | (with_reducible refine r_isi ?_) | (with_reducible refine r_isi2 ?_) | (with_reducible refine r_exD ?_) | (with_reducible refine r_exI ?_) | (with_reducible refine r_tupRg ?_) | (with_reducible refine r_lstRg ?_) | (with_reducible refine r_sl ?_) | (with_reducible refine r_slT ?_) | (with_reducible refine r_slL ?_) | (with_reducible refine r_oNo ?_) | (with_reducible refine r_oI ?_) | (with_reducible refine r_fn ?_) | (with_reducible refine r_gName ?_) | (with_reducible refine r_gNil ?_) | (with_reducible refine r_gCons ?_) | (with_reducible refine r_iL ?_) | (with_reducible refine r_iT ?_) | (with_reducible refine r_iEL ?_) | (with_reducible refine r_iET ?_) | (with_reducible refine r_iLT ?_) | (with_reducible refine r_exLT_l ?_) | (with_reducible refine r_exLT_t ?_) | (with_reducible refine r_exL ?_) | (with_reducible refine r_exT ?_) | (with_reducible refine r_iR ?_) | (with_reducible refine r_iZ ?_) | (with_reducible refine r_exZt ?_) | (with_reducible refine r_exZl ?_) | (with_reducible refine r_idx ?_) | (with_reducible refine r_orL ?_) | (with_reducible refine r_disp ?_) | (with_reducible refine r_get ?_) | (with_reducible refine r_exS ?_) | (with_reducible refine r_exWD ?_) | (with_reducible refine r_back ?_) | (with_reducible refine r_lenSet ?_) | (with_reducible refine r_fnT ?_) | (with_reducible refine r_setO ?_) | (with_reducible refine r_tinSet ?_) | (with_reducible refine r_inD ?_) | (with_reducible refine r_par3 ?_) | (with_reducible refine r_ex3 ?_) | (with_reducible refine r_ex2 ?_) | (with_reducible refine r_yes ?_) | (with_reducible refine r_tt ?_) | (with_reducible refine r_ff ?_) | (with_reducible refine r_lc ?_) | (with_reducible refine r_for ?_) | (with_reducible refine r_int ?_) | (with_reducible refine r_intB ?_) | (with_reducible refine r_abs ?_) | (with_reducible refine r_isNn ?_) | (with_reducible refine r_isNb ?_) | (with_reducible refine r_isNi ?_) | (with_reducible refine r_isNs ?_) | (with_reducible refine r_bEqN ?_) | (with_reducible refine r_ft ?_) | (with_reducible refine r_tf ?_) | (with_reducible refine r_isN ?_) | ((with_reducible apply r_var); exact rfl) | ((with_reducible apply r_varT); exact rfl) | ((with_reducible apply r_varM); exact rfl) | ((with_reducible apply r_varS); exact rfl) | ((with_reducible apply r_lenO); exact rfl) | ((with_reducible apply r_len); exact rfl) | ((with_reducible apply r_tuple); exact rfl) | ((with_reducible apply r_list); exact rfl) | ((with_reducible apply r_ixT); exact rfl) | ((with_reducible apply r_ixL); exact rfl) | ((with_reducible apply r_gTup); exact rfl) | ((with_reducible apply r_fzS); exact rfl) | ((with_reducible apply r_ttE); exact rfl) | ((with_reducible apply r_ffE); exact rfl) | ((with_reducible apply r_ftE); exact rfl) | ((with_reducible apply r_tfE); exact rfl) | ((with_reducible apply r_app); exact ⟨_, rfl⟩) | ((with_reducible apply r_ixO); exact ⟨_, rfl⟩) | ((with_reducible apply r_ext); exact ⟨_, rfl⟩) | (with_reducible refine r_bEqS ?_) | (with_reducible refine r_bEqI ?_) | (with_reducible refine r_bEqT ?_) | (with_reducible refine r_bEqM ?_) | (with_reducible refine r_bEqB ?_) | (with_reducible refine r_bNeI ?_) | (with_reducible refine r_bNeT ?_) | (with_reducible refine r_bNeM ?_) | (with_reducible refine r_bNeB ?_) | ((with_reducible apply r_bI); first | exact trivial | omega | decide) | (refine ⟨Nat.le_of_ble_eq_true rfl, ?_⟩) | (dsimp only [frz]))))
section
variable {P : Program} {w : World} {K : PySem.W.Frag} {mg : Str → Option Value} {base : Heap}
theorem cut_ints (ns : List Int) (lo hi : Option Int) : cutD (intsZ ns) lo hi = intsZ ((ns.drop (HT.sIx ns.length 0 lo)).take (HT.sIx ns.length ns.length hi - HT.sIx ns.length 0 lo)) := by
  unfold cutD intsZ
  rw [List.length_map, List.map_take, List.map_drop]
def T_law_cells : FT := fun ks q Q => ∃ ns : List Int, ks = [.d (.list (intsZ ns)), .d (.int 2)] ∧ ns.length ≤ 63 ∧ ∀ ms : List Int, 0 < ms.length → ms.length ≤ 2 → Q (.l (intsZ ms)) q
set_option maxHeartbeats 8000000 in
theorem can_law_cells (Bl : Blt mg) (F : Fn K mg "_law_cells" s_law_cells ["_law_script", "_law_most_so"]) : Can P w K mg base 1 "_law_cells" ["_law_script", "_law_most_so"] T_law_cells := by
  refine can_of F sc_law_cells (fun ks q Qf h => ?_) (D_law_cells Bl 0).2 fun ks q Qf h => ?_
  · obtain ⟨_, rfl, _⟩ := h
    rfl
  · obtain ⟨ns, rfl, hl, h⟩ := h
    unfold D_law_cells
    dsimp only
    wtm_at "ph"
    rw [cut_ints]
    have e0 : (ns.drop (HT.sIx ns.length 0 none)).take (HT.sIx ns.length ns.length (some 2) - HT.sIx ns.length 0 none) = ns.take 2 := by
      have s1 : HT.sIx ns.length ns.length (some 2) = min 2 ns.length := HT.sIx_nat _ _ 2
      rw [s1]
      show (ns.drop 0).take (min 2 ns.length - 0) = ns.take 2
      rw [List.drop_zero, Nat.sub_zero]
      by_cases h2 : 2 ≤ ns.length
      · rw [Nat.min_eq_left h2]
      · rw [Nat.min_eq_right (by omega), List.take_length, List.take_of_length_le (by omega)]
    rw [e0]
    refine ⟨intsZ (ns.take 2), rfl, fun hne => ?_, fun he => ?_⟩
    · have hms : ∃ ms0, ms0 = ns.take 2 := ⟨_, rfl⟩
      obtain ⟨ms0, hms0⟩ := hms
      rw [← hms0] at hne ⊢
      have h0 : 0 < ms0.length := by
        cases ms0 with
        | nil => exact absurd rfl hne
        | cons _ _ => exact Nat.succ_pos _
      have h2 : ms0.length ≤ 2 := by rw [hms0, List.length_take]; omega
      have hm3 : 2 < ns.length → ms0.length = 2 := fun hq => by rw [hms0, List.length_take]; omega
      wtm_at "ph"
      rw [cut_ints]
      generalize hys : ((ns.drop (HT.sIx ns.length 0 (some 2))).take (HT.sIx ns.length ns.length (some 63) - HT.sIx ns.length 0 (some 2))) = ys
      have hyl : 0 < ys.length → ms0.length = 2 := fun hp => by
        have s2 : HT.sIx ns.length 0 (some 2) = min 2 ns.length := HT.sIx_nat _ _ 2
        rw [← hys, List.length_take, List.length_drop, s2] at hp
        exact hm3 (by omega)
      have hyb : ys.length ≤ 63 := by
        rw [← hys, List.length_take, List.length_drop]
        omega
      refine r_numF ?_
      refine for_map (fun i G q' => q' = q ∧ ∃ (ms : List Int) (a3 a4 a5 : Sl), ms.length = ms0.length ∧ G = [.d (.list (intsZ ns)), .d (.int 2), .l (intsZ ms), a3, a4, a5]) ⟨rfl, ms0, _, _, _, rfl, rfl⟩ ?_ ?_
      · rintro i p G q' hi ⟨rfl, ms, a3, a4, a5, hml, rfl⟩
        obtain ⟨hp1, hp2⟩ := withIx_get hi
        have hlt : i < ys.length := (List.getElem?_eq_some_iff.mp hp2).1
        have hm2 : ms.length = 2 := by rw [hml]; exact hyl (by omega)
        wtm_at "ph"
        obtain ⟨j, hj, ej⟩ : ∃ j : Nat, j < 2 ∧ (p.1 : Int) % 2 = j := mod_nat p.1 (b := 2) (by decide)
        rw [ej]
        refine r_ixO (a := 0) ⟨_, rfl⟩ ?_
        wtm_at "ph"
        refine ⟨j, intsZ ms, .int ms[j], rfl, rfl, atI_nat (by unfold intsZ; rw [List.getElem?_map, List.getElem?_eq_getElem (by omega)]; rfl), ?_⟩
        wtm_at "ph"
        refine r_bI (.inr ⟨by omega, by omega⟩) ?_
        wtm_at "ph"
        refine ⟨⟨_, rfl⟩, ?_⟩
        wtm_at "ph"
        refine ⟨_, j, j, intsZ ms, rfl, rfl, rfl, ?_, ?_⟩
        · unfold ixN intsZ
          rw [List.length_map, if_pos (by omega), if_pos (by omega)]
          rfl
        · have e9 : intsZ (ms.set j (ms[j] + p.2 * (p.1 + 2))) = (intsZ ms).set j (.int (ms[j] + p.2 * (p.1 + 2))) := by
            unfold intsZ
            rw [List.map_set]
          refine ⟨rfl, ms.set j (ms[j] + p.2 * (p.1 + 2)), .d (.int p.1), .d (.int p.2), .d (.int j), by rw [List.length_set]; exact hml, ?_⟩
          rw [e9]
          rfl
      · rintro G q' ⟨rfl, ms, a3, a4, a5, hml, rfl⟩
        wtm_at "ph"
        exact h ms (by omega) (by omega)
    · have hn0 : ns.length = 0 := by
        have := congrArg List.length he
        unfold intsZ at this
        rw [List.length_map, List.length_take, List.length_nil] at this
        omega
      have hms : ∃ ms0 : List Int, ms0 = [0] := ⟨_, rfl⟩
      obtain ⟨ms0, hms0⟩ := hms
      have h0 : 0 < ms0.length := by rw [hms0]; decide
      have h2 : ms0.length ≤ 2 := by rw [hms0]; decide
      have hm3 : 2 < ns.length → ms0.length = 2 := fun hq => by omega
      wtm_at "ph"
      have e1 : ([PyData.int 0] : List PyData) = intsZ ms0 := by rw [hms0]; rfl
      rw [e1]
      rw [cut_ints]
      generalize hys : ((ns.drop (HT.sIx ns.length 0 (some 2))).take (HT.sIx ns.length ns.length (some 63) - HT.sIx ns.length 0 (some 2))) = ys
      have hyl : 0 < ys.length → ms0.length = 2 := fun hp => by
        have s2 : HT.sIx ns.length 0 (some 2) = min 2 ns.length := HT.sIx_nat _ _ 2
        rw [← hys, List.length_take, List.length_drop, s2] at hp
        exact hm3 (by omega)
      have hyb : ys.length ≤ 63 := by
        rw [← hys, List.length_take, List.length_drop]
        omega
      refine r_numF ?_
      refine for_map (fun i G q' => q' = q ∧ ∃ (ms : List Int) (a3 a4 a5 : Sl), ms.length = ms0.length ∧ G = [.d (.list (intsZ ns)), .d (.int 2), .l (intsZ ms), a3, a4, a5]) ⟨rfl, ms0, _, _, _, rfl, rfl⟩ ?_ ?_
      · rintro i p G q' hi ⟨rfl, ms, a3, a4, a5, hml, rfl⟩
        obtain ⟨hp1, hp2⟩ := withIx_get hi
        have hlt : i < ys.length := (List.getElem?_eq_some_iff.mp hp2).1
        have hm2 : ms.length = 2 := by rw [hml]; exact hyl (by omega)
        wtm_at "ph"
        obtain ⟨j, hj, ej⟩ : ∃ j : Nat, j < 2 ∧ (p.1 : Int) % 2 = j := mod_nat p.1 (b := 2) (by decide)
        rw [ej]
        refine r_ixO (a := 0) ⟨_, rfl⟩ ?_
        wtm_at "ph"
        refine ⟨j, intsZ ms, .int ms[j], rfl, rfl, atI_nat (by unfold intsZ; rw [List.getElem?_map, List.getElem?_eq_getElem (by omega)]; rfl), ?_⟩
        wtm_at "ph"
        refine r_bI (.inr ⟨by omega, by omega⟩) ?_
        wtm_at "ph"
        refine ⟨⟨_, rfl⟩, ?_⟩
        wtm_at "ph"
        refine ⟨_, j, j, intsZ ms, rfl, rfl, rfl, ?_, ?_⟩
        · unfold ixN intsZ
          rw [List.length_map, if_pos (by omega), if_pos (by omega)]
          rfl
        · have e9 : intsZ (ms.set j (ms[j] + p.2 * (p.1 + 2))) = (intsZ ms).set j (.int (ms[j] + p.2 * (p.1 + 2))) := by
            unfold intsZ
            rw [List.map_set]
          refine ⟨rfl, ms.set j (ms[j] + p.2 * (p.1 + 2)), .d (.int p.1), .d (.int p.2), .d (.int j), by rw [List.length_set]; exact hml, ?_⟩
          rw [e9]
          rfl
      · rintro G q' ⟨rfl, ms, a3, a4, a5, hml, rfl⟩
        wtm_at "ph"
        exact h ms (by omega) (by omega)
end
end Ph

set_option Elab.async false
set_option linter.all false
set_option maxRecDepth 100000
set_option maxHeartbeats 4000000
namespace Ph
open PySem L2
local macro_rules | `(tactic| wtm_at "ph") => `(tactic| (repeat (first | (with_reducible refine r_lc2 ?_) | (with_reducible refine r_gRow ?_) | (with_reducible refine r_lenRow ?_) | (with_reducible refine r_exThing ?_) | (with_reducible refine r_lenThing ?_) | (with_reducible refine r_exZth ?_) | (with_reducible refine r_ixBk3 ?_) | (with_reducible refine r_ixBk1 ?_) | (with_reducible refine r_row0 ?_) | (with_reducible refine r_row2 ?_) | (with_reducible refine r_row3 ?_) | (with_reducible refine r_pl0 ?_) | (with_reducible refine r_pl1 ?_) | (with_reducible refine r_pl2 ?_) | (with_reducible refine r_ce0 ?_) | (with_reducible refine r_ce1 ?_) | (with_reducible refine r_gCell ?_) | (with_reducible refine r_gPlace ?_) | (with_reducible refine r_slRow ?_) | (with_reducible refine r_slInt ?_) | (with_reducible refine r_slInt1 ?_) | (with_reducible refine r_exTab ?_) | (with_reducible refine r_exLine ?_) | (with_reducible refine r_numF ?_) | (with_reducible refine r_numFI ?_) | (with_reducible refine r_numL ?_) | (with_reducible refine r_numLI ?_) | (with_reducible refine r_lenI ?_) | (with_reducible refine r_bEqM ?_) | (with_reducible refine r_seq ?_) | (with_reducible refine r_next ?_) | (with_reducible refine r_asg ?_) | (with_reducible refine r_par ?_) | (with_reducible refine r_ret ?_) | (with_reducible refine r_ifS ?_) | (with_reducible refine r_C ?_) | (with_reducible refine r_fz ?_) | (with_reducible refine r_op ?_) | (with_reducible refine r_test ?_) | (with_reducible refine r_exB ?_) | (with_reducible refine r_and ?_) | (with_reducible refine r_not ?_) | (with_reducible refine r_neg ?_) | (with_reducible refine r_andT ?_) | (with_reducible refine r_orT ?_) | (with_reducible refine r_notT ?_) | (with_reducible refine r_if ?_) | (with_reducible refine r_nil ?_) | (with_reducible refine r_cons ?_) | (with_reducible refine r_dnil ?_) | (with_reducible refine r_dcons ?_) | (with_reducible refine r_tup ?_) | (with_reducible refine r_lst ?_) | (with_reducible refine r_call ?_) | (with_reducible refine r_isi ?_) | (with_reducible refine r_isi2 ?_) | (with_reducible refine r_exD ?_) | (with_reducible refine r_exI ?_) | (with_reducible refine r_tupRg ?_) | (with_reducible refine r_lstRg ?_) | (with_reducible refine r_sl ?_) | (with_reducible refine r_slT ?_) | (with_reducible refine r_slL ?_) | (with_reducible refine r_oNo ?_) | (with_reducible refine r_oI ?_) | (with_reducible refine r_fn ?_) | (with_reducible refine r_gName ?_) | (with_reducible refine r_gNil ?_) | (with_reducible refine r_gCons ?_) | (with_reducible refine r_iL ?_) | (with_reducible refine r_iT ?_) | (with_reducible refine r_iEL ?_) | (with_reducible refine r_iET ?_) | (with_reducible refine r_iLT ?_) | (with_reducible refine r_exLT_l ?_) | (with_reducible refine r_exLT_t ?_) | (with_reducible refine r_exL ?_) | (with_reducible refine r_exT ?_) | (with_reducible refine r_iR ?_) | (with_reducible refine r_iZ ?_) | (with_reducible refine r_exZt ?_) | (with_reducible refine r_exZl ?_) | (with_reducible refine r_idx ?_) | (with_reducible refine r_orL ?_) | (with_reducible refine r_disp ?_) | (with_reducible refine r_get ?_) | (with_reducible refine r_exS ?_) | (with_reducible refine r_exWD ?_) | (with_reducible refine r_back ?_) | (with_reducible refine r_lenSet ?_) | (with_reducible refine r_fnT ?_) | (with_reducible refine r_setO ?_) | (with_reducible refine r_tinSet ?_) | (with_reducible refine r_par3 ?_) | (with_reducible refine r_ex3 ?_) | (with_reducible refine r_ex2 ?_) | (with_reducible refine r_yes ?_) | (with_reducible refine r_tt ?_) | (with_reducible refine r_ff ?_) | (with_reducible refine r_lc ?_) | (with_reducible refine r_for ?_) | (with_reducible refine r_int ?_) | (with_reducible refine r_intB ?_) | (with_reducible refine r_abs ?_) | (with_reducible refine r_isNn ?_) | (with_reducible refine r_isNb ?_) | (with_reducible refine r_isNi ?_) | (with_reducible refine r_isNs ?_) | (with_reducible refine r_bEqN ?_) | (with_reducible refine r_ft ?_) | (with_reducible refine r_tf ?_) | (with_reducible refine r_isN ?_) | ((with_reducible apply r_var); exact rfl) | ((with_reducible apply r_varT); exact rfl) | ((with_reducible apply r_varM); exact rfl) | ((with_reducible apply r_varS); exact rfl) | ((with_reducible apply r_lenO); exact rfl) | ((with_reducible apply r_len); exact rfl) | ((with_reducible apply r_tuple); exact rfl) | ((with_reducible apply r_list); exact rfl) | ((with_reducible apply r_ixT); exact rfl) | ((with_reducible apply r_ixL); exact rfl) | ((with_reducible apply r_gTup); exact rfl) | ((with_reducible apply r_fzS); exact rfl) | ((with_reducible apply r_ttE); exact rfl) | ((with_reducible apply r_ffE); exact rfl) | ((with_reducible apply r_ftE); exact rfl) | ((with_reducible apply r_tfE); exact rfl) | ((with_reducible apply r_app); exact ⟨_, rfl⟩) | ((with_reducible apply r_ixO); exact ⟨_, rfl⟩) | ((with_reducible apply r_ext); exact ⟨_, rfl⟩) | (with_reducible refine r_bEqS ?_) | (with_reducible refine r_bEqI ?_) | (with_reducible refine r_bEqT ?_) | (with_reducible refine r_bEqM ?_) | (with_reducible refine r_bEqB ?_) | (with_reducible refine r_bNeI ?_) | (with_reducible refine r_bNeT ?_) | (with_reducible refine r_bNeM ?_) | (with_reducible refine r_bNeB ?_) | ((with_reducible apply r_bI); first | exact trivial | omega | decide) | (refine ⟨Nat.le_of_ble_eq_true rfl, ?_⟩) | (dsimp only [frz]))))
section
variable {P : Program} {w : World} {K : PySem.W.Frag} {mg : Str → Option Value} {base : Heap}
/-! ## _law_book: the kept maps -/
abbrev Mp := List Nat × List Nat
def mpD (m : Mp) : PyData := .tuple (mapsD m)
def kk (v : Wd) (own f j l later : Nat) : List NestedKey := match v with
  | .side => []
  | .letters => [.num own, .num l]
  | .flag => [.num f, .num later]
  | _ => [.num f, .num j, .num l]
def kkD (v : Wd) (own f j l later : Nat) : PyData := match v with
  | .side => .int 0
  | .letters => .tuple [.int own, .int l]
  | .flag => .tuple [.int f, .int later]
  | _ => .tuple [.int f, .int j, .int l]
theorem kkD_eq {v : Wd} (h : v ≠ .side) (own f j l later : Nat) : kkD v own f j l later = (NestedKey.tup (kk v own f j l later)).data := by
  cases v <;> first
    | rfl
    | exact absurd rfl h
theorem kk_depth (v : Wd) (own f j l later : Nat) : (NestedKey.tup (kk v own f j l later)).depth ≤ 8 := by cases v <;> exact Nat.le_of_ble_eq_true rfl
def Kept (v : Wd) (s : Sl) (M : List NestedKey → Option Mp) (nb : Nat) : Prop :=
  (v = .side ∧ ∃ kvs : List (Int × PyData), s = .i kvs ∧ kvs.length ≤ nb ∧ look kvs 0 = (M []).map mpD) ∨
  (v ≠ .side ∧ ∃ kvs : List (NestedKey × PyData), s = .k kvs ∧ kvs.length ≤ nb ∧ ∀ k, look kvs (.tup k) = (M k).map mpD)
def setM (M : List NestedKey → Option Mp) (k : List NestedKey) (m : Mp) : List NestedKey → Option Mp := fun j => if k = j then some m else M j
theorem Kept.ne {v : Wd} {s : Sl} {M : List NestedKey → Option Mp} {nb : Nat} (h : Kept v s M nb) : s ≠ .no := by
  rcases h with ⟨_, kvs, rfl, _⟩ | ⟨_, kvs, rfl, _⟩ <;> exact fun z => (nomatch z)
theorem Kept.more {v : Wd} {s : Sl} {M : List NestedKey → Option Mp} {nb nb' : Nat} (h : Kept v s M nb) (hl : nb ≤ nb') : Kept v s M nb' := by
  rcases h with ⟨hv, kvs, e, h1, h2⟩ | ⟨hv, kvs, e, h1, h2⟩
  · exact .inl ⟨hv, kvs, e, by omega, h2⟩
  · exact .inr ⟨hv, kvs, e, by omega, h2⟩
section
variable {v : Wd} {s : Sl} {M : List NestedKey → Option Mp} {nb i own f j l later : Nat} {G : List Sl} {q : Nn} {Q : Sl → List Sl → Nn → Prop} {D : ADs}
theorem kept_in (K : Kept v s M nb) (h : G[i]? = some s) (k : Q (.d (.bool (!(M (kk v own f j l later)).isSome))) G q) :
    (∃ (k : List NestedKey) (kvs : List (NestedKey × PyData)), Sl.d (kkD v own f j l later) = .d (NestedKey.tup k).data ∧ (NestedKey.tup k).depth ≤ 8 ∧ G[i]? = some (.k kvs) ∧ Q (.d (.bool (neg? true (look kvs (.tup k)).isSome))) G q) ∨
    (∃ (j' : Int) (kvs : List (Int × PyData)), Sl.d (kkD v own f j l later) = .d (.int j') ∧ G[i]? = some (.i kvs) ∧ Q (.d (.bool (neg? true (look kvs j').isSome))) G q) := by
  rcases K with ⟨hv, kvs, rfl, _, hl⟩ | ⟨hv, kvs, rfl, _, hl⟩
  · subst hv
    refine .inr ⟨0, kvs, rfl, h, ?_⟩
    rw [hl, Option.isSome_map]
    exact k
  · refine .inl ⟨kk v own f j l later, kvs, by rw [kkD_eq hv], kk_depth _ _ _ _ _ _, h, ?_⟩
    rw [hl, Option.isSome_map]
    exact k
theorem kept_get {m : Mp} (K : Kept v s M nb) (h : G[i]? = some s) (hm : M (kk v own f j l later) = some m) (k : Q (.d (mpD m)) G q) :
    (∃ (k : List NestedKey) (kvs : List (NestedKey × PyData)) (d : PyData), Sl.d (kkD v own f j l later) = .d (NestedKey.tup k).data ∧ (NestedKey.tup k).depth ≤ 8 ∧ G[i]? = some (.k kvs) ∧ look kvs (.tup k) = some d ∧ Q (.d d) G q) ∨
    (∃ (j' : Int) (kvs : List (Int × PyData)) (d : PyData), Sl.d (kkD v own f j l later) = .d (.int j') ∧ G[i]? = some (.i kvs) ∧ look kvs j' = some d ∧ Q (.d d) G q) := by
  rcases K with ⟨hv, kvs, rfl, _, hl⟩ | ⟨hv, kvs, rfl, _, hl⟩
  · subst hv
    refine .inr ⟨0, kvs, mpD m, rfl, h, ?_, k⟩
    rw [hl]
    have hm : M [] = some m := hm
    rw [hm]; rfl
  · exact .inl ⟨kk v own f j l later, kvs, mpD m, by rw [kkD_eq hv], kk_depth _ _ _ _ _ _, h, by rw [hl, hm]; rfl, k⟩
theorem kept_put {m : Mp} {F : List Sl → Nn → Prop} (K : Kept v s M nb) (h : G[i]? = some s) (hnb : nb ≤ 1000) (k : ∀ s', Kept v s' (setM M (kk v own f j l later) m) (nb + 1) → F (G.set i s') q) :
    (∃ (k : List NestedKey) (kvs : List (NestedKey × PyData)), Sl.d (kkD v own f j l later) = .d (NestedKey.tup k).data ∧ (NestedKey.tup k).depth ≤ 8 ∧ G[i]? = some (.k kvs) ∧ kvs.length ≤ 1000000 ∧ F (G.set i (.k (put kvs (.tup k) (mpD m)))) q) ∨
    (∃ (j' : Int) (kvs : List (Int × PyData)), Sl.d (kkD v own f j l later) = .d (.int j') ∧ G[i]? = some (.i kvs) ∧ kvs.length ≤ 1000000 ∧ F (G.set i (.i (put kvs j' (mpD m)))) q) := by
  rcases K with ⟨hv, kvs, rfl, hn, hl⟩ | ⟨hv, kvs, rfl, hn, hl⟩
  · subst hv
    refine .inr ⟨0, kvs, rfl, h, by omega, k _ (.inl ⟨rfl, _, rfl, ?_, ?_⟩)⟩
    · have := put_len kvs (0 : Int) (mpD m)
      omega
    · rw [look_put, if_pos rfl]
      show _ = (setM M [] m []).map mpD
      unfold setM
      rw [if_pos rfl]; rfl
  · refine .inl ⟨kk v own f j l later, kvs, by rw [kkD_eq hv], kk_depth _ _ _ _ _ _, h, by omega, k _ (.inr ⟨hv, _, rfl, ?_, fun k2 => ?_⟩)⟩
    · have := put_len kvs (.tup (kk v own f j l later)) (mpD m)
      omega
    · rw [look_put]
      unfold setM
      by_cases e : kk v own f j l later = k2
      · rw [if_pos e, if_pos (by rw [e])]; rfl
      · rw [if_neg e, if_neg fun z => e (NestedKey.tup.inj z), hl]
end
section
variable {v : Wd} {s : Sl} {M : List NestedKey → Option Mp} {nb i ik own f j l later : Nat} {G : List Sl} {q : Nn} {Q : Sl → List Sl → Nn → Prop} {D : ADs} {t : ATE}
theorem r_inKept (K : Kept v s M nb) (h : G[i]? = some s) (hk : G[ik]? = some (.d (kkD v own f j l later))) (k : Q (.d (.bool (!(M (kk v own f j l later)).isSome))) G q) : aInD true i (aVar ik) G q Q := ⟨_, hk, rfl, kept_in K h k⟩
theorem r_getKept {m : Mp} (K : Kept v s M nb) (h : G[i]? = some s) (hk : G[ik]? = some (.d (kkD v own f j l later))) (hm : M (kk v own f j l later) = some m) (k : Q (.d (mpD m)) G q) : aGetD i (aVar ik) G q Q := ⟨⟨s, h, K.ne⟩, _, hk, rfl, kept_get K h hm k⟩
def PutK (i : Nat) (y : PyData) (D : ADs) (r2 : Sl) (G2 : List Sl) (q2 : Nn) : Prop :=
    (∃ (k : List NestedKey) (kvs : List (NestedKey × PyData)), r2 = .d (NestedKey.tup k).data ∧ (NestedKey.tup k).depth ≤ 8 ∧ G2[i]? = some (.k kvs) ∧ kvs.length ≤ 1000000 ∧ D.nx (G2.set i (.k (put kvs (.tup k) y))) q2) ∨
    (∃ (j : Int) (kvs : List (Int × PyData)), r2 = .d (.int j) ∧ G2[i]? = some (.i kvs) ∧ kvs.length ≤ 1000000 ∧ D.nx (G2.set i (.i (put kvs j y))) q2)
theorem r_putK {u : ATE} (k : t G q fun r G1 q1 => ∃ y, r = .d y ∧ (∃ k, G1[i]? = some k ∧ k ≠ .no) ∧ u G1 q1 fun r2 G2 q2 => PutK i y D r2 G2 q2) : aPutD i t u D G q := k
theorem kept_putK {m : Mp} (K : Kept v s M nb) (h : G[i]? = some s) (hnb : nb ≤ 1000) (k : ∀ s', Kept v s' (setM M (kk v own f j l later) m) (nb + 1) → D.nx (G.set i s') q) : PutK i (mpD m) D (.d (kkD v own f j l later)) G q := kept_put (F := D.nx) K h hnb k
theorem r_repPair {Qs : Sl → Prop} {a b : PyData} (k : Qs (.d (.tuple [a, a]))) : bRepT (.d (.tuple (cutD [a, b] none (some 1)))) (.d (.int 2)) Qs :=
  ⟨[a], 2, rfl, rfl, fun z => (nomatch z), by decide, by decide, Nat.le_of_ble_eq_true rfl, k⟩
end
/-- a text's place among words -/
theorem look_wd {β : Type} (v : Wd) : ∀ (ws : List Wd) (ds : List β), look ((ws.map Wd.str).zip ds) v.str = look (ws.zip ds) v
  | [], _ => rfl
  | _ :: _, [] => rfl
  | u :: ws, d :: ds => by
    rw [List.map_cons, List.zip_cons_cons, List.zip_cons_cons, look_cons, look_cons, look_wd v ws ds]
    by_cases e : u = v
    · rw [if_pos e, if_pos (by rw [e])]
    · rw [if_neg e, if_neg fun z => ?_]
      have := wd_inj u v
      rw [z, decide_eq_false e, beq_self_eq_true] at this
      cases this
/-- what every kept pair is -/
def Pm (v : Wd) (n : Nat) (m : Mp) : Prop := MapOk n m.1 ∧ MapOk n m.2 ∧ (v = .nobody → m = (List.range n, List.range n)) ∧ (v = .blind → m.1 = m.2)
def LineOk (v : Wd) (hs : List Nat) (M : List NestedKey → Option Mp) (f j : Nat) (cs : List Row) : Prop := ∀ (l : Nat) r, cs[l]? = some r → M (kk v (hs.getD j 0) f j l r.later) = some r.maps
def TblOk (v : Wd) (hs : List Nat) (n : Nat) (M : List NestedKey → Option Mp) (f : Nat) (tb : List (List Row)) : Prop := ∀ (j : Nat) cs, tb[j]? = some cs → cs.length = n ∧ LineOk v hs M f j cs
def BookOk (v : Wd) (hs : List Nat) (n : Nat) (M : List NestedKey → Option Mp) (rb : List (List (List Row))) : Prop := ∀ (f : Nat) tb, rb[f]? = some tb → tb.length = hs.length ∧ TblOk v hs n M f tb
def Grow (M M' : List NestedKey → Option Mp) : Prop := ∀ k m, M k = some m → M' k = some m
section
variable {v : Wd} {hs : List Nat} {n f j : Nat} {M M' : List NestedKey → Option Mp}
theorem LineOk.grow {cs : List Row} (h : LineOk v hs M f j cs) (g : Grow M M') : LineOk v hs M' f j cs := fun l r e => g _ _ (h l r e)
theorem TblOk.grow {tb : List (List Row)} (h : TblOk v hs n M f tb) (g : Grow M M') : TblOk v hs n M' f tb := fun j cs e => ⟨(h j cs e).1, (h j cs e).2.grow g⟩
theorem BookOk.grow {rb : List (List (List Row))} (h : BookOk v hs n M rb) (g : Grow M M') : BookOk v hs n M' rb := fun f tb e => ⟨(h f tb e).1, (h f tb e).2.grow g⟩
theorem get_snoc {α : Type} {xs : List α} {x y : α} {i : Nat} (h : (xs ++ [x])[i]? = some y) : xs[i]? = some y ∨ (i = xs.length ∧ y = x) := by
  by_cases hi : i < xs.length
  · rw [List.getElem?_append_left hi] at h
    exact .inl h
  · have h2 := (List.getElem?_eq_some_iff.mp h).1
    rw [List.length_append, List.length_singleton] at h2
    have e : i = xs.length := by omega
    subst e
    rw [List.getElem?_append_right (Nat.le_refl _), Nat.sub_self] at h
    exact .inr ⟨rfl, (Option.some.inj h).symm⟩
theorem LineOk.snoc {cs : List Row} {r : Row} (h : LineOk v hs M f j cs) (hr : M (kk v (hs.getD j 0) f j cs.length r.later) = some r.maps) : LineOk v hs M f j (cs ++ [r]) := fun l r' e => by
  rcases get_snoc e with e | ⟨rfl, rfl⟩
  · exact h l r' e
  · exact hr
theorem TblOk.snoc {tb : List (List Row)} {cs : List Row} (h : TblOk v hs n M f tb) (hc : cs.length = n) (hl : LineOk v hs M f tb.length cs) : TblOk v hs n M f (tb ++ [cs]) := fun j cs' e => by
  rcases get_snoc e with e | ⟨rfl, rfl⟩
  · exact h j cs' e
  · exact ⟨hc, hl⟩
theorem BookOk.snoc {rb : List (List (List Row))} {tb : List (List Row)} (h : BookOk v hs n M rb) (hc : tb.length = hs.length) (ht : TblOk v hs n M rb.length tb) : BookOk v hs n M (rb ++ [tb]) := fun f tb' e => by
  rcases get_snoc e with e | ⟨rfl, rfl⟩
  · exact h f tb' e
  · exact ⟨hc, ht⟩
end
theorem key_get (v : Wd) (own f j l later : Nat) : (look (List.zip [("side" : Str), "letters", "flag"] [PyData.int 0, .tuple [.int own, .int l], .tuple [.int f, .int later]]) v.str).getD (.tuple [.int f, .int j, .int l]) = kkD v own f j l later := by
  show (look (List.zip ([Wd.side, .letters, .flag].map Wd.str) _) v.str).getD _ = _
  rw [look_wd]
  cases v <;> rfl
def pick (v : Wd) (N : Nat) (a b : List Nat) : Mp := match v with
  | .nobody => (List.range N, List.range N)
  | .blind => (a, a)
  | _ => (a, b)
theorem map_get (v : Wd) (N : Nat) (a b : List Nat) : (look (List.zip [("nobody" : Str), "blind"] [PyData.tuple [.tuple (intD (List.range N)), .tuple (intD (List.range N))], .tuple [.tuple (intD a), .tuple (intD a)]]) v.str).getD (.tuple [.tuple (intD a), .tuple (intD b)]) = mpD (pick v N a b) := by
  show (look (List.zip ([Wd.nobody, .blind].map Wd.str) _) v.str).getD _ = _
  rw [look_wd]
  cases v <;> rfl
theorem mapOk_range (N : Nat) : MapOk N (List.range N) := ⟨List.length_range, fun x hx => List.mem_range.mp hx⟩
theorem pick_ok {v : Wd} {N : Nat} {a b : List Nat} (ha : MapOk N a) (hb : MapOk N b) : Pm v N (pick v N a b) := by
  cases v with
  | nobody => exact ⟨mapOk_range N, mapOk_range N, fun _ => rfl, fun z => (nomatch z)⟩
  | blind => exact ⟨ha, ha, fun z => (nomatch z), fun _ => rfl⟩
  | all => exact ⟨ha, hb, fun z => (nomatch z), fun z => (nomatch z)⟩
  | flag => exact ⟨ha, hb, fun z => (nomatch z), fun z => (nomatch z)⟩
  | letters => exact ⟨ha, hb, fun z => (nomatch z), fun z => (nomatch z)⟩
  | side => exact ⟨ha, hb, fun z => (nomatch z), fun z => (nomatch z)⟩
/-- the built book is as the word says -/
theorem built_wf {v : Wd} {hs : List Nat} {n : Nat} {M : List NestedKey → Option Mp} {rb : List (List (List Row))} {ans : List Bool} {fst : Nat} (hp : 0 < hs.length) (h8 : hs.length ≤ 8) (hn : n ≤ 8) (hr : rb.length ≤ 8) (hM : ∀ k m, M k = some m → Pm v hs.length m) (hb : BookOk v hs n M rb) : Wf ⟨ans, hs, fst, rb⟩ := by
  refine ⟨h8, hp, hr, fun t ht => ?_⟩
  obtain ⟨f, hf, e⟩ := List.getElem_of_mem ht
  obtain ⟨h1, h2⟩ := hb f t (by rw [List.getElem?_eq_getElem hf, e])
  refine ⟨h1, fun c hc => ?_⟩
  obtain ⟨j, hj, e2⟩ := List.getElem_of_mem hc
  obtain ⟨h3, h4⟩ := h2 j c (by rw [List.getElem?_eq_getElem hj, e2])
  refine ⟨by omega, fun r hr => ?_⟩
  obtain ⟨l, hl, e3⟩ := List.getElem_of_mem hr
  obtain ⟨a, b, _, _⟩ := hM _ _ (h4 l r (by rw [List.getElem?_eq_getElem hl, e3]))
  exact ⟨a.1, b.1, a.2, b.2⟩
theorem built_cell {v : Wd} {hs : List Nat} {n : Nat} {M : List NestedKey → Option Mp} {rb : List (List (List Row))} {ans : List Bool} {fst : Nat} (hb : BookOk v hs n M rb) {c : Cell} (hc : c ∈ cellsOf ⟨ans, hs, fst, rb⟩) : M (kk v (hs.getD c.hue 0) c.flag c.hue c.letter c.row.later) = some c.row.maps := by
  obtain ⟨p, hp, hc⟩ := List.mem_flatMap.mp hc
  obtain ⟨p2, hp2, hc⟩ := List.mem_flatMap.mp hc
  obtain ⟨p3, hp3, rfl⟩ := List.mem_map.mp hc
  exact ((hb _ _ (withIx_mem hp)).2 _ _ (withIx_mem hp2)).2 _ _ (withIx_mem hp3)
theorem built_goes {v : Wd} {hs : List Nat} {n : Nat} {M : List NestedKey → Option Mp} {rb : List (List (List Row))} {ans : List Bool} {fst : Nat} (hM : ∀ k m, M k = some m → Pm v hs.length m) (hb : BookOk v hs n M rb) : goesB ⟨ans, hs, fst, rb⟩ v = true := by
  have hc := fun c (h : c ∈ cellsOf ⟨ans, hs, fst, rb⟩) => built_cell hb h
  have ag : (∀ c c' : Cell, keyW v (hueOf ⟨ans, hs, fst, rb⟩ c) c = keyW v (hueOf ⟨ans, hs, fst, rb⟩ c') c' → kk v (hs.getD c.hue 0) c.flag c.hue c.letter c.row.later = kk v (hs.getD c'.hue 0) c'.flag c'.hue c'.letter c'.row.later) → agree (evW ⟨ans, hs, fst, rb⟩ v) = true := by
    intro hk
    refine agree_iff.mpr fun p hp p' hp' e => ?_
    obtain ⟨c, h1, rfl⟩ := List.mem_map.mp hp
    obtain ⟨c', h1', rfl⟩ := List.mem_map.mp hp'
    have e1 := hc c h1
    rw [hk c c' e, hc c' h1'] at e1
    exact (Option.some.inj e1).symm
  cases v with
  | all => rfl
  | nobody =>
    refine List.all_eq_true.mpr fun c h => ?_
    obtain ⟨_, _, a, _⟩ := hM _ _ (hc c h)
    rw [a rfl]
    show (decide (List.range hs.length = List.range hs.length) && decide (List.range hs.length = List.range hs.length)) = true
    rw [decide_eq_true rfl]; rfl
  | blind =>
    refine List.all_eq_true.mpr fun c h => ?_
    obtain ⟨_, _, _, a⟩ := hM _ _ (hc c h)
    exact decide_eq_true (a rfl)
  | letters => exact ag fun c c' e => e
  | flag => exact ag fun c c' e => e
  | side => exact ag fun c c' e => rfl
def T_law_book : FT := fun ks q Q => ∃ (L F E n : Nat) (v : Wd), ks = [.t, .d (.int L), .d (.int F), .d (.int E), .d (.str v.str)] ∧ q = some n ∧ n + 2000 < 1099511627776 ∧ 1 ≤ L ∧ L ≤ 2 ∧ 1 ≤ F ∧ F ≤ 3 ∧ E ≤ 2 ∧
  ∀ B m, Wf B → goesB B v = true → B.ans.length ≤ 8 → m ≤ n + 2000 → Q (.d (bookD B)) (some m)
set_option maxHeartbeats 16000000 in
theorem can_law_book (Bl : Blt mg) (F : Fn K mg "_law_book" s_law_book ["_law_tin", "_law_letters_so", "_law_flags_so", "_law_extra_so", "_law_word_so"]) (C1 : Can P w K mg base 3 "_law_map" ["_law_tin", "_law_hues_so"] T_law_map) (C2 : Can P w K mg base 2 "_law_of" ["_law_tin", "_law_goods_so"] T_law_of)
    (C3 : Can P w K mg base 1 "_law_take" ["_law_tin", "_law_below_so"] T_law_take) : Can P w K mg base 4 "_law_book" ["_law_tin", "_law_letters_so", "_law_flags_so", "_law_extra_so", "_law_word_so"] T_law_book := by
  refine can_of F sc_law_book (fun ks q Qf h => ?_) (D_law_book Bl 3 C1 (by omega) C2 (by omega) C3 (by omega)).2 fun ks q Qf h => ?_
  · obtain ⟨_, _, _, _, _, rfl, _⟩ := h
    rfl
  · obtain ⟨L, F, E, n, v, rfl, rfl, hn, hL1, hL2, hF1, hF2, hE, h⟩ := h
    unfold D_law_book
    dsimp only
    wtm_at "ph"
    refine ⟨by omega, by omega, ?_⟩
    wtm_at "ph"
    refine ⟨by omega, by omega, ?_⟩
    refine lc_draw (xs := List.range E) (enc := fun (n : Nat) => PyData.int n) (c := 1) (P := fun _ y => ∃ x : Nat, y = .int x ∧ x < L + 1) rfl (by rw [List.length_range]; omega) (fun i x m hi hm R R' hR => ?_) fun ys m hm hyl hy => ?_
    · have hi2 := (List.getElem?_eq_some_iff.mp hi).1
      rw [List.length_range] at hi2
      wtm_at "ph"
      refine ⟨L + 1, m, rfl, rfl, by omega, by omega, by omega, fun z hz => ?_⟩
      exact hR _ _ _ ⟨z, rfl, hz⟩ (by omega) rfl
    obtain ⟨ms, rfl, hml, hmm⟩ := ints_of_all hy
    rw [List.length_range] at hm hyl
    have e1 : upTo ((L : Int) + 1) = intD (List.range (L + 1)) := upTo_nat (L + 1)
    rw [e1]
    have hul : (intD (List.range (L + 1))).length = L + 1 := by unfold intD; rw [List.length_map, List.length_range]
    refine r_catL (by rw [hul, hyl]; omega) ?_
    have e2 : intD (List.range (L + 1)) ++ intD ms = intD (List.range (L + 1) ++ ms) := by unfold intD; rw [List.map_append]
    rw [e2]
    generalize hhs : List.range (L + 1) ++ ms = hs
    have hhl : hs.length = L + 1 + E := by rw [← hhs, List.length_append, List.length_range, hml, hyl]
    have hat : ∀ l, l < L + 1 → hs[l]? = some l := fun l hl => by
      rw [← hhs, List.getElem?_append_left (by rw [List.length_range]; exact hl), List.getElem?_eq_getElem (by rw [List.length_range]; exact hl), List.getElem_range]
    wtm_at "ph"
    refine ⟨by omega, by omega, ?_⟩
    rw [upTo_nat]
    wtm_at "ph"
    have hnew : ∀ {G : List Sl} {q : Nn} {Q : Sl → List Sl → Nn → Prop}, (∀ s, Kept v s (fun _ => none) 0 → Q s G q) → aNew G q Q := fun hF => by
      rcases Classical.em (v = .side) with hv | hv
      · exact .inr (hF _ (.inl ⟨hv, [], rfl, Nat.le_refl _, rfl⟩))
      · exact .inl (hF _ (.inr ⟨hv, [], rfl, Nat.le_refl _, fun _ => rfl⟩))
    refine hnew fun s hs0 => ?_
    wtm_at "ph"
    refine ⟨by omega, by omega, ?_⟩
    refine for_map (xs := List.range F) (enc := fun (n : Nat) => PyData.int n) (fun i G q' => ∃ (M : List NestedKey → Option Mp) (rb : List (List (List Row))) (m' : Nat) (s a9 a10 a11 a12 a13 a14 a15 a16 a17 a18 a19 : Sl), q' = some m' ∧ m' ≤ n + 2 + i * 600 ∧ rb.length = i ∧ BookOk v hs (L + 1) M rb ∧ (∀ k m, M k = some m → Pm v hs.length m) ∧ Kept v s M (i * 15) ∧ G = [.t, .d (.int L), .d (.int F), .d (.int E), .d (.str v.str), .d (.tuple (intD hs)), .d (.tuple (intD (List.range hs.length))), s, .l (rb.map tabD), a9, a10, a11, a12, a13, a14, a15, a16, a17, a18, a19, .no, .no]) ⟨fun _ => none, [], m, s, .no, .no, .no, .no, .no, .no, .no, .no, .no, .no, .no, rfl, by omega, rfl, fun f tb e => (by simp at e), fun k m e => (nomatch e), hs0, rfl⟩ ?_ ?_
    · rintro i fl G q' hi ⟨M, rb, m', s, a9, a10, a11, a12, a13, a14, a15, a16, a17, a18, a19, rfl, hm', hrl, hbk, hpm, hkp, rfl⟩
      have hiF := (List.getElem?_eq_some_iff.mp hi).1
      rw [List.length_range] at hiF
      have hfl : fl = i := by
        rw [List.getElem?_eq_getElem (by rw [List.length_range]; exact hiF), List.getElem_range] at hi
        exact (Option.some.inj hi).symm
      subst hfl
      wtm_at "ph"
      refine for_map (xs := hs) (enc := fun (n : Nat) => PyData.int n) (fun j G q' => ∃ (M : List NestedKey → Option Mp) (tb : List (List Row)) (m' : Nat) (s a11 a12 a13 a14 a15 a16 a17 a18 a19 : Sl), q' = some m' ∧ m' ≤ n + 2 + fl * 600 + j * 120 ∧ tb.length = j ∧ BookOk v hs (L + 1) M rb ∧ TblOk v hs (L + 1) M fl tb ∧ (∀ k m, M k = some m → Pm v hs.length m) ∧ Kept v s M (fl * 15 + j * 3) ∧ G = [.t, .d (.int L), .d (.int F), .d (.int E), .d (.str v.str), .d (.tuple (intD hs)), .d (.tuple (intD (List.range hs.length))), s, .l (rb.map tabD), .d (.int fl), .l (tb.map lineD), a11, a12, a13, a14, a15, a16, a17, a18, a19, .no, .no]) ⟨M, [], m', s, _, _, _, _, _, _, _, _, _, rfl, by omega, rfl, hbk, fun j cs e => (by simp at e), hpm, hkp, rfl⟩ ?_ ?_
      · rintro j own G q' hj ⟨M, tb, m', s, a11, a12, a13, a14, a15, a16, a17, a18, a19, rfl, hm', htl, hbk, htb, hpm, hkp, rfl⟩
        have hjl := (List.getElem?_eq_some_iff.mp hj).1
        have hown : hs.getD j 0 = own := getD_of hj
        wtm_at "ph"
        refine ⟨by omega, by omega, ?_⟩
        refine for_map (xs := List.range (L + 1)) (enc := fun (n : Nat) => PyData.int n) (fun l G q' => ∃ (M : List NestedKey → Option Mp) (cs : List Row) (m' : Nat) (s a13 a14 a15 a16 a17 a18 a19 : Sl), q' = some m' ∧ m' ≤ n + 2 + fl * 600 + j * 120 + l * 40 ∧ cs.length = l ∧ BookOk v hs (L + 1) M rb ∧ TblOk v hs (L + 1) M fl tb ∧ LineOk v hs M fl j cs ∧ (∀ k m, M k = some m → Pm v hs.length m) ∧ Kept v s M (fl * 15 + j * 3 + l) ∧ G = [.t, .d (.int L), .d (.int F), .d (.int E), .d (.str v.str), .d (.tuple (intD hs)), .d (.tuple (intD (List.range hs.length))), s, .l (rb.map tabD), .d (.int fl), .l (tb.map lineD), .d (.int own), .l (cs.map rowD), a13, a14, a15, a16, a17, a18, a19, .no, .no]) ⟨M, [], m', s, _, _, _, _, _, _, _, rfl, by omega, rfl, hbk, htb, fun l r e => (by simp at e), hpm, hkp, rfl⟩ ?_ ?_
        · rintro l lt G q' hl ⟨M, cs, m', s, a13, a14, a15, a16, a17, a18, a19, rfl, hm', hcl, hbk, htb, hln, hpm, hkp, rfl⟩
          have hlL := (List.getElem?_eq_some_iff.mp hl).1
          rw [List.length_range] at hlL
          have hlt : lt = l := by
            rw [List.getElem?_eq_getElem (by rw [List.length_range]; exact hlL), List.getElem_range] at hl
            exact (Option.some.inj hl).symm
          subst hlt
          wtm_at "ph"
          refine ⟨F, m', rfl, rfl, by omega, by omega, by omega, fun later hlater => ?_⟩
          wtm_at "ph"
          refine ⟨by omega, by omega, ?_⟩
          refine lc_flt (xs := List.range hs.length) (enc := fun (n : Nat) => PyData.int n) (f := fun (n : Nat) => PyData.int n) (p := fun k => decide (hs.getD k 0 = lt)) (by rw [List.length_range]; omega) (fun k hk R R' hR hR' => ?_) ?_
          · have hkl := List.mem_range.mp hk
            wtm_at "ph"
            refine r_ixT (atI_ints (show hs[k]? = some (hs.getD k 0) by rw [List.getD_eq_getElem?_getD, List.getElem?_eq_getElem hkl]; rfl)) ?_
            wtm_at "ph"
            refine ⟨fun hb => ?_, fun hb => ?_⟩
            · wtm_at "ph"
              exact hR (decide_eq_true (by have := of_decide_eq_true hb; omega)) _ rfl
            · exact hR' (decide_eq_false (by have := of_decide_eq_false hb; omega)) _ rfl
          wtm_at "ph"
          refine ⟨_, m' + 1, rfl, rfl, by omega, ?_, ?_, fun x hx => ?_⟩
          · have hm1 : lt ∈ (List.range hs.length).filter fun k => decide (hs.getD k 0 = lt) := List.mem_filter.mpr ⟨List.mem_range.mpr (by omega), decide_eq_true (getD_of (hat lt hlL))⟩
            intro e
            rw [List.map_eq_nil_iff.mp e] at hm1
            cases hm1
          · rw [List.length_map]
            have := List.length_filter_le (fun k => decide (hs.getD k 0 = lt)) (List.range hs.length)
            rw [List.length_range] at this
            omega
          obtain ⟨near, _, rfl⟩ := List.mem_map.mp hx
          wtm_at "ph"
          refine ⟨rfl, ?_⟩
          wtm_at "ph"
          rw [List.length_map, htl, key_get v own fl j lt later]
          refine r_inKept hkp rfl rfl ?_
          wtm_at "ph"
          have fin : ∀ (M' : List NestedKey → Option Mp) (s' : Sl) (m2 : Nat) (mm : Mp), True := fun _ _ _ _ => trivial
          cases hM : M (kk v own fl j lt later) with
          | some mm =>
            wtm_at "ph"
            refine r_getKept hkp rfl rfl hM ?_
            refine r_catT (Nat.le_of_ble_eq_true rfl) ?_
            wtm_at "ph"
            refine ⟨_, _, rfl, rfl, by rw [List.length_map]; omega, M, cs ++ [(⟨later, near, mm⟩ : Row)], m' + 1 + 1, s, .d (.int lt), .d (.int later), .d (.int near), .no, .d (kkD v own fl j lt later), a18, a19, rfl, by omega, by rw [List.length_append, hcl]; rfl, hbk, htb, hln.snoc (by rw [hown, hcl]; exact hM), hpm, hkp.more (by omega), ?_⟩
            rw [List.map_append]
            rfl
          | none =>
            wtm_at "ph"
            refine ⟨hs, m' + 2, rfl, rfl, by omega, by omega, fun ma m2 hma hm2 => ?_⟩
            wtm_at "ph"
            refine ⟨hs, m2, rfl, rfl, by omega, by omega, fun mb m3 hmb hm3 => ?_⟩
            wtm_at "ph"
            refine r_putK ?_
            wtm_at "ph"
            refine r_repPair ?_
            wtm_at "ph"
            refine ⟨rfl, ?_⟩
            wtm_at "ph"
            rw [map_get]
            refine ⟨⟨s, rfl, hkp.ne⟩, ?_⟩
            wtm_at "ph"
            refine kept_putK hkp rfl (by omega) fun s' hk' => ?_
            generalize hpk : pick v hs.length ma mb = mm at hk'
            have hok : Pm v hs.length mm := by rw [← hpk]; exact pick_ok hma hmb
            have hgr : Grow M (setM M (kk v own fl j lt later) mm) := fun k m hkm => by
              unfold setM
              by_cases e : kk v own fl j lt later = k
              · rw [← e, hM] at hkm
                cases hkm
              · rw [if_neg e]
                exact hkm
            have hM2 : setM M (kk v own fl j lt later) mm (kk v own fl j lt later) = some mm := by
              unfold setM
              rw [if_pos rfl]
            have hpm2 : ∀ k m, setM M (kk v own fl j lt later) mm k = some m → Pm v hs.length m := fun k m hkm => by
              unfold setM at hkm
              by_cases e : kk v own fl j lt later = k
              · rw [if_pos e] at hkm
                rw [← Option.some.inj hkm]
                exact hok
              · rw [if_neg e] at hkm
                exact hpm k m hkm
            wtm_at "ph"
            refine r_getKept hk' rfl rfl hM2 ?_
            refine r_catT (Nat.le_of_ble_eq_true rfl) ?_
            wtm_at "ph"
            refine ⟨_, _, rfl, rfl, by rw [List.length_map]; omega, _, cs ++ [(⟨later, near, mm⟩ : Row)], m3, s', .d (.int lt), .d (.int later), .d (.int near), .no, .d (kkD v own fl j lt later), .d (.tuple [.tuple (intD ma), .tuple (intD mb)]), a19, rfl, by omega, by rw [List.length_append, hcl]; rfl, hbk.grow hgr, htb.grow hgr, (hln.grow hgr).snoc (by rw [hown, hcl]; exact hM2), hpm2, hk', ?_⟩
            rw [List.map_append]
            rfl
        · rintro G q' ⟨M, cs, m', s, a13, a14, a15, a16, a17, a18, a19, rfl, hm', hcl, hbk, htb, hln, hpm, hkp, rfl⟩
          rw [List.length_range] at hm' hcl hkp
          wtm_at "ph"
          refine ⟨_, _, rfl, rfl, by rw [List.length_map]; omega, M, tb ++ [cs], m', s, .d (.int own), .no, a13, a14, a15, a16, a17, a18, a19, rfl, by omega, by rw [List.length_append, htl]; rfl, hbk, htb.snoc hcl (by rw [htl]; exact hln), hpm, hkp.more (by omega), ?_⟩
          rw [List.map_append]
          rfl
      · rintro G q' ⟨M, tb, m', s, a11, a12, a13, a14, a15, a16, a17, a18, a19, rfl, hm', htl, hbk, htb, hpm, hkp, rfl⟩
        wtm_at "ph"
        refine ⟨_, _, rfl, rfl, by rw [List.length_map]; omega, M, rb ++ [tb], m', s, .d (.int fl), .no, a11, a12, a13, a14, a15, a16, a17, a18, a19, rfl, by omega, by rw [List.length_append, hrl]; rfl, hbk.snoc htl (by rw [hrl]; exact htb), hpm, hkp.more (by omega), ?_⟩
        rw [List.map_append]
        rfl
    · rintro G q' ⟨M, rb, m', s, a9, a10, a11, a12, a13, a14, a15, a16, a17, a18, a19, rfl, hm', hrl, hbk, hpm, hkp, rfl⟩
      rw [List.length_range] at hm' hrl hkp
      wtm_at "ph"
      refine ⟨by omega, by omega, ?_⟩
      refine lc_draw (xs := List.range F) (enc := fun (n : Nat) => PyData.int n) (c := 1) (P := fun _ y => ∃ b : Bool, y = .bool b) rfl (by rw [List.length_range]; omega) (fun i x m hi hm R R' hR => ?_) fun ys m hm hyl hy => ?_
      · have hi2 := (List.getElem?_eq_some_iff.mp hi).1
        rw [List.length_range] at hi2
        wtm_at "ph"
        refine ⟨2, m, rfl, rfl, by omega, by omega, by omega, fun z hz => ?_⟩
        wtm_at "ph"
        exact hR _ _ _ ⟨_, rfl⟩ (by omega) rfl
      rw [List.length_range] at hm hyl
      have hbs : ∀ {ys : List PyData}, (∀ (i : Nat) y, ys[i]? = some y → ∃ b : Bool, y = .bool b) → ∃ bs : List Bool, ys = bs.map PyData.bool := fun {ys} => by
        induction ys with
        | nil => intro _; exact ⟨[], rfl⟩
        | cons y ys ih =>
          intro hy
          obtain ⟨b, rfl⟩ := hy 0 y rfl
          obtain ⟨bs, e⟩ := ih fun i z hz => hy (i + 1) z hz
          exact ⟨b :: bs, by rw [e]; rfl⟩
      obtain ⟨bs, rfl⟩ := hbs hy
      wtm_at "ph"
      refine ⟨F, m, rfl, rfl, by omega, by omega, by omega, fun z hz => ?_⟩
      wtm_at "ph"
      exact h ⟨bs, hs, z, rb⟩ (m + 1) (built_wf (by omega) (by omega) (by omega) (by omega) hpm hbk) (built_goes hpm hbk) (by rw [List.length_map] at hyl; show bs.length ≤ 8; omega) (by omega)
end
end Ph

set_option Elab.async false
set_option linter.all false
set_option maxRecDepth 100000
set_option maxHeartbeats 4000000
namespace Ph
open PySem L2
local macro_rules | `(tactic| wtm_at "ph") => `(tactic| (repeat (first | (with_reducible refine r_lc2 ?_) | (with_reducible refine r_gRow ?_) | (with_reducible refine r_lenRow ?_) | (with_reducible refine r_exThing ?_) | (with_reducible refine r_lenThing ?_) | (with_reducible refine r_exZth ?_) | (with_reducible refine r_ixBk3 ?_) | (with_reducible refine r_ixBk1 ?_) | (with_reducible refine r_row0 ?_) | (with_reducible refine r_row2 ?_) | (with_reducible refine r_row3 ?_) | (with_reducible refine r_pl0 ?_) | (with_reducible refine r_pl1 ?_) | (with_reducible refine r_pl2 ?_) | (with_reducible refine r_ce0 ?_) | (with_reducible refine r_ce1 ?_) | (with_reducible refine r_gCell ?_) | (with_reducible refine r_gPlace ?_) | (with_reducible refine r_slRow ?_) | (with_reducible refine r_slInt ?_) | (with_reducible refine r_slInt1 ?_) | (with_reducible refine r_exTab ?_) | (with_reducible refine r_exLine ?_) | (with_reducible refine r_numF ?_) | (with_reducible refine r_numFI ?_) | (with_reducible refine r_numL ?_) | (with_reducible refine r_numLI ?_) | (with_reducible refine r_lenI ?_) | (with_reducible refine r_bEqM ?_) | (with_reducible refine r_seq ?_) | (with_reducible refine r_next ?_) | (with_reducible refine r_asg ?_) | (with_reducible refine r_par ?_) | (with_reducible refine r_ret ?_) | (with_reducible refine r_ifS ?_) | (with_reducible refine r_C ?_) | (with_reducible refine r_fz ?_) | (with_reducible refine r_op ?_) | (with_reducible refine r_test ?_) | (with_reducible refine r_exB ?_) | (with_reducible refine r_and ?_) | (with_reducible refine r_not ?_) | (with_reducible refine r_neg ?_) | (with_reducible refine r_andT ?_) | (with_reducible refine r_orT ?_) | (with_reducible refine r_notT ?_) | (with_reducible refine r_if ?_) | (with_reducible refine r_nil ?_) | (with_reducible refine r_cons ?_) | (with_reducible refine r_dnil ?_) | (with_reducible refine r_dcons ?_) | (with_reducible refine r_tup ?_) | (with_reducible refine r_lst ?_) | (with_reducible refine r_call ?_) | (with_reducible refine r_isi ?_) | (with_reducible refine r_isi2 ?_) | (with_reducible refine r_exD ?_) | (with_reducible refine r_exI ?_) | (with_reducible refine r_tupRg ?_) | (with_reducible refine r_lstRg ?_) | (with_reducible refine r_sl ?_) | (with_reducible refine r_slT ?_) | (with_reducible refine r_slL ?_) | (with_reducible refine r_oNo ?_) | (with_reducible refine r_oI ?_) | (with_reducible refine r_fn ?_) | (with_reducible refine r_gName ?_) | (with_reducible refine r_gNil ?_) | (with_reducible refine r_gCons ?_) | (with_reducible refine r_iL ?_) | (with_reducible refine r_iT ?_) | (with_reducible refine r_iEL ?_) | (with_reducible refine r_iET ?_) | (with_reducible refine r_iLT ?_) | (with_reducible refine r_exLT_l ?_) | (with_reducible refine r_exLT_t ?_) | (with_reducible refine r_exL ?_) | (with_reducible refine r_exT ?_) | (with_reducible refine r_iR ?_) | (with_reducible refine r_iZ ?_) | (with_reducible refine r_exZt ?_) | (with_reducible refine r_exZl ?_) | (with_reducible refine r_idx ?_) | (with_reducible refine r_orL ?_) | (with_reducible refine r_disp ?_) | (with_reducible refine r_get ?_) | (with_reducible refine r_exS ?_) | (with_reducible refine r_exWD ?_) | (with_reducible refine r_back ?_) | (with_reducible refine r_lenSet ?_) | (with_reducible refine r_fnT ?_) | (with_reducible refine r_setO ?_) | (with_reducible refine r_tinSet ?_) | (with_reducible refine r_inD ?_) | (with_reducible refine r_par3 ?_) | (with_reducible refine r_ex3 ?_) | (with_reducible refine r_ex2 ?_) | (with_reducible refine r_yes ?_) | (with_reducible refine r_tt ?_) | (with_reducible refine r_ff ?_) | (with_reducible refine r_lc ?_) | (with_reducible refine r_for ?_) | (with_reducible refine r_int ?_) | (with_reducible refine r_intB ?_) | (with_reducible refine r_abs ?_) | (with_reducible refine r_isNn ?_) | (with_reducible refine r_isNb ?_) | (with_reducible refine r_isNi ?_) | (with_reducible refine r_isNs ?_) | (with_reducible refine r_bEqN ?_) | (with_reducible refine r_ft ?_) | (with_reducible refine r_tf ?_) | (with_reducible refine r_isN ?_) | ((with_reducible apply r_var); exact rfl) | ((with_reducible apply r_varT); exact rfl) | ((with_reducible apply r_varM); exact rfl) | ((with_reducible apply r_varS); exact rfl) | ((with_reducible apply r_lenO); exact rfl) | ((with_reducible apply r_len); exact rfl) | ((with_reducible apply r_tuple); exact rfl) | ((with_reducible apply r_list); exact rfl) | ((with_reducible apply r_ixT); exact rfl) | ((with_reducible apply r_ixL); exact rfl) | ((with_reducible apply r_gTup); exact rfl) | ((with_reducible apply r_fzS); exact rfl) | ((with_reducible apply r_ttE); exact rfl) | ((with_reducible apply r_ffE); exact rfl) | ((with_reducible apply r_ftE); exact rfl) | ((with_reducible apply r_tfE); exact rfl) | ((with_reducible apply r_app); exact ⟨_, rfl⟩) | ((with_reducible apply r_ixO); exact ⟨_, rfl⟩) | ((with_reducible apply r_ext); exact ⟨_, rfl⟩) | (with_reducible refine r_bEqS ?_) | (with_reducible refine r_bEqI ?_) | (with_reducible refine r_bEqT ?_) | (with_reducible refine r_bEqM ?_) | (with_reducible refine r_bEqB ?_) | (with_reducible refine r_bNeI ?_) | (with_reducible refine r_bNeT ?_) | (with_reducible refine r_bNeM ?_) | (with_reducible refine r_bNeB ?_) | ((with_reducible apply r_bI); first | exact trivial | omega | decide) | (refine ⟨Nat.le_of_ble_eq_true rfl, ?_⟩) | (dsimp only [frz]))))
section
variable {P : Program} {w : World} {K : PySem.W.Frag} {mg : Str → Option Value} {base : Heap}
/-! ## the identity numbering -/
def idT (n : Nat) : List (List Nat) := (List.range n).map fun k => [k]
theorem idT_at {n k : Nat} (h : k < n) : (idT n)[k]? = some [k] := by
  unfold idT
  rw [List.getElem?_map, List.getElem?_eq_getElem (by rw [List.length_range]; exact h), List.getElem_range]; rfl
theorem idT_getD {n k : Nat} (h : k < n) : (idT n).getD k [] = [k] := getD_of (idT_at h)
theorem idT_ok (n : Nat) : ThOk n (idT n) := by
  refine ⟨by unfold idT; rw [List.length_map, List.length_range], 1, by omega, by omega, fun r hr => ?_⟩
  obtain ⟨k, _, rfl⟩ := List.mem_map.mp hr
  rfl
theorem zip_id_nodup (hs : List Nat) : (hs.zip (idT hs.length)).Nodup := by
  have h1 : ((hs.zip (idT hs.length)).map Prod.snd).Nodup := by
    rw [List.map_snd_zip (by unfold idT; rw [List.length_map, List.length_range]; exact Nat.le_refl _)]
    unfold idT
    refine (nodup_map_iff fun a b => ?_).mpr List.nodup_range
    simp
  exact List.Pairwise.of_map Prod.snd (fun a b hne e => hne (congrArg Prod.snd e)) h1
theorem side_len {B : Bk} (W : Wf B) {c : Cell} (hc : c ∈ cellsOf B) (s : Nat) : (sideOf s c.row).length = B.hues.length ∧ ∀ x ∈ sideOf s c.row, x < B.hues.length := by
  have hcell := W.cell hc
  unfold sideOf
  split
  · exact ⟨hcell.2.1, hcell.2.2.2.1⟩
  · exact ⟨hcell.2.2.1, hcell.2.2.2.2⟩
theorem side_at {B : Bk} (W : Wf B) {c : Cell} (hc : c ∈ cellsOf B) (s : Nat) {k : Nat} (hk : k < B.hues.length) : (sideOf s c.row)[k]? = some ((sideOf s c.row).getD k 0) ∧ (sideOf s c.row).getD k 0 < B.hues.length := by
  obtain ⟨h1, h2⟩ := side_len W hc s
  have e : (sideOf s c.row)[k]? = some ((sideOf s c.row).getD k 0) := by rw [List.getD_eq_getElem?_getD, List.getElem?_eq_getElem (by rw [h1]; exact hk)]; rfl
  exact ⟨e, h2 _ (List.mem_of_getElem? e)⟩
theorem ev_id {B : Bk} (W : Wf B) {c : Cell} {s k l n : Nat} : IsEv B (idT B.hues.length) c s k l n ↔ c ∈ cellsOf B ∧ (s = 2 ∨ s = 3) ∧ k < B.hues.length ∧ l = 0 ∧ n = (sideOf s c.row).getD k 0 := by
  unfold IsEv
  constructor
  · rintro ⟨hc, hs, hk, hn⟩
    unfold laterOf at hn
    rw [idT_getD (side_at W hc s hk).2] at hn
    cases l with
    | zero => exact ⟨hc, hs, hk, rfl, (Option.some.inj hn).symm⟩
    | succ l => cases hn
  · rintro ⟨hc, hs, hk, rfl, rfl⟩
    refine ⟨hc, hs, hk, ?_⟩
    unfold laterOf
    rw [idT_getD (side_at W hc s hk).2]
    rfl
theorem key_id {B : Bk} (W : Wf B) {c c' : Cell} {s s' k k' : Nat} (hc : c ∈ cellsOf B) (hc' : c' ∈ cellsOf B) (hk : k < B.hues.length) (hk' : k' < B.hues.length) :
    keyP B (idT B.hues.length) c s k 0 = keyP B (idT B.hues.length) c' s' k' 0 ↔ s = s' ∧ hueOf B c = hueOf B c' ∧ c.letter = c'.letter ∧ k = k' := by
  have h1 := (List.getElem?_eq_some_iff.mp (W.hue hc)).1
  have h2 := (List.getElem?_eq_some_iff.mp (W.hue hc')).1
  unfold keyP
  rw [idT_getD hk, idT_getD hk', idT_getD h1, idT_getD h2]
  simp only [List.cons.injEq, NestedKey.num.injEq, NestedKey.tup.injEq, nums_inj, and_true, List.drop_zero, List.drop_succ_cons]
  constructor
  · rintro ⟨_, a, b, c, _, d⟩
    exact ⟨by omega, by omega, by omega, d⟩
  · rintro ⟨rfl, b, c, rfl⟩
    refine ⟨?_, ?_, ?_, ?_, ?_, ?_⟩ <;> first | trivial | rfl | omega
theorem parts_id {B : Bk} (W : Wf B) : partsB B (idT B.hues.length) = goesB B .letters := by
  unfold partsB distinctB
  rw [decide_eq_true (zip_id_nodup _), Bool.true_and]
  show agree (evP B (idT B.hues.length)) = agree (evW B .letters)
  rw [Bool.eq_iff_iff, agree_iff, agree_iff]
  constructor
  · intro h p hp p' hp' e
    obtain ⟨c, hc, rfl⟩ := List.mem_map.mp hp
    obtain ⟨c', hc', rfl⟩ := List.mem_map.mp hp'
    have e : keyW .letters (hueOf B c) c = keyW .letters (hueOf B c') c' := e
    simp only [keyW, List.cons.injEq, NestedKey.num.injEq, and_true] at e
    have hs : ∀ s, (s = 2 ∨ s = 3) → sideOf s c.row = sideOf s c'.row := fun s hs => by
      apply List.ext_getElem?
      intro k
      by_cases hk : k < B.hues.length
      · rw [(side_at W hc s hk).1, (side_at W hc' s hk).1]
        congr 1
        exact h (keyP B (idT B.hues.length) c s k 0, _) ((mem_evP W _).mpr ⟨c, s, k, 0, _, (ev_id W).mpr ⟨hc, hs, hk, rfl, rfl⟩, rfl⟩) (keyP B (idT B.hues.length) c' s k 0, _) ((mem_evP W _).mpr ⟨c', s, k, 0, _, (ev_id W).mpr ⟨hc', hs, hk, rfl, rfl⟩, rfl⟩)
          ((key_id W hc hc' hk hk).mpr ⟨rfl, by omega, by omega, rfl⟩)
      · rw [List.getElem?_eq_none (by rw [(side_len W hc s).1]; omega), List.getElem?_eq_none (by rw [(side_len W hc' s).1]; omega)]
    have a := hs 2 (.inl rfl)
    have b := hs 3 (.inr rfl)
    exact Prod.ext a b
  · intro h p hp p' hp' e
    obtain ⟨c, s, k, l, n, he, rfl⟩ := (mem_evP W p).mp hp
    obtain ⟨c', s', k', l', n', he', rfl⟩ := (mem_evP W p').mp hp'
    obtain ⟨hc, hs, hk, rfl, rfl⟩ := (ev_id W).mp he
    obtain ⟨hc', hs', hk', rfl, rfl⟩ := (ev_id W).mp he'
    obtain ⟨rfl, b, d, rfl⟩ := (key_id W hc hc' hk hk').mp e
    have hm := h _ (List.mem_map.mpr ⟨c, hc, rfl⟩) _ (List.mem_map.mpr ⟨c', hc', rfl⟩) (show keyW .letters (hueOf B c) c = keyW .letters (hueOf B c') c' by simp only [keyW, b, d])
    have hm : c.row.maps = c'.row.maps := hm
    show (sideOf s c.row).getD k 0 = (sideOf s c'.row).getD k 0
    unfold sideOf
    rw [hm]
/-! ## books fit, and come back from lists -/
theorem fit_intD (n : Nat) (xs : List Nat) (h : xs.length ≤ 1000000) : fit (n + 1) (.tuple (intD xs)) = true := by
  unfold fit intD
  rw [List.length_map, decide_eq_true h, Bool.true_and, List.all_map, List.all_eq_true]
  intro x _
  cases n <;> rfl
theorem fit_all {n : Nat} {α : Type} {xs : List α} {f : α → PyData} (hl : xs.length ≤ 1000000) (h : ∀ x ∈ xs, fit n (f x) = true) : fit (n + 1) (.tuple (xs.map f)) = true := by
  unfold fit
  rw [List.length_map, decide_eq_true hl, Bool.true_and, List.all_map, List.all_eq_true]
  exact h
theorem fit_book {B : Bk} (W : Wf B) (ha : B.ans.length ≤ 1000000) : fit 6 (bookD B) = true := by
  have hf := W.few
  unfold bookD
  have h1 : fit 5 (.tuple (B.ans.map PyData.bool)) = true := fit_all ha fun x _ => rfl
  have h2 : fit 5 (.tuple (intD B.hues)) = true := fit_intD _ _ (by omega)
  have h3 : fit 5 (.tuple [.int B.fst, .int 0]) = true := rfl
  have h4 : fit 5 (.tuple (B.rows.map fun t => .tuple (t.map fun c => .tuple (c.map rowD)))) = true := by
    refine fit_all (by have := W.rows; omega) fun t ht => ?_
    have hm := W.tab t ht
    refine fit_all (by omega) fun c hc => ?_
    have hm2 := hm.2 c hc
    refine fit_all (by omega) fun r hr => ?_
    have hm3 := hm2.2 r hr
    unfold rowD rowL mapsD
    have e1 : fit 1 (.tuple (intD r.maps.1)) = true := fit_intD _ _ (by omega)
    have e2 : fit 1 (.tuple (intD r.maps.2)) = true := fit_intD _ _ (by omega)
    show (decide _ && (fit 1 _ && (fit 1 _ && (fit 1 _ && (fit 1 _ && true))))) = true
    rw [e1, e2]; rfl
  show (decide _ && (fit 5 _ && (fit 5 _ && (fit 5 _ && (fit 5 _ && true))))) = true
  rw [h1, h2, h3, h4]; rfl
theorem tupN_int (n : Nat) (i : Int) : tupN n (.int i) = .int i := by cases n <;> rfl
theorem tupN_bool (n : Nat) (i : Bool) : tupN n (.bool i) = .bool i := by cases n <;> rfl
theorem tupN_map {n : Nat} {α : Type} {xs : List α} {f : α → PyData} (h : ∀ x ∈ xs, tupN n (f x) = f x) : tupN (n + 1) (.tuple (xs.map f)) = .tuple (xs.map f) := by
  show PyData.tuple ((xs.map f).map (tupN n)) = _
  rw [List.map_map]
  congr 1
  exact List.map_congr_left h
theorem tup_row (r : Row) (n : Nat) : tupN (n + 2) (rowD r) = rowD r := by
  have e1 : tupN (n + 1) (.tuple (intD r.maps.1)) = .tuple (intD r.maps.1) := tupN_map fun x _ => tupN_int _ _
  have e2 : tupN (n + 1) (.tuple (intD r.maps.2)) = .tuple (intD r.maps.2) := tupN_map fun x _ => tupN_int _ _
  show PyData.tuple [tupN (n + 1) _, tupN (n + 1) _, tupN (n + 1) (.tuple (intD r.maps.1)), tupN (n + 1) (.tuple (intD r.maps.2))] = _
  rw [e1, e2, tupN_int, tupN_int]; rfl
theorem tup_book (B : Bk) : tupN 6 (bookD B) = bookD B := by
  have h1 : tupN 5 (.tuple (B.ans.map PyData.bool)) = .tuple (B.ans.map PyData.bool) := tupN_map fun x _ => tupN_bool _ _
  have h2 : tupN 5 (.tuple (intD B.hues)) = .tuple (intD B.hues) := tupN_map fun x _ => tupN_int _ _
  have h4 : tupN 5 (.tuple (B.rows.map fun t => .tuple (t.map fun c => .tuple (c.map rowD)))) = .tuple (B.rows.map fun t => .tuple (t.map fun c => .tuple (c.map rowD))) :=
    tupN_map fun t _ => tupN_map fun c _ => tupN_map fun r _ => tup_row r 0
  show PyData.tuple [tupN 5 (.tuple (B.ans.map PyData.bool)), tupN 5 (.tuple (intD B.hues)), .tuple [.int B.fst, .int 0], tupN 5 (.tuple (B.rows.map fun t => .tuple (t.map fun c => .tuple (c.map rowD))))] = _
  rw [h1, h2, h4]; rfl
theorem tup_lst : ∀ (n : Nat) (d : PyData), tupN n (lstN n d) = tupN n d
  | 0, d => rfl
  | n + 1, .list xs => by
    show PyData.tuple ((xs.map (lstN n)).map (tupN n)) = .tuple (xs.map (tupN n))
    rw [List.map_map]
    congr 1
    exact List.map_congr_left fun x _ => tup_lst n x
  | n + 1, .tuple xs => by
    show PyData.tuple ((xs.map (lstN n)).map (tupN n)) = .tuple (xs.map (tupN n))
    rw [List.map_map]
    congr 1
    exact List.map_congr_left fun x _ => tup_lst n x
  | n + 1, .none => rfl
  | n + 1, .bool _ => rfl
  | n + 1, .int _ => rfl
  | n + 1, .str _ => rfl
  | n + 1, .dict _ => rfl
theorem fit_lst : ∀ (n : Nat) (d : PyData), fit n d = true → fit n (lstN n d) = true
  | 0, d, h => h
  | n + 1, .list xs, h => by
    have h := Bool.and_eq_true_iff.mp h
    show (decide ((xs.map (lstN n)).length ≤ 1000000) && (xs.map (lstN n)).all (fit n)) = true
    rw [List.length_map, h.1, Bool.true_and, List.all_map, List.all_eq_true]
    exact fun x hx => fit_lst n x (List.all_eq_true.mp h.2 x hx)
  | n + 1, .tuple xs, h => by
    have h := Bool.and_eq_true_iff.mp h
    show (decide ((xs.map (lstN n)).length ≤ 1000000) && (xs.map (lstN n)).all (fit n)) = true
    rw [List.length_map, h.1, Bool.true_and, List.all_map, List.all_eq_true]
    exact fun x hx => fit_lst n x (List.all_eq_true.mp h.2 x hx)
  | n + 1, .none, h => h
  | n + 1, .bool _, h => h
  | n + 1, .int _, h => h
  | n + 1, .str _, h => h
  | n + 1, .dict _, h => h
theorem wd_lay (u : Wd) (n : Nat) : fit n (.str u.str) = true := by
  have : PyData.canLay0 (.str u.str) = true := by cases u <;> decide +kernel
  cases n <;> exact this
theorem fit_told (B : Bk) (n : Nat) : fit (n + 1) (.tuple (wordsD (toldW B))) = true := by
  refine fit_all ?_ fun u _ => wd_lay u n
  have := List.length_filter_le (fun v => goesB B v) words
  have e : words.length = 6 := rfl
  unfold toldW
  omega
theorem wd_str_inj {u v : Wd} (h : u.str = v.str) : u = v := by
  have := wd_inj u v
  rw [h, beq_self_eq_true] at this
  exact of_decide_eq_true this.symm
theorem mem_words (B : Bk) (v : Wd) : v.str ∈ (toldW B).map Wd.str ↔ goesB B v = true := by
  constructor
  · intro h
    obtain ⟨u, hu, e⟩ := List.mem_map.mp h
    rw [← wd_str_inj e]
    exact (List.mem_filter.mp hu).2
  · intro h
    refine List.mem_map.mpr ⟨v, List.mem_filter.mpr ⟨?_, h⟩, rfl⟩
    cases v <;> decide
theorem wordsD_str (ws : List Wd) : wordsD ws = (ws.map Wd.str).map PyData.str := by unfold wordsD; rw [List.map_map]; rfl
section
variable {Qs : Sl → Prop} {B : Bk} {v : Wd}
theorem r_inTold (k : Qs (.d (.bool (goesB B v)))) : bIn (.d (.str v.str)) (.d (.tuple (wordsD (toldW B)))) Qs := by
  refine ⟨v.str, (toldW B).map Wd.str, rfl, by rw [wordsD_str], ?_⟩
  have e : decide (v.str ∈ (toldW B).map Wd.str) = goesB B v := by rw [Bool.eq_iff_iff, decide_eq_true_eq, mem_words]
  rw [e]
  exact k
theorem r_notTold (k : Qs (.d (.bool (!goesB B v)))) : bNotIn (.d (.str v.str)) (.d (.tuple (wordsD (toldW B)))) Qs := by
  refine ⟨v.str, (toldW B).map Wd.str, rfl, by rw [wordsD_str], ?_⟩
  have e : decide (v.str ∈ (toldW B).map Wd.str) = goesB B v := by rw [Bool.eq_iff_iff, decide_eq_true_eq, mem_words]
  rw [e]
  exact k
end
end
end Ph

set_option Elab.async false
set_option linter.all false
set_option maxRecDepth 100000
set_option maxHeartbeats 4000000
namespace Ph
open PySem L2
local macro_rules | `(tactic| wtm_at "ph") => `(tactic| (repeat (first | (with_reducible refine r_lc2 ?_) | (with_reducible refine r_gRow ?_) | (with_reducible refine r_lenRow ?_) | (with_reducible refine r_exThing ?_) | (with_reducible refine r_lenThing ?_) | (with_reducible refine r_exZth ?_) | (with_reducible refine r_ixBk3 ?_) | (with_reducible refine r_ixBk1 ?_) | (with_reducible refine r_row0 ?_) | (with_reducible refine r_row2 ?_) | (with_reducible refine r_row3 ?_) | (with_reducible refine r_pl0 ?_) | (with_reducible refine r_pl1 ?_) | (with_reducible refine r_pl2 ?_) | (with_reducible refine r_ce0 ?_) | (with_reducible refine r_ce1 ?_) | (with_reducible refine r_gCell ?_) | (with_reducible refine r_gPlace ?_) | (with_reducible refine r_slRow ?_) | (with_reducible refine r_slInt ?_) | (with_reducible refine r_slInt1 ?_) | (with_reducible refine r_exTab ?_) | (with_reducible refine r_exLine ?_) | (with_reducible refine r_numF ?_) | (with_reducible refine r_numFI ?_) | (with_reducible refine r_numL ?_) | (with_reducible refine r_numLI ?_) | (with_reducible refine r_lenI ?_) | (with_reducible refine r_bEqM ?_) | (with_reducible refine r_seq ?_) | (with_reducible refine r_next ?_) | (with_reducible refine r_asg ?_) | (with_reducible refine r_par ?_) | (with_reducible refine r_ret ?_) | (with_reducible refine r_ifS ?_) | (with_reducible refine r_C ?_) | (with_reducible refine r_fz ?_) | (with_reducible refine r_op ?_) | (with_reducible refine r_test ?_) | (with_reducible refine r_exB ?_) | (with_reducible refine r_and ?_) | (with_reducible refine r_not ?_) | (with_reducible refine r_neg ?_) | (with_reducible refine r_andT ?_) | (with_reducible refine r_orT ?_) | (with_reducible refine r_notT ?_) | (with_reducible refine r_if ?_) | (with_reducible refine r_nil ?_) | (with_reducible refine r_cons ?_) | (with_reducible refine r_dnil ?_) | (with_reducible refine r_dcons ?_) | (with_reducible refine r_tup ?_) | (with_reducible refine r_lst ?_) | (with_reducible refine r_call ?_) | (with_reducible refine r_isi ?_) | (with_reducible refine r_isi2 ?_) | (with_reducible refine r_exD ?_) | (with_reducible refine r_exI ?_) | (with_reducible refine r_tupRg ?_) | (with_reducible refine r_lstRg ?_) | (with_reducible refine r_sl ?_) | (with_reducible refine r_slT ?_) | (with_reducible refine r_slL ?_) | (with_reducible refine r_oNo ?_) | (with_reducible refine r_oI ?_) | (with_reducible refine r_fn ?_) | (with_reducible refine r_gName ?_) | (with_reducible refine r_gNil ?_) | (with_reducible refine r_gCons ?_) | (with_reducible refine r_iL ?_) | (with_reducible refine r_iT ?_) | (with_reducible refine r_iEL ?_) | (with_reducible refine r_iET ?_) | (with_reducible refine r_iLT ?_) | (with_reducible refine r_exLT_l ?_) | (with_reducible refine r_exLT_t ?_) | (with_reducible refine r_exL ?_) | (with_reducible refine r_exT ?_) | (with_reducible refine r_iR ?_) | (with_reducible refine r_iZ ?_) | (with_reducible refine r_exZt ?_) | (with_reducible refine r_exZl ?_) | (with_reducible refine r_idx ?_) | (with_reducible refine r_orL ?_) | (with_reducible refine r_disp ?_) | (with_reducible refine r_get ?_) | (with_reducible refine r_exS ?_) | (with_reducible refine r_exWD ?_) | (with_reducible refine r_back ?_) | (with_reducible refine r_lenSet ?_) | (with_reducible refine r_fnT ?_) | (with_reducible refine r_setO ?_) | (with_reducible refine r_tinSet ?_) | (with_reducible refine r_inD ?_) | (with_reducible refine r_par3 ?_) | (with_reducible refine r_ex3 ?_) | (with_reducible refine r_ex2 ?_) | (with_reducible refine r_yes ?_) | (with_reducible refine r_tt ?_) | (with_reducible refine r_ff ?_) | (with_reducible refine r_lc ?_) | (with_reducible refine r_for ?_) | (with_reducible refine r_int ?_) | (with_reducible refine r_intB ?_) | (with_reducible refine r_abs ?_) | (with_reducible refine r_isNn ?_) | (with_reducible refine r_isNb ?_) | (with_reducible refine r_isNi ?_) | (with_reducible refine r_isNs ?_) | (with_reducible refine r_bEqN ?_) | (with_reducible refine r_ft ?_) | (with_reducible refine r_tf ?_) | (with_reducible refine r_isN ?_) | ((with_reducible apply r_var); exact rfl) | ((with_reducible apply r_varT); exact rfl) | ((with_reducible apply r_varM); exact rfl) | ((with_reducible apply r_varS); exact rfl) | ((with_reducible apply r_lenO); exact rfl) | ((with_reducible apply r_len); exact rfl) | ((with_reducible apply r_tuple); exact rfl) | ((with_reducible apply r_list); exact rfl) | ((with_reducible apply r_ixT); exact rfl) | ((with_reducible apply r_ixL); exact rfl) | ((with_reducible apply r_gTup); exact rfl) | ((with_reducible apply r_fzS); exact rfl) | ((with_reducible apply r_ttE); exact rfl) | ((with_reducible apply r_ffE); exact rfl) | ((with_reducible apply r_ftE); exact rfl) | ((with_reducible apply r_tfE); exact rfl) | ((with_reducible apply r_app); exact ⟨_, rfl⟩) | ((with_reducible apply r_ixO); exact ⟨_, rfl⟩) | ((with_reducible apply r_ext); exact ⟨_, rfl⟩) | (with_reducible refine r_bEqS ?_) | (with_reducible refine r_bEqI ?_) | (with_reducible refine r_bEqT ?_) | (with_reducible refine r_bEqM ?_) | (with_reducible refine r_bEqB ?_) | (with_reducible refine r_bNeI ?_) | (with_reducible refine r_bNeT ?_) | (with_reducible refine r_bNeM ?_) | (with_reducible refine r_bNeB ?_) | ((with_reducible apply r_bI); first | exact trivial | omega | decide) | ((with_reducible apply And.intro); exact Nat.le_of_ble_eq_true rfl) | (dsimp only [frz]))))
section
variable {P : Program} {w : World} {K : PySem.W.Frag} {mg : Str → Option Value} {base : Heap}
def T_law_right : FT := fun ks q Q => ∃ n : Nat, ks = [.t] ∧ q = some n ∧ n + 10000 < 1099511627776 ∧ ∀ m, Q (.d (.bool true)) (some m)
theorem list_of_all {α : Type} {P : α → Prop} {f : α → PyData} : ∀ {ys : List PyData}, (∀ (i : Nat) y, ys[i]? = some y → ∃ x, y = f x ∧ P x) → ∃ ms : List α, ys = ms.map f ∧ ms.length = ys.length ∧ ∀ x ∈ ms, P x
  | [], _ => ⟨[], rfl, rfl, fun x h => (by cases h)⟩
  | y :: ys, h => by
    obtain ⟨x, rfl, hx⟩ := h 0 y rfl
    obtain ⟨ms, rfl, hl, hm⟩ := list_of_all (ys := ys) fun i z hz => h (i + 1) z hz
    refine ⟨x :: ms, rfl, by rw [List.length_cons, List.length_cons, hl], fun z hz => ?_⟩
    rcases List.mem_cons.mp hz with rfl | hz
    · exact hx
    · exact hm z hz
theorem r_catO {i : Nat} {t : ATE} {G : List Sl} {q : Nn} {Q : Sl → List Sl → Nn → Prop} {xs : List PyData} (h : G[i]? = some (.l xs)) (k : t G q fun r G' q' => ∃ xs ys, r = .l ys ∧ G'[i]? = some (.l xs) ∧ xs.length + ys.length ≤ 1000000 ∧ Q (.l (xs ++ ys)) G' q') : aCatO i t G q Q := ⟨⟨xs, h⟩, k⟩
def six : List Wd := [.nobody, .blind, .side, .letters, .flag, .all]
theorem one_add (z : Nat) : (1 : Int) + (z : Int) = ((1 + z : Nat) : Int) := by omega
set_option maxHeartbeats 16000000 in
theorem can_law_right (Bl : Blt mg) (F : Fn K mg "_law_right" s_law_right ["_law_tin"]) (C1 : Can P w K mg base 4 "_law_book" ["_law_tin", "_law_letters_so", "_law_flags_so", "_law_extra_so", "_law_word_so"] T_law_book) (C2 : Can P w K mg base 2 "_law_has_parts" ["_law_book_so", "_law_parts_so"] T_law_has_parts)
    (C3 : Can P w K mg base 8 "_law_lists" ["_law_matter"] (T_law_lists 6)) (C4 : Can P w K mg base 2 "_law_of" ["_law_tin", "_law_goods_so"] T_law_of) (C5 : Can P w K mg base 6 "_law_same" ["_law_got", "_law_due"] (T_law_same 4)) (C6 : Can P w K mg base 1 "_law_take" ["_law_tin", "_law_below_so"] T_law_take)
    (C7 : Can P w K mg base 2 "_law_told" ["_law_book_so"] T_law_told) (C8 : Can P w K mg base 9 "goes_by" ["book", "word"] T_goes_by) (C9 : Can P w K mg base 9 "is_parts" ["book", "thing"] T_is_parts) (C10 : Can P w K mg base 10 "told_of" ["book"] T_told_of) :
    Can P w K mg base 11 "_law_right" ["_law_tin"] T_law_right := by
  refine can_of F sc_law_right (fun ks q Qf h => ?_) (E_law_right Bl 10 C1 (by omega) C2 (by omega) C3 (by omega) C4 (by omega) C5 (by omega) C6 (by omega) C7 (by omega) C8 (by omega) C9 (by omega) C10 (by omega)).2 fun ks q Qf h => ?_
  · obtain ⟨_, rfl, _⟩ := h
    rfl
  · obtain ⟨n, rfl, rfl, hn, h⟩ := h
    unfold E_law_right
    dsimp only
    wtm_at "ph"
    refine ⟨_, n, rfl, rfl, by omega, fun z => (nomatch z), Nat.le_of_ble_eq_true rfl, fun x hx => ?_⟩
    obtain ⟨v, rfl⟩ : ∃ v : Wd, x = .str v.str := by
      have hx : x ∈ six.map fun v => PyData.str v.str := hx
      obtain ⟨v, _, e⟩ := List.mem_map.mp hx
      exact ⟨v, e.symm⟩
    clear hx
    wtm_at "ph"
    refine ⟨2, n + 1, rfl, rfl, by omega, by omega, by omega, fun z1 hz1 => ?_⟩
    wtm_at "ph"
    refine ⟨3, n + 2, rfl, rfl, by omega, by omega, by omega, fun z2 hz2 => ?_⟩
    wtm_at "ph"
    refine ⟨3, n + 3, rfl, rfl, by omega, by omega, by omega, fun z3 hz3 => ?_⟩
    wtm_at "ph"
    refine ⟨1 + z1, 1 + z2, z3, n + 4, v, by rw [one_add, one_add], rfl, by omega, by omega, by omega, by omega, by omega, by omega, fun B m1 W hg ha hm1 => ?_⟩
    have hfit := fit_book W (show B.ans.length ≤ 1000000 by omega)
    have htup := tup_book B
    have hfitL := fit_lst 6 _ hfit
    have htupL : tupN 6 (lstN 6 (bookD B)) = bookD B := (tup_lst 6 _).trans htup
    have hfew := W.few
    have hpos := W.pos
    wtm_at "ph"
    refine ⟨B, rfl, W, ?_⟩
    wtm_at "ph"
    refine r_notTold ?_
    rw [hg]
    wtm_at "ph"
    refine ⟨_, B, rfl, hfit, htup, W, ?_⟩
    wtm_at "ph"
    refine ⟨_, rfl, hfit, ?_⟩
    wtm_at "ph"
    refine ⟨_, B, rfl, hfitL, htupL, W, ?_⟩
    wtm_at "ph"
    refine lc_map (xs := six) (enc := fun v => .str v.str) (f := fun v => .bool (goesB B v)) (by decide) (fun u hu R R' hR => ?_) ?_
    · wtm_at "ph"
      refine ⟨_, B, u, rfl, hfit, htup, W, ?_⟩
      exact hR _ rfl
    refine r_catL (Nat.le_of_ble_eq_true rfl) ?_
    wtm_at "ph"
    refine lc_map (xs := six) (enc := fun v => .str v.str) (f := fun v => .bool (goesB B v)) (by decide) (fun u hu R R' hR => ?_) ?_
    · wtm_at "ph"
      refine r_inTold ?_
      exact hR _ rfl
    refine r_catL (Nat.le_of_ble_eq_true rfl) ?_
    wtm_at "ph"
    refine ⟨2, m1, rfl, rfl, by omega, by omega, by omega, fun z4 hz4 => ?_⟩
    wtm_at "ph"
    refine ⟨by omega, by omega, ?_⟩
    refine lc_map (xs := List.range B.hues.length) (enc := fun (n : Nat) => PyData.int n) (f := fun k => rowT [k]) (by rw [List.length_range]; omega) (fun k hk R R' hR => ?_) ?_
    · wtm_at "ph"
      exact hR _ rfl
    wtm_at "ph"
    refine ⟨by decide, by decide, ?_⟩
    have eid : (List.range B.hues.length).map (fun k => rowT [k]) = (idT B.hues.length).map rowT := by unfold idT; rw [List.map_map]; rfl
    rw [eid]
    refine for_map (xs := List.range 2) (enc := fun (n : Nat) => PyData.int n) (fun i G q' => ∃ (ts : List (List (List Nat))) (m' : Nat) (a7 : Sl), q' = some m' ∧ m' ≤ m1 + 1 + i * 32 ∧ ts.length = i + 1 ∧ ts[0]? = some (idT B.hues.length) ∧ (∀ t ∈ ts, ThOk B.hues.length t) ∧ G = [.t, .d (.str v.str), .d (bookD B), .l ([.tuple (wordsD (toldW B)), .tuple (wordsD (toldW B))] ++ six.map fun v => .bool (goesB B v)), .l ([.tuple (wordsD (toldW B)), .tuple (wordsD (toldW B))] ++ six.map fun v => .bool (goesB B v)), .d (.int (1 + (z4 : Int))), .l (ts.map thingD), a7, .no, .no, .no])
      ⟨[idT B.hues.length], m1 + 1, .no, rfl, by omega, rfl, rfl, fun t ht => (by rw [List.mem_singleton.mp ht]; exact idT_ok _), rfl⟩ ?_ ?_
    · rintro i lap G q' hi ⟨ts, m', a7, rfl, hm', htl, ht0, hts, rfl⟩
      have hi2 := (List.getElem?_eq_some_iff.mp hi).1
      rw [List.length_range] at hi2
      wtm_at "ph"
      refine lc_draw (xs := B.hues) (enc := fun (n : Nat) => PyData.int n) (c := 4) (P := fun _ y => ∃ r : List Nat, y = rowT r ∧ r.length = 1 + z4) rfl (by omega) (fun i x m hi hm R R' hR => ?_) fun ys m hm hyl hy => ?_
      · have hi3 := (List.getElem?_eq_some_iff.mp hi).1
        wtm_at "ph"
        refine ⟨by omega, by omega, ?_⟩
        rw [one_add]
        refine lc_draw (xs := List.range (1 + z4)) (enc := fun (n : Nat) => PyData.int n) (c := 1) (P := fun _ y => ∃ x : Nat, y = .int x ∧ True) rfl (by rw [List.length_range]; omega) (fun i2 x2 m2 hi2 hm2 R2 R2' hR2 => ?_) fun ys2 m2 hm2 hyl2 hy2 => ?_
        · have hi4 := (List.getElem?_eq_some_iff.mp hi2).1
          rw [List.length_range] at hi4
          wtm_at "ph"
          refine ⟨2, m2, rfl, rfl, by omega, by omega, by omega, fun z hz => ?_⟩
          exact hR2 _ _ _ ⟨z, rfl, trivial⟩ (by omega) rfl
        · obtain ⟨r, rfl, hrl, _⟩ := ints_of_all hy2
          rw [List.length_range] at hm2 hyl2
          wtm_at "ph"
          exact hR _ _ _ ⟨r, rfl, by rw [hrl, hyl2]⟩ (by omega) rfl
      · obtain ⟨t, rfl, htl2, ht2⟩ := list_of_all hy
        wtm_at "ph"
        refine ⟨_, _, rfl, rfl, by rw [List.length_map]; omega, ts ++ [t], m, .d (.int lap), rfl, by omega, by rw [List.length_append, htl]; rfl, ?_, fun t' ht' => ?_, ?_⟩
        · rw [List.getElem?_append_left (by omega)]
          exact ht0
        · rcases List.mem_append.mp ht' with ht' | ht'
          · exact hts t' ht'
          · rw [List.mem_singleton.mp ht']
            exact ⟨by rw [htl2, hyl], 1 + z4, by omega, by omega, ht2⟩
        · rw [List.map_append]
          rfl
    · rintro G q' ⟨ts, m', a7, rfl, hm', htl, ht0, hts, rfl⟩
      rw [List.length_range] at htl hm'
      wtm_at "ph"
      refine lc_map (xs := ts) (enc := thingD) (f := fun t => .bool (partsB B t)) (by omega) (fun t ht R R' hR => ?_) ?_
      · wtm_at "ph"
        refine ⟨_, _, B, rfl, hfit, htup, W, .inl ⟨t, rfl, hts t ht, ?_⟩⟩
        exact hR _ rfl
      refine r_catL (by rw [List.length_map, htl]; exact Nat.le_of_ble_eq_true rfl) ?_
      wtm_at "ph"
      refine ⟨_, rfl, hfit, ?_⟩
      wtm_at "ph"
      refine r_ixL (atI_nat (i := 0) (by rw [List.getElem?_map, ht0]; rfl)) ?_
      wtm_at "ph"
      refine ⟨_, _, B, rfl, hfitL, htupL, W, .inl ⟨idT B.hues.length, rfl, idT_ok _, ?_⟩⟩
      wtm_at "ph"
      refine r_catL (by rw [List.length_append, List.length_map, htl]; exact Nat.le_of_ble_eq_true rfl) ?_
      wtm_at "ph"
      refine r_catO rfl ?_
      wtm_at "ph"
      refine lc_map (xs := ts) (enc := thingD) (f := fun t => .bool (partsB B t)) (by omega) (fun t ht R R' hR => ?_) ?_
      · wtm_at "ph"
        refine ⟨B, t, rfl, W, hts t ht, ?_⟩
        exact hR _ rfl
      refine ⟨_, _, rfl, rfl, by rw [List.length_map, htl]; exact Nat.le_of_ble_eq_true rfl, ?_⟩
      wtm_at "ph"
      refine r_ixO (a := 0) ⟨_, rfl⟩ ?_
      wtm_at "ph"
      refine ⟨0, _, _, rfl, rfl, rfl, ?_⟩
      refine r_inTold (v := .letters) ?_
      wtm_at "ph"
      refine r_catL (by rw [List.length_append, List.length_map, htl]; exact Nat.le_of_ble_eq_true rfl) ?_
      wtm_at "ph"
      rw [← parts_id W]
      refine ⟨_, rfl, ?_, h _⟩
      have hin : ∀ d ∈ (([PyData.tuple (wordsD (toldW B)), .tuple (wordsD (toldW B))] ++ six.map fun v => .bool (goesB B v)) ++ ts.map fun t => .bool (partsB B t)) ++ [.bool (partsB B (idT B.hues.length))], fit 3 d = true := by
        intro d hd
        rcases List.mem_append.mp hd with hd | hd
        · rcases List.mem_append.mp hd with hd | hd
          · rcases List.mem_append.mp hd with hd | hd
            · have hd : d = .tuple (wordsD (toldW B)) := by simpa using hd
              rw [hd]
              exact fit_told B 2
            · obtain ⟨_, _, rfl⟩ := List.mem_map.mp hd
              rfl
          · obtain ⟨_, _, rfl⟩ := List.mem_map.mp hd
            rfl
        · rw [List.mem_singleton.mp hd]
          rfl
      show (decide (_ ≤ 1000000) && List.all _ (fit 3)) = true
      rw [Bool.and_eq_true]
      refine ⟨decide_eq_true ?_, List.all_eq_true.mpr hin⟩
      rw [List.length_append, List.length_append, List.length_map, htl]
      exact Nat.le_of_ble_eq_true rfl
end
end Ph

set_option Elab.async false
set_option linter.all false
set_option maxRecDepth 100000
set_option maxHeartbeats 4000000
namespace Ph
open PySem L2
local macro_rules | `(tactic| wtm_at "ph") => `(tactic| (repeat (first | (with_reducible refine r_lc2 ?_) | (with_reducible refine r_gRow ?_) | (with_reducible refine r_lenRow ?_) | (with_reducible refine r_exThing ?_) | (with_reducible refine r_lenThing ?_) | (with_reducible refine r_exZth ?_) | (with_reducible refine r_ixBk3 ?_) | (with_reducible refine r_ixBk1 ?_) | (with_reducible refine r_row0 ?_) | (with_reducible refine r_row2 ?_) | (with_reducible refine r_row3 ?_) | (with_reducible refine r_pl0 ?_) | (with_reducible refine r_pl1 ?_) | (with_reducible refine r_pl2 ?_) | (with_reducible refine r_ce0 ?_) | (with_reducible refine r_ce1 ?_) | (with_reducible refine r_gCell ?_) | (with_reducible refine r_gPlace ?_) | (with_reducible refine r_slRow ?_) | (with_reducible refine r_slInt ?_) | (with_reducible refine r_slInt1 ?_) | (with_reducible refine r_exTab ?_) | (with_reducible refine r_exLine ?_) | (with_reducible refine r_numF ?_) | (with_reducible refine r_numFI ?_) | (with_reducible refine r_numL ?_) | (with_reducible refine r_numLI ?_) | (with_reducible refine r_lenI ?_) | (with_reducible refine r_bEqM ?_) | (with_reducible refine r_seq ?_) | (with_reducible refine r_next ?_) | (with_reducible refine r_asg ?_) | (with_reducible refine r_par ?_) | (with_reducible refine r_ret ?_) | (with_reducible refine r_ifS ?_) | (with_reducible refine r_C ?_) | (with_reducible refine r_fz ?_) | (with_reducible refine r_op ?_) | (with_reducible refine r_test ?_) | (with_reducible refine r_exB ?_) | (with_reducible refine r_and ?_) | (with_reducible refine r_not ?_) | (with_reducible refine r_neg ?_) | (with_reducible refine r_andT ?_) | (with_reducible refine r_orT ?_) | (with_reducible refine r_notT ?_) | (with_reducible refine r_if ?_) | (with_reducible refine r_nil ?_) | (with_reducible refine r_cons ?_) | (with_reducible refine r_dnil ?_) | (with_reducible refine r_dcons ?_) | (with_reducible refine r_tup ?_) | (with_reducible refine r_lst ?_) | (with_reducible refine r_call ?_) | (with_reducible refine r_isi ?_) | (with_reducible refine r_isi2 ?_) | (with_reducible refine r_exD ?_) | (with_reducible refine r_exI ?_) | (with_reducible refine r_tupRg ?_) | (with_reducible refine r_lstRg ?_) | (with_reducible refine r_sl ?_) | (with_reducible refine r_slT ?_) | (with_reducible refine r_slL ?_) | (with_reducible refine r_oNo ?_) | (with_reducible refine r_oI ?_) | (with_reducible refine r_fn ?_) | (with_reducible refine r_gName ?_) | (with_reducible refine r_gNil ?_) | (with_reducible refine r_gCons ?_) | (with_reducible refine r_iL ?_) | (with_reducible refine r_iT ?_) | (with_reducible refine r_iEL ?_) | (with_reducible refine r_iET ?_) | (with_reducible refine r_iLT ?_) | (with_reducible refine r_exLT_l ?_) | (with_reducible refine r_exLT_t ?_) | (with_reducible refine r_exL ?_) | (with_reducible refine r_exT ?_) | (with_reducible refine r_iR ?_) | (with_reducible refine r_iZ ?_) | (with_reducible refine r_exZt ?_) | (with_reducible refine r_exZl ?_) | (with_reducible refine r_idx ?_) | (with_reducible refine r_orL ?_) | (with_reducible refine r_disp ?_) | (with_reducible refine r_get ?_) | (with_reducible refine r_exS ?_) | (with_reducible refine r_exWD ?_) | (with_reducible refine r_back ?_) | (with_reducible refine r_lenSet ?_) | (with_reducible refine r_fnT ?_) | (with_reducible refine r_setO ?_) | (with_reducible refine r_tinSet ?_) | (with_reducible refine r_inD ?_) | (with_reducible refine r_par3 ?_) | (with_reducible refine r_ex3 ?_) | (with_reducible refine r_ex2 ?_) | (with_reducible refine r_yes ?_) | (with_reducible refine r_tt ?_) | (with_reducible refine r_ff ?_) | (with_reducible refine r_lc ?_) | (with_reducible refine r_for ?_) | (with_reducible refine r_int ?_) | (with_reducible refine r_intB ?_) | (with_reducible refine r_abs ?_) | (with_reducible refine r_isNn ?_) | (with_reducible refine r_isNb ?_) | (with_reducible refine r_isNi ?_) | (with_reducible refine r_isNs ?_) | (with_reducible refine r_bEqN ?_) | (with_reducible refine r_ft ?_) | (with_reducible refine r_tf ?_) | (with_reducible refine r_isN ?_) | ((with_reducible apply r_var); exact rfl) | ((with_reducible apply r_varT); exact rfl) | ((with_reducible apply r_varM); exact rfl) | ((with_reducible apply r_varS); exact rfl) | ((with_reducible apply r_lenO); exact rfl) | ((with_reducible apply r_len); exact rfl) | ((with_reducible apply r_tuple); exact rfl) | ((with_reducible apply r_list); exact rfl) | ((with_reducible apply r_ixT); exact rfl) | ((with_reducible apply r_ixL); exact rfl) | ((with_reducible apply r_gTup); exact rfl) | ((with_reducible apply r_fzS); exact rfl) | ((with_reducible apply r_ttE); exact rfl) | ((with_reducible apply r_ffE); exact rfl) | ((with_reducible apply r_ftE); exact rfl) | ((with_reducible apply r_tfE); exact rfl) | ((with_reducible apply r_app); exact ⟨_, rfl⟩) | ((with_reducible apply r_ixO); exact ⟨_, rfl⟩) | ((with_reducible apply r_ext); exact ⟨_, rfl⟩) | (with_reducible refine r_bEqS ?_) | (with_reducible refine r_bEqI ?_) | (with_reducible refine r_bEqT ?_) | (with_reducible refine r_bEqM ?_) | (with_reducible refine r_bEqB ?_) | (with_reducible refine r_bNeI ?_) | (with_reducible refine r_bNeT ?_) | (with_reducible refine r_bNeM ?_) | (with_reducible refine r_bNeB ?_) | ((with_reducible apply r_bI); first | exact trivial | omega | decide) | ((with_reducible apply And.intro); exact Nat.le_of_ble_eq_true rfl) | (dsimp only [frz]))))
section
variable {P : Program} {w : World} {K : PySem.W.Frag} {mg : Str → Option Value} {base : Heap}
/-! ## _law_leveled -/
def hues8 : List Nat := [0, 0, 0, 0, 1, 1, 1, 1]
def prs : List (List Nat) := [[0, 0], [1, 0], [0, 1], [1, 1], [0, 0], [1, 0], [0, 1], [1, 1]]
theorem prs_at {i : Nat} {r : List Nat} (h : prs[i]? = some r) : ∃ a b, r = [a, b] ∧ a < 2 ∧ b < 2 := by
  have hm : ∀ r ∈ prs, ∃ a b, r = [a, b] ∧ a < 2 ∧ b < 2 := by
    intro r hr
    simp only [prs, List.mem_cons, List.not_mem_nil, or_false] at hr
    rcases hr with rfl | rfl | rfl | rfl | rfl | rfl | rfl | rfl <;> exact ⟨_, _, rfl, by decide, by decide⟩
  exact hm r (List.mem_of_getElem? h)
theorem hues8_at {i : Nat} (h : i < 8) : ∃ x, hues8[i]? = some x ∧ x < 2 := by
  have hl : hues8.length = 8 := rfl
  refine ⟨hues8[i], List.getElem?_eq_getElem (by rw [hl]; exact h), ?_⟩
  have hm : ∀ x ∈ hues8, x < 2 := by decide
  exact hm _ (List.getElem_mem _)
theorem intD_snoc (xs : List Nat) (v : Nat) : intD (xs ++ [v]) = intD xs ++ [.int v] := by unfold intD; rw [List.map_append]; rfl
theorem val8 (h : Nat) (X Y : Int) : (4 : Int) * (h : Int) + 2 * (X % 2) + Y % 2 = ((4 * h + 2 * (X % 2).toNat + (Y % 2).toNat : Nat) : Int) := by
  have a1 := Int.emod_nonneg X (show (2 : Int) ≠ 0 by decide)
  have a2 := Int.emod_nonneg Y (show (2 : Int) ≠ 0 by decide)
  omega
theorem val8_lt {h : Nat} (hh : h < 2) (X Y : Int) : 4 * h + 2 * (X % 2).toNat + (Y % 2).toNat < 8 := by
  have a1 := Int.emod_lt_of_pos X (show (0 : Int) < 2 by decide)
  have a2 := Int.emod_lt_of_pos Y (show (0 : Int) < 2 by decide)
  omega
def RowP (r : Row) : Prop := MapOk 8 r.maps.1 ∧ MapOk 8 r.maps.2
def LineP (c : List Row) : Prop := c.length = 2 ∧ ∀ r ∈ c, RowP r
def T_law_leveled : FT := fun ks q Q => ∃ n : Nat, ks = [.t] ∧ q = some n ∧ n + 10000 < 1099511627776 ∧ ∀ (B : Bk) (m : Nat), Wf B → B.hues.length = 8 → B.ans.length ≤ 8 → Q (.d (.tuple [bookD B, thingD prs])) (some m)
set_option maxHeartbeats 16000000 in
theorem can_law_leveled (Bl : Blt mg) (F : Fn K mg "_law_leveled" s_law_leveled ["_law_tin"]) (C1 : Can P w K mg base 1 "_law_take" ["_law_tin", "_law_below_so"] T_law_take) : Can P w K mg base 2 "_law_leveled" ["_law_tin"] T_law_leveled := by
  refine can_of F sc_law_leveled (fun ks q Qf h => ?_) (D_law_leveled Bl 1 C1 (by omega)).2 fun ks q Qf h => ?_
  · obtain ⟨_, rfl, _⟩ := h
    rfl
  · obtain ⟨n, rfl, rfl, hn, h⟩ := h
    unfold D_law_leveled
    dsimp only
    wtm_at "ph"
    refine ⟨_, 2, rfl, rfl, by decide, by decide, Nat.le_of_ble_eq_true rfl, ?_⟩
    wtm_at "ph"
    refine ⟨by decide, by decide, ?_⟩
    refine lc_draw (xs := List.range 24) (enc := fun (n : Nat) => PyData.int n) (c := 1) (P := fun _ y => ∃ x : Nat, y = .int x ∧ x < 2) rfl (by decide) (fun i x m hi hm R R' hR => ?_) fun ys m hm hyl hy => ?_
    · have hi2 := (List.getElem?_eq_some_iff.mp hi).1
      rw [List.length_range] at hi2
      wtm_at "ph"
      refine ⟨2, m, rfl, rfl, by omega, by omega, by omega, fun z hz => ?_⟩
      exact hR _ _ _ ⟨z, rfl, hz⟩ (by omega) rfl
    obtain ⟨bs, rfl, hbl, hb2⟩ := ints_of_all hy
    rw [List.length_range] at hm hyl
    have hbl : bs.length = 24 := by rw [hbl, hyl]
    have hbit : ∀ i, i < 24 → ∃ x, bs[i]? = some x ∧ x < 2 := fun i hi => ⟨bs[i], List.getElem?_eq_getElem (by omega), hb2 _ (List.getElem_mem _)⟩
    wtm_at "ph"
    refine ⟨3, m, rfl, rfl, by omega, by omega, by omega, fun z hz => ?_⟩
    wtm_at "ph"
    generalize decide ((z : Int) = 0) = wd
    refine r_numF (xs := prs) (enc := rowT) ?_
    refine for_map (fun i G q' => q' = some (m + 1) ∧ ∃ (tb : List (List Row)) (a6 a7 a8 a9 a10 a11 a12 a13 a14 a15 a16 a17 : Sl), tb.length = i ∧ (∀ c ∈ tb, LineP c) ∧ G = [.t, .d (.tuple (intD hues8)), .d (.list (prs.map rowT)), .d (.list (intD bs)), .l (tb.map lineD), .d (.bool wd), a6, a7, a8, a9, a10, a11, a12, a13, a14, a15, a16, a17, .no]) ⟨rfl, [], _, _, _, _, _, _, _, _, _, _, _, _, rfl, fun c hc => (by cases hc), rfl⟩ ?_ ?_
    · rintro i p1 G q' hi ⟨rfl, tb, a6, a7, a8, a9, a10, a11, a12, a13, a14, a15, a16, a17, htl, htb, rfl⟩
      obtain ⟨hp1, hp2⟩ := withIx_get hi
      obtain ⟨k, own⟩ := p1
      have hp1 : k = i := hp1
      subst hp1
      have hp2 : prs[k]? = some own := hp2
      have hk8 : k < 8 := (List.getElem?_eq_some_iff.mp hp2).1
      obtain ⟨oa, ob, rfl, hoa, hob⟩ := prs_at hp2
      obtain ⟨hk, hhk, hhk2⟩ := hues8_at hk8
      wtm_at "ph"
      refine for_map (xs := [0, 1]) (enc := fun (n : Nat) => PyData.int n) (fun l G q' => q' = some (m + 1) ∧ ∃ (cs : List Row) (a9 a10 a11 a12 a13 a14 a15 a16 a17 : Sl), cs.length = l ∧ (∀ r ∈ cs, RowP r) ∧ G = [.t, .d (.tuple (intD hues8)), .d (.list (prs.map rowT)), .d (.list (intD bs)), .l (tb.map lineD), .d (.bool wd), .d (.int k), .d (rowT [oa, ob]), .l (cs.map rowD), a9, a10, a11, a12, a13, a14, a15, a16, a17, .no]) ⟨rfl, [], _, _, _, _, _, _, _, _, _, rfl, fun c hc => (by cases hc), rfl⟩ ?_ ?_
      · rintro li l G q' hl ⟨rfl, cs, a9, a10, a11, a12, a13, a14, a15, a16, a17, hcl, hcs, rfl⟩
        have hl2 : l < 2 := by
          have hm : ∀ x ∈ ([0, 1] : List Nat), x < 2 := by decide
          exact hm l (List.mem_of_getElem? hl)
        have hli : li < 2 := (List.getElem?_eq_some_iff.mp hl).1
        wtm_at "ph"
        refine for_map (xs := [0, 1]) (enc := fun (n : Nat) => PyData.int n) (fun s G q' => q' = some (m + 1) ∧ ∃ (mps : List (List Nat)) (a11 a12 a13 a14 a15 a16 a17 : Sl), mps.length = s ∧ (∀ r ∈ mps, MapOk 8 r) ∧ G = [.t, .d (.tuple (intD hues8)), .d (.list (prs.map rowT)), .d (.list (intD bs)), .l (tb.map lineD), .d (.bool wd), .d (.int k), .d (rowT [oa, ob]), .l (cs.map rowD), .d (.int l), .l (mps.map rowT), a11, a12, a13, a14, a15, a16, a17, .no]) ⟨rfl, [], _, _, _, _, _, _, _, rfl, fun c hc => (by cases hc), rfl⟩ ?_ ?_
        · rintro si s G q' hs ⟨rfl, mps, a11, a12, a13, a14, a15, a16, a17, hml, hms, rfl⟩
          have hs2 : s < 2 := by
            have hm : ∀ x ∈ ([0, 1] : List Nat), x < 2 := by decide
            exact hm s (List.mem_of_getElem? hs)
          have hsi : si < 2 := (List.getElem?_eq_some_iff.mp hs).1
          wtm_at "ph"
          refine r_ixT (atI_ints hhk) ?_
          refine r_bI (.inl (by decide)) ?_
          wtm_at "ph"
          refine r_bI (.inl (by decide)) ?_
          wtm_at "ph"
          have eat : (4 : Int) * (hk : Int) + 2 * (l : Int) + (s : Int) = ((4 * hk + 2 * l + s : Nat) : Int) := by omega
          rw [eat]
          have hat : 4 * hk + 2 * l + s < 8 := by omega
          generalize 4 * hk + 2 * l + s = at' at hat
          obtain ⟨b1, hb1, hb1l⟩ := hbit at' (by omega)
          obtain ⟨b2, hb2', hb2l⟩ := hbit (8 + at') (by omega)
          obtain ⟨b3, hb3, hb3l⟩ := hbit (16 + at') (by omega)
          refine for_map (fun j G q' => q' = some (m + 1) ∧ ∃ (fs : List Nat) (a14 a15 a16 a17 : Sl), fs.length = j ∧ (∀ x ∈ fs, x < 8) ∧ G = [.t, .d (.tuple (intD hues8)), .d (.list (prs.map rowT)), .d (.list (intD bs)), .l (tb.map lineD), .d (.bool wd), .d (.int k), .d (rowT [oa, ob]), .l (cs.map rowD), .d (.int l), .l (mps.map rowT), .d (.int s), .d (.int at'), .l (intD fs), a14, a15, a16, a17, .no]) ⟨rfl, [], _, _, _, _, rfl, fun c hc => (by cases hc), rfl⟩ ?_ ?_
          · rintro j p2 G q' hj ⟨rfl, fs, a14, a15, a16, a17, hfl, hfs, rfl⟩
            obtain ⟨hj1, hj2⟩ := withIx_get hj
            obtain ⟨jj, its⟩ := p2
            have hj1 : jj = j := hj1
            subst hj1
            have hj2 : prs[jj]? = some its := hj2
            have hj8 : jj < 8 := (List.getElem?_eq_some_iff.mp hj2).1
            obtain ⟨ia, ib, rfl, hia, hib⟩ := prs_at hj2
            obtain ⟨hjv, hhj, hhj2⟩ := hues8_at hj8
            wtm_at "ph"
            refine r_ixRowT (i := 1) rfl ?_
            wtm_at "ph"
            refine r_ixL (atI_ints hb1) ?_
            wtm_at "ph"
            refine r_ixRowT (i := 0) rfl ?_
            wtm_at "ph"
            have e8 : (8 : Int) + (at' : Int) = ((8 + at' : Nat) : Int) := by omega
            have e16 : (16 : Int) + (at' : Int) = ((16 + at' : Nat) : Int) := by omega
            rw [e8]
            refine r_ixL (atI_ints hb2') ?_
            wtm_at "ph"
            refine r_ixRowT (i := 1) rfl ?_
            refine r_bI (.inl ⟨by omega, by omega⟩) ?_
            wtm_at "ph"
            rw [e16]
            refine r_ixL (atI_ints hb3) ?_
            wtm_at "ph"
            refine r_ixRowT (i := 1) rfl ?_
            refine r_bI (.inl ⟨by omega, by omega⟩) ?_
            wtm_at "ph"
            refine r_ixRowT (i := 0) rfl ?_
            wtm_at "ph"
            refine r_bI (.inr ⟨Int.lt_of_lt_of_le (by decide) (b01 _).1, Int.lt_of_le_of_lt (b01 _).2 (by decide)⟩) ?_
            wtm_at "ph"
            refine r_ixT (atI_ints hhj) ?_
            refine r_bI (.inl (by decide)) ?_
            wtm_at "ph"
            refine r_bI (.inl (by decide)) ?_
            wtm_at "ph"
            rw [val8]
            refine ⟨_, _, rfl, rfl, ?_, rfl, fs ++ [?v], .d (.int jj), .d (rowT [ia, ib]), ?hi, ?lo, ?_, ?bd, ?eq⟩
            case eq => rw [intD_snoc]; rfl
            case bd =>
              intro x hx
              rcases List.mem_append.mp hx with hx | hx
              · exact hfs x hx
              · rw [List.mem_singleton.mp hx]
                exact val8_lt hhj2 _ _
            · unfold intD
              rw [List.length_map]
              omega
            · rw [List.length_append, hfl]; rfl
          · rintro G q' ⟨rfl, fs, a14, a15, a16, a17, hfl, hfs, rfl⟩
            wtm_at "ph"
            refine ⟨_, _, rfl, rfl, by rw [List.length_map]; omega, rfl, mps ++ [fs], .d (.int s), .d (.int at'), .no, a14, a15, a16, a17, by rw [List.length_append, hml]; rfl, fun r hr => ?_, by rw [List.map_append]; rfl⟩
            rcases List.mem_append.mp hr with hr | hr
            · exact hms r hr
            · rw [List.mem_singleton.mp hr]
              exact ⟨hfl, hfs⟩
        · rintro G q' ⟨rfl, mps, a11, a12, a13, a14, a15, a16, a17, hml, hms, rfl⟩
          obtain ⟨m0, m1, rfl⟩ : ∃ m0 m1, mps = [m0, m1] := by
            match mps, hml with
            | [m0, m1], _ => exact ⟨m0, m1, rfl⟩
          wtm_at "ph"
          refine r_bI (.inl (by decide)) ?_
          wtm_at "ph"
          have e4 : (4 : Int) * (l : Int) = ((4 * l : Nat) : Int) := by omega
          rw [e4]
          refine r_catT (Nat.le_of_ble_eq_true rfl) ?_
          wtm_at "ph"
          refine ⟨_, _, rfl, rfl, by rw [List.length_map]; omega, rfl, cs ++ [(⟨0, 4 * l, (m0, m1)⟩ : Row)], .d (.int l), .no, a11, a12, a13, a14, a15, a16, a17, by rw [List.length_append, hcl]; rfl, fun r hr => ?_, by rw [List.map_append]; rfl⟩
          rcases List.mem_append.mp hr with hr | hr
          · exact hcs r hr
          · rw [List.mem_singleton.mp hr]
            exact ⟨hms m0 (by simp), hms m1 (by simp)⟩
      · rintro G q' ⟨rfl, cs, a9, a10, a11, a12, a13, a14, a15, a16, a17, hcl, hcs, rfl⟩
        wtm_at "ph"
        refine ⟨_, _, rfl, rfl, by rw [List.length_map]; omega, rfl, tb ++ [cs], .d (.int k), .d (rowT [oa, ob]), .no, a9, a10, a11, a12, a13, a14, a15, a16, a17, by rw [List.length_append, htl]; rfl, fun c hc => ?_, by rw [List.map_append]; rfl⟩
        rcases List.mem_append.mp hc with hc | hc
        · exact htb c hc
        · rw [List.mem_singleton.mp hc]
          exact ⟨hcl, hcs⟩
    · rintro G q' ⟨rfl, tb, a6, a7, a8, a9, a10, a11, a12, a13, a14, a15, a16, a17, htl, htb, rfl⟩
      have htl : tb.length = 8 := htl
      wtm_at "ph"
      refine h ⟨[true], hues8, 0, [tb]⟩ (m + 1) ⟨Nat.le_of_ble_eq_true rfl, Nat.lt_of_lt_of_le (Nat.succ_pos 7) (Nat.le_of_ble_eq_true rfl), Nat.le_of_ble_eq_true rfl, fun t ht => ?_⟩ rfl (Nat.le_of_ble_eq_true rfl)
      rw [List.mem_singleton.mp ht]
      refine ⟨htl, fun c hc => ?_⟩
      obtain ⟨h1, h2⟩ := htb c hc
      refine ⟨by omega, fun r hr => ?_⟩
      obtain ⟨a, b⟩ := h2 r hr
      exact ⟨a.1, b.1, a.2, b.2⟩
end
end Ph

set_option Elab.async false
set_option linter.all false
set_option maxRecDepth 100000
set_option maxHeartbeats 4000000
namespace Ph
open PySem L2
local macro_rules | `(tactic| wtm_at "ph") => `(tactic| (repeat (first | (with_reducible refine r_lc2 ?_) | (with_reducible refine r_gRow ?_) | (with_reducible refine r_lenRow ?_) | (with_reducible refine r_exThing ?_) | (with_reducible refine r_lenThing ?_) | (with_reducible refine r_exZth ?_) | (with_reducible refine r_ixBk3 ?_) | (with_reducible refine r_ixBk1 ?_) | (with_reducible refine r_row0 ?_) | (with_reducible refine r_row2 ?_) | (with_reducible refine r_row3 ?_) | (with_reducible refine r_pl0 ?_) | (with_reducible refine r_pl1 ?_) | (with_reducible refine r_pl2 ?_) | (with_reducible refine r_ce0 ?_) | (with_reducible refine r_ce1 ?_) | (with_reducible refine r_gCell ?_) | (with_reducible refine r_gPlace ?_) | (with_reducible refine r_slRow ?_) | (with_reducible refine r_slInt ?_) | (with_reducible refine r_slInt1 ?_) | (with_reducible refine r_exTab ?_) | (with_reducible refine r_exLine ?_) | (with_reducible refine r_numF ?_) | (with_reducible refine r_numFI ?_) | (with_reducible refine r_numL ?_) | (with_reducible refine r_numLI ?_) | (with_reducible refine r_lenI ?_) | (with_reducible refine r_bEqM ?_) | (with_reducible refine r_seq ?_) | (with_reducible refine r_next ?_) | (with_reducible refine r_asg ?_) | (with_reducible refine r_par ?_) | (with_reducible refine r_ret ?_) | (with_reducible refine r_ifS ?_) | (with_reducible refine r_C ?_) | (with_reducible refine r_fz ?_) | (with_reducible refine r_op ?_) | (with_reducible refine r_test ?_) | (with_reducible refine r_exB ?_) | (with_reducible refine r_and ?_) | (with_reducible refine r_not ?_) | (with_reducible refine r_neg ?_) | (with_reducible refine r_andT ?_) | (with_reducible refine r_orT ?_) | (with_reducible refine r_notT ?_) | (with_reducible refine r_if ?_) | (with_reducible refine r_nil ?_) | (with_reducible refine r_cons ?_) | (with_reducible refine r_dnil ?_) | (with_reducible refine r_dcons ?_) | (with_reducible refine r_tup ?_) | (with_reducible refine r_lst ?_) | (with_reducible refine r_call ?_) | (with_reducible refine r_isi ?_) | (with_reducible refine r_isi2 ?_) | (with_reducible refine r_exD ?_) | (with_reducible refine r_exI ?_) | (with_reducible refine r_tupRg ?_) | (with_reducible refine r_lstRg ?_) | (with_reducible refine r_sl ?_) | (with_reducible refine r_slT ?_) | (with_reducible refine r_slL ?_) | (with_reducible refine r_oNo ?_) | (with_reducible refine r_oI ?_) | (with_reducible refine r_fn ?_) | (with_reducible refine r_gName ?_) | (with_reducible refine r_gNil ?_) | (with_reducible refine r_gCons ?_) | (with_reducible refine r_iL ?_) | (with_reducible refine r_iT ?_) | (with_reducible refine r_iEL ?_) | (with_reducible refine r_iET ?_) | (with_reducible refine r_iLT ?_) | (with_reducible refine r_exLT_l ?_) | (with_reducible refine r_exLT_t ?_) | (with_reducible refine r_exL ?_) | (with_reducible refine r_exT ?_) | (with_reducible refine r_iR ?_) | (with_reducible refine r_iZ ?_) | (with_reducible refine r_exZt ?_) | (with_reducible refine r_exZl ?_) | (with_reducible refine r_idx ?_) | (with_reducible refine r_orL ?_) | (with_reducible refine r_disp ?_) | (with_reducible refine r_get ?_) | (with_reducible refine r_exS ?_) | (with_reducible refine r_exWD ?_) | (with_reducible refine r_back ?_) | (with_reducible refine r_lenSet ?_) | (with_reducible refine r_fnT ?_) | (with_reducible refine r_setO ?_) | (with_reducible refine r_tinSet ?_) | (with_reducible refine r_inD ?_) | (with_reducible refine r_par3 ?_) | (with_reducible refine r_ex3 ?_) | (with_reducible refine r_ex2 ?_) | (with_reducible refine r_yes ?_) | (with_reducible refine r_tt ?_) | (with_reducible refine r_ff ?_) | (with_reducible refine r_lc ?_) | (with_reducible refine r_for ?_) | (with_reducible refine r_int ?_) | (with_reducible refine r_intB ?_) | (with_reducible refine r_abs ?_) | (with_reducible refine r_isNn ?_) | (with_reducible refine r_isNb ?_) | (with_reducible refine r_isNi ?_) | (with_reducible refine r_isNs ?_) | (with_reducible refine r_bEqN ?_) | (with_reducible refine r_ft ?_) | (with_reducible refine r_tf ?_) | (with_reducible refine r_isN ?_) | ((with_reducible apply r_var); exact rfl) | ((with_reducible apply r_varT); exact rfl) | ((with_reducible apply r_varM); exact rfl) | ((with_reducible apply r_varS); exact rfl) | ((with_reducible apply r_lenO); exact rfl) | ((with_reducible apply r_len); exact rfl) | ((with_reducible apply r_tuple); exact rfl) | ((with_reducible apply r_list); exact rfl) | ((with_reducible apply r_ixT); exact rfl) | ((with_reducible apply r_ixL); exact rfl) | ((with_reducible apply r_gTup); exact rfl) | ((with_reducible apply r_fzS); exact rfl) | ((with_reducible apply r_ttE); exact rfl) | ((with_reducible apply r_ffE); exact rfl) | ((with_reducible apply r_ftE); exact rfl) | ((with_reducible apply r_tfE); exact rfl) | ((with_reducible apply r_app); exact ⟨_, rfl⟩) | ((with_reducible apply r_ixO); exact ⟨_, rfl⟩) | ((with_reducible apply r_ext); exact ⟨_, rfl⟩) | (with_reducible refine r_bEqS ?_) | (with_reducible refine r_bEqI ?_) | (with_reducible refine r_bEqT ?_) | (with_reducible refine r_bEqM ?_) | (with_reducible refine r_bEqB ?_) | (with_reducible refine r_bNeI ?_) | (with_reducible refine r_bNeT ?_) | (with_reducible refine r_bNeM ?_) | (with_reducible refine r_bNeB ?_) | ((with_reducible apply r_bI); first | exact trivial | omega | decide) | ((with_reducible apply And.intro); exact Nat.le_of_ble_eq_true rfl) | (dsimp only [frz]))))
section
variable {P : Program} {w : World} {K : PySem.W.Frag} {mg : Str → Option Value} {base : Heap}
/-! ## _law_levels_right -/
def flips : List (List Nat) := prs.map List.reverse
theorem prs_ok : ThOk 8 prs := ⟨rfl, 2, by decide, by decide, by decide⟩
theorem flips_ok : ThOk 8 flips := ⟨rfl, 2, by decide, by decide, by decide⟩
def T_law_levels_right : FT := fun ks q Q => ∃ n : Nat, ks = [.t] ∧ q = some n ∧ n + 10000 < 1099511627776 ∧ ∀ m, Q (.d (.bool true)) (some m)
set_option maxHeartbeats 16000000 in
theorem can_law_levels_right (Bl : Blt mg) (F : Fn K mg "_law_levels_right" s_law_levels_right ["_law_tin"]) (C1 : Can P w K mg base 2 "_law_has_parts" ["_law_book_so", "_law_parts_so"] T_law_has_parts) (C2 : Can P w K mg base 2 "_law_leveled" ["_law_tin"] T_law_leveled)
    (C3 : Can P w K mg base 6 "_law_same" ["_law_got", "_law_due"] (T_law_same 4)) (C4 : Can P w K mg base 9 "is_parts" ["book", "thing"] T_is_parts) : Can P w K mg base 11 "_law_levels_right" ["_law_tin"] T_law_levels_right := by
  refine can_of F sc_law_levels_right (fun ks q Qf h => ?_) (E_law_levels_right Bl 10 C1 (by omega) C2 (by omega) C3 (by omega) C4 (by omega)).2 fun ks q Qf h => ?_
  · obtain ⟨_, rfl, _⟩ := h
    rfl
  · obtain ⟨n, rfl, rfl, hn, h⟩ := h
    unfold E_law_levels_right
    dsimp only
    wtm_at "ph"
    refine ⟨n, rfl, rfl, hn, fun B m W h8 ha => ?_⟩
    have hfit := fit_book W (show B.ans.length ≤ 1000000 by omega)
    have htup := tup_book B
    wtm_at "ph"
    refine lc_map (xs := prs) (enc := rowT) (f := fun r => rowT r.reverse) (by decide) (fun r hr R R' hR => ?_) ?_
    · obtain ⟨i, hi, e⟩ := List.getElem_of_mem hr
      obtain ⟨a, b, rfl, _, _⟩ := prs_at (i := i) (r := r) (by rw [List.getElem?_eq_getElem hi, e])
      wtm_at "ph"
      refine ⟨_, _, rfl, ?_⟩
      exact hR _ rfl
    wtm_at "ph"
    refine ⟨prs.map rowT, .inl ⟨rfl, ?_⟩⟩
    wtm_at "ph"
    have efl : PyData.tuple (prs.map fun r => rowT r.reverse) = thingD flips := by unfold thingD flips; rw [List.map_map]; rfl
    rw [efl]
    let xs : List (PyData × Bool) := [(thingD prs, partsB B prs), (thingD flips, partsB B flips), (.list (prs.map rowT), false), (.tuple (cutD (prs.map rowT) none (some (-1))), false)]
    refine lc_map (xs := xs) (enc := fun p => p.1) (f := fun p => .bool p.2) (Nat.le_of_ble_eq_true rfl) (fun p hp R R' hR => ?_) ?_
    · wtm_at "ph"
      refine ⟨_, _, B, rfl, hfit, htup, W, ?_⟩
      rw [h8]
      simp only [xs, List.mem_cons, List.not_mem_nil, or_false] at hp
      rcases hp with rfl | rfl | rfl | rfl
      · exact .inl ⟨prs, rfl, prs_ok, hR _ rfl⟩
      · exact .inl ⟨flips, rfl, flips_ok, hR _ rfl⟩
      · exact .inr (.inl ⟨_, rfl, hR _ rfl⟩)
      · exact .inr (.inr ⟨_, rfl, by decide, hR _ rfl⟩)
    wtm_at "ph"
    refine ⟨B, prs, rfl, W, by rw [h8]; exact prs_ok, ?_⟩
    wtm_at "ph"
    refine ⟨B, flips, rfl, W, by rw [h8]; exact flips_ok, ?_⟩
    wtm_at "ph"
    exact ⟨.list [.bool (partsB B prs), .bool (partsB B flips), .bool false, .bool false], rfl, rfl, h _⟩
/-! ## _law_by_hand_right -/
def lineB (m : Mp) (n : Nat) : List Row := [⟨0, 0, m⟩, ⟨0, n, m⟩]
def bLeft : Bk := ⟨[true], [0, 0, 1], 0, [[lineB ([1, 0, 2], [0, 1, 2]) 2, lineB ([1, 0, 2], [0, 1, 2]) 2, lineB ([1, 0, 2], [0, 1, 2]) 2]]⟩
def bBoth : Bk := ⟨[true], [0, 0, 1], 0, [[lineB ([1, 0, 2], [1, 0, 2]) 2, lineB ([1, 0, 2], [1, 0, 2]) 2, lineB ([1, 0, 2], [1, 0, 2]) 2]]⟩
def lineD5 : List Row := lineB ([0, 1, 2, 3, 4], [0, 3, 2, 1, 4]) 4
def bLed : Bk := ⟨[true], [0, 0, 0, 0, 1], 0, [[lineD5, lineD5, lineD5, lineD5, lineD5]]⟩
theorem wf_of {B : Bk} (h : (decide (B.hues.length ≤ 8) && decide (0 < B.hues.length) && decide (B.rows.length ≤ 8) && B.rows.all fun t => decide (t.length = B.hues.length) && t.all fun c => decide (c.length ≤ 8) && c.all fun r => decide (r.maps.1.length = B.hues.length) && decide (r.maps.2.length = B.hues.length) && (r.maps.1.all fun x => decide (x < B.hues.length)) && r.maps.2.all fun x => decide (x < B.hues.length)) = true) : Wf B := by
  simp only [Bool.and_eq_true, decide_eq_true_eq, List.all_eq_true] at h
  obtain ⟨⟨⟨a, b⟩, c⟩, d⟩ := h
  refine ⟨a, b, c, fun t ht => ⟨(d t ht).1, fun c hc => ⟨((d t ht).2 c hc).1, fun r hr => ?_⟩⟩⟩
  obtain ⟨⟨⟨e, f⟩, g⟩, i⟩ := ((d t ht).2 c hc).2 r hr
  exact ⟨e, f, g, i⟩
theorem wfLeft : Wf bLeft := wf_of (by decide +kernel)
theorem wfBoth : Wf bBoth := wf_of (by decide +kernel)
theorem wfLed : Wf bLed := wf_of (by decide +kernel)
theorem toldLeft : toldW bLeft = [.all, .flag, .letters, .side] := by decide +kernel
theorem toldBoth : toldW bBoth = [.all, .blind, .flag, .letters, .side] := by decide +kernel
def th1 : List (List Nat) := [[0], [1], [0]]
def th2 : List (List Nat) := [[0], [0], [0]]
def th3 : List (List Nat) := [[0, 0], [1, 0], [0, 1], [1, 1], [0, 0]]
theorem p1 : partsB bLeft th1 = true := by decide +kernel
theorem p2 : partsB bLeft th2 = false := by decide +kernel
theorem p3 : partsB bLed th3 = false := by decide +kernel
def T_law_by_hand_right : FT := fun ks q Q => ks = [] ∧ Q (.d (.bool true)) q
set_option maxHeartbeats 16000000 in
theorem can_law_by_hand_right (Bl : Blt mg) (F : Fn K mg "_law_by_hand_right" s_law_by_hand_right []) (C1 : Can P w K mg base 6 "_law_same" ["_law_got", "_law_due"] (T_law_same 4)) (C2 : Can P w K mg base 9 "is_parts" ["book", "thing"] T_is_parts) (C3 : Can P w K mg base 10 "told_of" ["book"] T_told_of) : Can P w K mg base 11 "_law_by_hand_right" [] T_law_by_hand_right := by
  refine can_of F sc_law_by_hand_right (fun ks q Qf h => ?_) (D_law_by_hand_right Bl 10 C1 (by omega) C2 (by omega) C3 (by omega)).2 fun ks q Qf h => ?_
  · obtain ⟨rfl, _⟩ := h
    rfl
  · obtain ⟨rfl, h⟩ := h
    unfold D_law_by_hand_right
    dsimp only
    wtm_at "ph"
    refine lc_map (xs := [0, 0, 1]) (enc := fun (n : Nat) => PyData.int n) (f := fun _ => lineD (lineB ([1, 0, 2], [0, 1, 2]) 2)) (Nat.le_of_ble_eq_true rfl) (fun hh _ R R' hR => ?_) ?_
    · wtm_at "ph"
      refine lc_map (xs := [0, 1]) (enc := fun (n : Nat) => PyData.int n) (f := fun t => rowD ⟨0, 2 * t, ([1, 0, 2], [0, 1, 2])⟩) (Nat.le_of_ble_eq_true rfl) (fun t _ R2 R2' hR2 => ?_) ?_
      · wtm_at "ph"
        refine r_bI (.inl (by decide)) ?_
        wtm_at "ph"
        exact hR2 _ rfl
      · wtm_at "ph"
        exact hR _ rfl
    wtm_at "ph"
    refine lc_map (xs := [0, 0, 1]) (enc := fun (n : Nat) => PyData.int n) (f := fun _ => lineD (lineB ([1, 0, 2], [1, 0, 2]) 2)) (Nat.le_of_ble_eq_true rfl) (fun hh _ R R' hR => ?_) ?_
    · wtm_at "ph"
      refine lc_map (xs := [0, 1]) (enc := fun (n : Nat) => PyData.int n) (f := fun t => rowD ⟨0, 2 * t, ([1, 0, 2], [1, 0, 2])⟩) (Nat.le_of_ble_eq_true rfl) (fun t _ R2 R2' hR2 => ?_) ?_
      · wtm_at "ph"
        refine r_bI (.inl (by decide)) ?_
        wtm_at "ph"
        exact hR2 _ rfl
      · wtm_at "ph"
        exact hR _ rfl
    wtm_at "ph"
    refine ⟨by decide, by decide, ?_⟩
    refine lc_map (xs := List.range 5) (enc := fun (n : Nat) => PyData.int n) (f := fun _ => lineD lineD5) (Nat.le_of_ble_eq_true rfl) (fun hh _ R R' hR => ?_) ?_
    · wtm_at "ph"
      refine lc_map (xs := [0, 1]) (enc := fun (n : Nat) => PyData.int n) (f := fun t => rowD ⟨0, if t = 0 then 0 else 4, ([0, 1, 2, 3, 4], [0, 3, 2, 1, 4])⟩) (Nat.le_of_ble_eq_true rfl) (fun t ht R2 R2' hR2 => ?_) ?_
      · simp only [List.mem_cons, List.not_mem_nil, or_false] at ht
        rcases ht with rfl | rfl
        · wtm_at "ph"
          exact hR2 _ rfl
        · wtm_at "ph"
          exact hR2 _ rfl
      · wtm_at "ph"
        exact hR _ rfl
    wtm_at "ph"
    refine ⟨bookD bLeft, bLeft, rfl, fit_book wfLeft (Nat.le_of_ble_eq_true rfl), tup_book _, wfLeft, ?_⟩
    rw [toldLeft]
    wtm_at "ph"
    refine ⟨bookD bBoth, bBoth, rfl, fit_book wfBoth (Nat.le_of_ble_eq_true rfl), tup_book _, wfBoth, ?_⟩
    rw [toldBoth]
    wtm_at "ph"
    refine ⟨bookD bLeft, thingD th1, bLeft, rfl, fit_book wfLeft (Nat.le_of_ble_eq_true rfl), tup_book _, wfLeft, .inl ⟨th1, rfl, ⟨rfl, 1, by decide, by decide, by decide⟩, ?_⟩⟩
    dsimp only
    rw [p1]
    wtm_at "ph"
    refine ⟨bookD bLeft, thingD th2, bLeft, rfl, fit_book wfLeft (Nat.le_of_ble_eq_true rfl), tup_book _, wfLeft, .inl ⟨th2, rfl, ⟨rfl, 1, by decide, by decide, by decide⟩, ?_⟩⟩
    dsimp only
    rw [p2]
    wtm_at "ph"
    refine ⟨bookD bLed, thingD th3, bLed, rfl, fit_book wfLed (Nat.le_of_ble_eq_true rfl), tup_book _, wfLed, .inl ⟨th3, rfl, ⟨rfl, 2, by decide, by decide, by decide⟩, ?_⟩⟩
    dsimp only
    rw [p3]
    refine ⟨_, _, rfl, rfl, Nat.le_of_ble_eq_true rfl, ?_⟩
    wtm_at "ph"
    refine ⟨_, rfl, ?_, h⟩
    decide +kernel
/-! ## law -/
def T_law : FT := fun ks q Q => ∃ ns : List Int, ks = [.d (.list (intsZ ns))] ∧ q = none ∧ ns.length ≤ 63 ∧ ∀ q', Q (.d (.bool true)) q'
set_option maxHeartbeats 16000000 in
theorem ok_law (Bl : Blt mg) {f : Addr} {fd : FuncData} (F : Fun K "law" "law" s_law f fd) (C1 : Can P w K mg base 1 "_law_box" ["_law_script", "_law_k"] T_law_box) (C2 : Can P w K mg base 11 "_law_by_hand_right" [] T_law_by_hand_right) (C3 : Can P w K mg base 1 "_law_cells" ["_law_script", "_law_most_so"] T_law_cells)
    (C4 : Can P w K mg base 11 "_law_levels_right" ["_law_tin"] T_law_levels_right) (C5 : Can P w K mg base 11 "_law_right" ["_law_tin"] T_law_right) : FnOk P w K mg base CX0 12 f fd ["_law_script"] (spT P w K T_law) := by
  refine fn_ok F sc_law (fun ks q Qf h => ?_) ((D_law Bl 11 C1 (by omega) C2 (by omega) C3 (by omega) C4 (by omega) C5 (by omega)).2 f) fun ks q Qf h => ?_
  · obtain ⟨_, rfl, _⟩ := h
    rfl
  · obtain ⟨ns, rfl, rfl, hl, h⟩ := h
    unfold D_law
    dsimp only
    wtm_at "ph"
    refine ⟨rfl, ?_⟩
    wtm_at "ph"
    refine ⟨ns, rfl, hl, fun ms hm0 hm2 => ?_⟩
    wtm_at "ph"
    have hml : (intsZ ms).length = ms.length := by unfold intsZ; rw [List.length_map]
    rw [hml]
    refine ⟨by omega, by omega, ?_⟩
    refine lc_map (xs := List.range ms.length) (enc := fun (n : Nat) => PyData.int n) (f := fun _ => .bool true) (by rw [List.length_range]; omega) (fun k hk R R' hR => ?_) ?_
    · have hk := List.mem_range.mp hk
      wtm_at "ph"
      refine ⟨ms, k, rfl, by omega, fun g s hg hs hs2 => ?_⟩
      refine ⟨rfl, g, s, 0, rfl, hg, hs, by omega, by decide, 0, by decide, ?_⟩
      refine ⟨0, rfl, rfl, by decide, fun m => ?_⟩
      wtm_at "ph"
      exact hR _ rfl
    wtm_at "ph"
    refine r_allT ?_
    wtm_at "ph"
    refine ⟨ms, 0, rfl, by decide, fun g s hg hs hs2 => ?_⟩
    wtm_at "ph"
    refine r_ixO (a := 0) ⟨_, rfl⟩ ?_
    wtm_at "ph"
    refine ⟨1, _, _, rfl, rfl, rfl, ?_⟩
    wtm_at "ph"
    refine ⟨⟨_, rfl⟩, ?_⟩
    wtm_at "ph"
    refine ⟨_, 1, 1, _, rfl, rfl, rfl, rfl, ?_⟩
    wtm_at "ph"
    refine ⟨rfl, g, s + 1, 0, rfl, hg, by omega, by omega, by decide, 0, by decide, ?_⟩
    refine ⟨0, rfl, rfl, by decide, fun m => ?_⟩
    wtm_at "ph"
    exact h _
end
end Ph

set_option Elab.async false
set_option linter.all false
set_option maxRecDepth 100000
set_option maxHeartbeats 4000000
namespace Ph
open PySem L2
local macro_rules | `(tactic| wtm_at "ph") => `(tactic| (repeat (first | (with_reducible refine r_lc2 ?_) | (with_reducible refine r_gRow ?_) | (with_reducible refine r_lenRow ?_) | (with_reducible refine r_exThing ?_) | (with_reducible refine r_lenThing ?_) | (with_reducible refine r_exZth ?_) | (with_reducible refine r_ixBk3 ?_) | (with_reducible refine r_ixBk1 ?_) | (with_reducible refine r_row0 ?_) | (with_reducible refine r_row2 ?_) | (with_reducible refine r_row3 ?_) | (with_reducible refine r_pl0 ?_) | (with_reducible refine r_pl1 ?_) | (with_reducible refine r_pl2 ?_) | (with_reducible refine r_ce0 ?_) | (with_reducible refine r_ce1 ?_) | (with_reducible refine r_gCell ?_) | (with_reducible refine r_gPlace ?_) | (with_reducible refine r_slRow ?_) | (with_reducible refine r_slInt ?_) | (with_reducible refine r_slInt1 ?_) | (with_reducible refine r_exTab ?_) | (with_reducible refine r_exLine ?_) | (with_reducible refine r_numF ?_) | (with_reducible refine r_numFI ?_) | (with_reducible refine r_numL ?_) | (with_reducible refine r_numLI ?_) | (with_reducible refine r_lenI ?_) | (with_reducible refine r_bEqM ?_) | (with_reducible refine r_seq ?_) | (with_reducible refine r_next ?_) | (with_reducible refine r_asg ?_) | (with_reducible refine r_par ?_) | (with_reducible refine r_ret ?_) | (with_reducible refine r_ifS ?_) | (with_reducible refine r_C ?_) | (with_reducible refine r_fz ?_) | (with_reducible refine r_op ?_) | (with_reducible refine r_test ?_) | (with_reducible refine r_exB ?_) | (with_reducible refine r_and ?_) | (with_reducible refine r_not ?_) | (with_reducible refine r_neg ?_) | (with_reducible refine r_andT ?_) | (with_reducible refine r_orT ?_) | (with_reducible refine r_notT ?_) | (with_reducible refine r_if ?_) | (with_reducible refine r_nil ?_) | (with_reducible refine r_cons ?_) | (with_reducible refine r_dnil ?_) | (with_reducible refine r_dcons ?_) | (with_reducible refine r_tup ?_) | (with_reducible refine r_lst ?_) | (with_reducible refine r_call ?_) | (with_reducible refine r_isi ?_) | (with_reducible refine r_isi2 ?_) | (with_reducible refine r_exD ?_) | (with_reducible refine r_exI ?_) | (with_reducible refine r_tupRg ?_) | (with_reducible refine r_lstRg ?_) | (with_reducible refine r_sl ?_) | (with_reducible refine r_slT ?_) | (with_reducible refine r_slL ?_) | (with_reducible refine r_oNo ?_) | (with_reducible refine r_oI ?_) | (with_reducible refine r_fn ?_) | (with_reducible refine r_gName ?_) | (with_reducible refine r_gNil ?_) | (with_reducible refine r_gCons ?_) | (with_reducible refine r_iL ?_) | (with_reducible refine r_iT ?_) | (with_reducible refine r_iEL ?_) | (with_reducible refine r_iET ?_) | (with_reducible refine r_iLT ?_) | (with_reducible refine r_exLT_l ?_) | (with_reducible refine r_exLT_t ?_) | (with_reducible refine r_exL ?_) | (with_reducible refine r_exT ?_) | (with_reducible refine r_iR ?_) | (with_reducible refine r_iZ ?_) | (with_reducible refine r_exZt ?_) | (with_reducible refine r_exZl ?_) | (with_reducible refine r_idx ?_) | (with_reducible refine r_orL ?_) | (with_reducible refine r_disp ?_) | (with_reducible refine r_get ?_) | (with_reducible refine r_exS ?_) | (with_reducible refine r_exWD ?_) | (with_reducible refine r_back ?_) | (with_reducible refine r_lenSet ?_) | (with_reducible refine r_fnT ?_) | (with_reducible refine r_setO ?_) | (with_reducible refine r_tinSet ?_) | (with_reducible refine r_inD ?_) | (with_reducible refine r_par3 ?_) | (with_reducible refine r_ex3 ?_) | (with_reducible refine r_ex2 ?_) | (with_reducible refine r_yes ?_) | (with_reducible refine r_tt ?_) | (with_reducible refine r_ff ?_) | (with_reducible refine r_lc ?_) | (with_reducible refine r_for ?_) | (with_reducible refine r_int ?_) | (with_reducible refine r_intB ?_) | (with_reducible refine r_abs ?_) | (with_reducible refine r_isNn ?_) | (with_reducible refine r_isNb ?_) | (with_reducible refine r_isNi ?_) | (with_reducible refine r_isNs ?_) | (with_reducible refine r_bEqN ?_) | (with_reducible refine r_ft ?_) | (with_reducible refine r_tf ?_) | (with_reducible refine r_isN ?_) | ((with_reducible apply r_var); exact rfl) | ((with_reducible apply r_varT); exact rfl) | ((with_reducible apply r_varM); exact rfl) | ((with_reducible apply r_varS); exact rfl) | ((with_reducible apply r_lenO); exact rfl) | ((with_reducible apply r_len); exact rfl) | ((with_reducible apply r_tuple); exact rfl) | ((with_reducible apply r_list); exact rfl) | ((with_reducible apply r_ixT); exact rfl) | ((with_reducible apply r_ixL); exact rfl) | ((with_reducible apply r_gTup); exact rfl) | ((with_reducible apply r_fzS); exact rfl) | ((with_reducible apply r_ttE); exact rfl) | ((with_reducible apply r_ffE); exact rfl) | ((with_reducible apply r_ftE); exact rfl) | ((with_reducible apply r_tfE); exact rfl) | ((with_reducible apply r_app); exact ⟨_, rfl⟩) | ((with_reducible apply r_ixO); exact ⟨_, rfl⟩) | ((with_reducible apply r_ext); exact ⟨_, rfl⟩) | (with_reducible refine r_bEqS ?_) | (with_reducible refine r_bEqI ?_) | (with_reducible refine r_bEqT ?_) | (with_reducible refine r_bEqM ?_) | (with_reducible refine r_bEqB ?_) | (with_reducible refine r_bNeI ?_) | (with_reducible refine r_bNeT ?_) | (with_reducible refine r_bNeM ?_) | (with_reducible refine r_bNeB ?_) | ((with_reducible apply r_bI); first | exact trivial | omega | decide) | ((with_reducible apply And.intro); exact Nat.le_of_ble_eq_true rfl) | (dsimp only [frz]))))
section
variable {P : Program} {w : World} {K : PySem.W.Frag} {mg : Str → Option Value} {base : Heap}
/-! ## from what the top leaves to the law -/
theorem dps_intsZ {S : Hp} : ∀ ns : List Int, DpAll K S (ns.map V.int) (intsZ ns)
  | [] => .nil
  | n :: ns => .cons (.int n) (dps_intsZ ns)
def spLaw (K : PySem.W.Frag) : Sp := fun vs H Q _ => ∃ (a : Addr) (ns : List Int), vs = [V.ref a] ∧ SqL K H a (ns.map V.int) ∧ ns.length ≤ 63 ∧ ∀ H', Q (.bl true) H'
theorem sp_law {vs : List V} {H : Hp} {Q : VK} {E : XK} (h : spLaw K vs H Q E) : spT P w K T_law vs H Q E := by
  obtain ⟨a, ns, rfl, hs, hl, hq⟩ := h
  have hd : Dp K H (.ref a) (.list (intsZ ns)) := .lst hs (dps_intsZ ns)
  refine ⟨0, none, H, [.d (.list (intsZ ns))], [], fun r _ => r = .d (.bool true), rfl, ⟨Same.refl H, fun p hp => ?_, List.nodup_nil, fun n e => (nomatch e)⟩, ⟨ns, rfl, rfl, hl, fun _ => rfl⟩, fun r q' v H' S' hr hS => ?_⟩
  · have hp : p = (Sl.d (.list (intsZ ns)), V.ref a) := by simpa using hp
    subst hp
    exact hd
  · subst hr
    rw [dp_bl (sat_top hS)]
    exact hq H'
theorem fn_of1 {x : Str} {st : Stmt} {ps : List Str} {h : Heap} {f : Addr} {od an : Option Addr} {sl : Array (Option Value)} {oc kV dc pm cd ct : Value} (X : K.In h) (G : h.Ns mainGlobals mg)
    (a : PySem.W.nsIn K mainGlobals x = some (some (.ref f))) (l : K.lookup f = some ⟨oc, od, .func (PySem.W.fnOf x x (defArgs st) (defBody st) (defScope st) .none kV dc pm an cd ct), sl⟩) (c : PySem.W.codeIn K cd x = true) (k : PySem.W.keepIn K (.ref f) = true)
    (hb : Binds K (PySem.W.fnOf x x (defArgs st) (defBody st) (defScope st) .none kV dc pm an cd ct) ps []) : Fn K mg x st ps := ⟨_, _, PySem.W.mg_of X G a, fun_mk l c k, hb⟩
theorem all_mk {h : Heap} {fa : Addr} (X : K.In h) (G : h.Ns mainGlobals mg) (hfa : mg "law" = some (.ref fa))
    {f0 : Addr} {od0 an0 : Option Addr} {sl0 : Array (Option Value)} {oc0 kV0 dc0 pm0 cd0 ct0 : Value} (a0 : PySem.W.nsIn K mainGlobals "is_number" = some (some (.ref f0))) (l0 : K.lookup f0 = some ⟨oc0, od0, .func (PySem.W.fnOf "is_number" "is_number" (defArgs s_is_number) (defBody s_is_number) (defScope s_is_number) .none kV0 dc0 pm0 an0 cd0 ct0), sl0⟩) (c0 : PySem.W.codeIn K cd0 "is_number" = true) (k0 : PySem.W.keepIn K (.ref f0) = true)
    {f1 : Addr} {od1 an1 : Option Addr} {sl1 : Array (Option Value)} {oc1 kV1 dc1 pm1 cd1 ct1 : Value} (a1 : PySem.W.nsIn K mainGlobals "tuple_of" = some (some (.ref f1))) (l1 : K.lookup f1 = some ⟨oc1, od1, .func (PySem.W.fnOf "tuple_of" "tuple_of" (defArgs s_tuple_of) (defBody s_tuple_of) (defScope s_tuple_of) .none kV1 dc1 pm1 an1 cd1 ct1), sl1⟩) (c1 : PySem.W.codeIn K cd1 "tuple_of" = true) (k1 : PySem.W.keepIn K (.ref f1) = true)
    {f2 : Addr} {od2 an2 : Option Addr} {sl2 : Array (Option Value)} {oc2 kV2 dc2 pm2 cd2 ct2 : Value} (a2 : PySem.W.nsIn K mainGlobals "is_tuple_of" = some (some (.ref f2))) (l2 : K.lookup f2 = some ⟨oc2, od2, .func (PySem.W.fnOf "is_tuple_of" "is_tuple_of" (defArgs s_is_tuple_of) (defBody s_is_tuple_of) (defScope s_is_tuple_of) .none kV2 dc2 pm2 an2 cd2 ct2), sl2⟩) (c2 : PySem.W.codeIn K cd2 "is_tuple_of" = true) (k2 : PySem.W.keepIn K (.ref f2) = true)
    {f3 : Addr} {od3 an3 : Option Addr} {sl3 : Array (Option Value)} {oc3 kV3 dc3 pm3 cd3 ct3 : Value} (a3 : PySem.W.nsIn K mainGlobals "rows_of" = some (some (.ref f3))) (l3 : K.lookup f3 = some ⟨oc3, od3, .func (PySem.W.fnOf "rows_of" "rows_of" (defArgs s_rows_of) (defBody s_rows_of) (defScope s_rows_of) .none kV3 dc3 pm3 an3 cd3 ct3), sl3⟩) (c3 : PySem.W.codeIn K cd3 "rows_of" = true) (k3 : PySem.W.keepIn K (.ref f3) = true)
    {f4 : Addr} {od4 an4 : Option Addr} {sl4 : Array (Option Value)} {oc4 kV4 dc4 pm4 cd4 ct4 : Value} (a4 : PySem.W.nsIn K mainGlobals "key_by" = some (some (.ref f4))) (l4 : K.lookup f4 = some ⟨oc4, od4, .func (PySem.W.fnOf "key_by" "key_by" (defArgs s_key_by) (defBody s_key_by) (defScope s_key_by) .none kV4 dc4 pm4 an4 cd4 ct4), sl4⟩) (c4 : PySem.W.codeIn K cd4 "key_by" = true) (k4 : PySem.W.keepIn K (.ref f4) = true)
    {f5 : Addr} {od5 an5 : Option Addr} {sl5 : Array (Option Value)} {oc5 kV5 dc5 pm5 cd5 ct5 : Value} (a5 : PySem.W.nsIn K mainGlobals "goes_by" = some (some (.ref f5))) (l5 : K.lookup f5 = some ⟨oc5, od5, .func (PySem.W.fnOf "goes_by" "goes_by" (defArgs s_goes_by) (defBody s_goes_by) (defScope s_goes_by) .none kV5 dc5 pm5 an5 cd5 ct5), sl5⟩) (c5 : PySem.W.codeIn K cd5 "goes_by" = true) (k5 : PySem.W.keepIn K (.ref f5) = true)
    {f6 : Addr} {od6 an6 : Option Addr} {sl6 : Array (Option Value)} {oc6 kV6 dc6 pm6 cd6 ct6 : Value} (a6 : PySem.W.nsIn K mainGlobals "told_of" = some (some (.ref f6))) (l6 : K.lookup f6 = some ⟨oc6, od6, .func (PySem.W.fnOf "told_of" "told_of" (defArgs s_told_of) (defBody s_told_of) (defScope s_told_of) .none kV6 dc6 pm6 an6 cd6 ct6), sl6⟩) (c6 : PySem.W.codeIn K cd6 "told_of" = true) (k6 : PySem.W.keepIn K (.ref f6) = true)
    {f7 : Addr} {od7 an7 : Option Addr} {sl7 : Array (Option Value)} {oc7 kV7 dc7 pm7 cd7 ct7 : Value} (a7 : PySem.W.nsIn K mainGlobals "are_numbers" = some (some (.ref f7))) (l7 : K.lookup f7 = some ⟨oc7, od7, .func (PySem.W.fnOf "are_numbers" "are_numbers" (defArgs s_are_numbers) (defBody s_are_numbers) (defScope s_are_numbers) .none kV7 dc7 pm7 an7 cd7 ct7), sl7⟩) (c7 : PySem.W.codeIn K cd7 "are_numbers" = true) (k7 : PySem.W.keepIn K (.ref f7) = true)
    {f8 : Addr} {od8 an8 : Option Addr} {sl8 : Array (Option Value)} {oc8 kV8 dc8 pm8 cd8 ct8 : Value} (a8 : PySem.W.nsIn K mainGlobals "is_parts" = some (some (.ref f8))) (l8 : K.lookup f8 = some ⟨oc8, od8, .func (PySem.W.fnOf "is_parts" "is_parts" (defArgs s_is_parts) (defBody s_is_parts) (defScope s_is_parts) .none kV8 dc8 pm8 an8 cd8 ct8), sl8⟩) (c8 : PySem.W.codeIn K cd8 "is_parts" = true) (k8 : PySem.W.keepIn K (.ref f8) = true)
    {f9 : Addr} {od9 an9 : Option Addr} {sl9 : Array (Option Value)} {oc9 kV9 dc9 pm9 cd9 ct9 : Value} (a9 : PySem.W.nsIn K mainGlobals "_law_box" = some (some (.ref f9))) (l9 : K.lookup f9 = some ⟨oc9, od9, .func (PySem.W.fnOf "_law_box" "_law_box" (defArgs s_law_box) (defBody s_law_box) (defScope s_law_box) .none kV9 dc9 pm9 an9 cd9 ct9), sl9⟩) (c9 : PySem.W.codeIn K cd9 "_law_box" = true) (k9 : PySem.W.keepIn K (.ref f9) = true)
    {f10 : Addr} {od10 an10 : Option Addr} {sl10 : Array (Option Value)} {oc10 kV10 dc10 pm10 cd10 ct10 : Value} (a10 : PySem.W.nsIn K mainGlobals "_law_take" = some (some (.ref f10))) (l10 : K.lookup f10 = some ⟨oc10, od10, .func (PySem.W.fnOf "_law_take" "_law_take" (defArgs s_law_take) (defBody s_law_take) (defScope s_law_take) .none kV10 dc10 pm10 an10 cd10 ct10), sl10⟩) (c10 : PySem.W.codeIn K cd10 "_law_take" = true) (k10 : PySem.W.keepIn K (.ref f10) = true)
    {f11 : Addr} {od11 an11 : Option Addr} {sl11 : Array (Option Value)} {oc11 kV11 dc11 pm11 cd11 ct11 : Value} (a11 : PySem.W.nsIn K mainGlobals "_law_cells" = some (some (.ref f11))) (l11 : K.lookup f11 = some ⟨oc11, od11, .func (PySem.W.fnOf "_law_cells" "_law_cells" (defArgs s_law_cells) (defBody s_law_cells) (defScope s_law_cells) .none kV11 dc11 pm11 an11 cd11 ct11), sl11⟩) (c11 : PySem.W.codeIn K cd11 "_law_cells" = true) (k11 : PySem.W.keepIn K (.ref f11) = true)
    {f12 : Addr} {od12 an12 : Option Addr} {sl12 : Array (Option Value)} {oc12 kV12 dc12 pm12 cd12 ct12 : Value} (a12 : PySem.W.nsIn K mainGlobals "_law_of" = some (some (.ref f12))) (l12 : K.lookup f12 = some ⟨oc12, od12, .func (PySem.W.fnOf "_law_of" "_law_of" (defArgs s_law_of) (defBody s_law_of) (defScope s_law_of) .none kV12 dc12 pm12 an12 cd12 ct12), sl12⟩) (c12 : PySem.W.codeIn K cd12 "_law_of" = true) (k12 : PySem.W.keepIn K (.ref f12) = true)
    {f13 : Addr} {od13 an13 : Option Addr} {sl13 : Array (Option Value)} {oc13 kV13 dc13 pm13 cd13 ct13 : Value} (a13 : PySem.W.nsIn K mainGlobals "_law_lists" = some (some (.ref f13))) (l13 : K.lookup f13 = some ⟨oc13, od13, .func (PySem.W.fnOf "_law_lists" "_law_lists" (defArgs s_law_lists) (defBody s_law_lists) (defScope s_law_lists) .none kV13 dc13 pm13 an13 cd13 ct13), sl13⟩) (c13 : PySem.W.codeIn K cd13 "_law_lists" = true) (k13 : PySem.W.keepIn K (.ref f13) = true)
    {f14 : Addr} {od14 an14 : Option Addr} {sl14 : Array (Option Value)} {oc14 kV14 dc14 pm14 cd14 ct14 : Value} (a14 : PySem.W.nsIn K mainGlobals "_law_same" = some (some (.ref f14))) (l14 : K.lookup f14 = some ⟨oc14, od14, .func (PySem.W.fnOf "_law_same" "_law_same" (defArgs s_law_same) (defBody s_law_same) (defScope s_law_same) .none kV14 dc14 pm14 an14 cd14 ct14), sl14⟩) (c14 : PySem.W.codeIn K cd14 "_law_same" = true) (k14 : PySem.W.keepIn K (.ref f14) = true)
    {f15 : Addr} {od15 an15 : Option Addr} {sl15 : Array (Option Value)} {oc15 kV15 dc15 pm15 cd15 ct15 : Value} (a15 : PySem.W.nsIn K mainGlobals "_law_lines" = some (some (.ref f15))) (l15 : K.lookup f15 = some ⟨oc15, od15, .func (PySem.W.fnOf "_law_lines" "_law_lines" (defArgs s_law_lines) (defBody s_law_lines) (defScope s_law_lines) .none kV15 dc15 pm15 an15 cd15 ct15), sl15⟩) (c15 : PySem.W.codeIn K cd15 "_law_lines" = true) (k15 : PySem.W.keepIn K (.ref f15) = true)
    {f16 : Addr} {od16 an16 : Option Addr} {sl16 : Array (Option Value)} {oc16 kV16 dc16 pm16 cd16 ct16 : Value} (a16 : PySem.W.nsIn K mainGlobals "_law_alike" = some (some (.ref f16))) (l16 : K.lookup f16 = some ⟨oc16, od16, .func (PySem.W.fnOf "_law_alike" "_law_alike" (defArgs s_law_alike) (defBody s_law_alike) (defScope s_law_alike) .none kV16 dc16 pm16 an16 cd16 ct16), sl16⟩) (c16 : PySem.W.codeIn K cd16 "_law_alike" = true) (k16 : PySem.W.keepIn K (.ref f16) = true)
    {f17 : Addr} {od17 an17 : Option Addr} {sl17 : Array (Option Value)} {oc17 kV17 dc17 pm17 cd17 ct17 : Value} (a17 : PySem.W.nsIn K mainGlobals "_law_told" = some (some (.ref f17))) (l17 : K.lookup f17 = some ⟨oc17, od17, .func (PySem.W.fnOf "_law_told" "_law_told" (defArgs s_law_told) (defBody s_law_told) (defScope s_law_told) .none kV17 dc17 pm17 an17 cd17 ct17), sl17⟩) (c17 : PySem.W.codeIn K cd17 "_law_told" = true) (k17 : PySem.W.keepIn K (.ref f17) = true)
    {f18 : Addr} {od18 an18 : Option Addr} {sl18 : Array (Option Value)} {oc18 kV18 dc18 pm18 cd18 ct18 : Value} (a18 : PySem.W.nsIn K mainGlobals "_law_map" = some (some (.ref f18))) (l18 : K.lookup f18 = some ⟨oc18, od18, .func (PySem.W.fnOf "_law_map" "_law_map" (defArgs s_law_map) (defBody s_law_map) (defScope s_law_map) .none kV18 dc18 pm18 an18 cd18 ct18), sl18⟩) (c18 : PySem.W.codeIn K cd18 "_law_map" = true) (k18 : PySem.W.keepIn K (.ref f18) = true)
    {f19 : Addr} {od19 an19 : Option Addr} {sl19 : Array (Option Value)} {oc19 kV19 dc19 pm19 cd19 ct19 : Value} (a19 : PySem.W.nsIn K mainGlobals "_law_book" = some (some (.ref f19))) (l19 : K.lookup f19 = some ⟨oc19, od19, .func (PySem.W.fnOf "_law_book" "_law_book" (defArgs s_law_book) (defBody s_law_book) (defScope s_law_book) .none kV19 dc19 pm19 an19 cd19 ct19), sl19⟩) (c19 : PySem.W.codeIn K cd19 "_law_book" = true) (k19 : PySem.W.keepIn K (.ref f19) = true)
    {f20 : Addr} {od20 an20 : Option Addr} {sl20 : Array (Option Value)} {oc20 kV20 dc20 pm20 cd20 ct20 : Value} (a20 : PySem.W.nsIn K mainGlobals "_law_has_parts" = some (some (.ref f20))) (l20 : K.lookup f20 = some ⟨oc20, od20, .func (PySem.W.fnOf "_law_has_parts" "_law_has_parts" (defArgs s_law_has_parts) (defBody s_law_has_parts) (defScope s_law_has_parts) .none kV20 dc20 pm20 an20 cd20 ct20), sl20⟩) (c20 : PySem.W.codeIn K cd20 "_law_has_parts" = true) (k20 : PySem.W.keepIn K (.ref f20) = true)
    {f21 : Addr} {od21 an21 : Option Addr} {sl21 : Array (Option Value)} {oc21 kV21 dc21 pm21 cd21 ct21 : Value} (a21 : PySem.W.nsIn K mainGlobals "_law_leveled" = some (some (.ref f21))) (l21 : K.lookup f21 = some ⟨oc21, od21, .func (PySem.W.fnOf "_law_leveled" "_law_leveled" (defArgs s_law_leveled) (defBody s_law_leveled) (defScope s_law_leveled) .none kV21 dc21 pm21 an21 cd21 ct21), sl21⟩) (c21 : PySem.W.codeIn K cd21 "_law_leveled" = true) (k21 : PySem.W.keepIn K (.ref f21) = true)
    {f22 : Addr} {od22 an22 : Option Addr} {sl22 : Array (Option Value)} {oc22 kV22 dc22 pm22 cd22 ct22 : Value} (a22 : PySem.W.nsIn K mainGlobals "_law_by_hand_right" = some (some (.ref f22))) (l22 : K.lookup f22 = some ⟨oc22, od22, .func (PySem.W.fnOf "_law_by_hand_right" "_law_by_hand_right" (defArgs s_law_by_hand_right) (defBody s_law_by_hand_right) (defScope s_law_by_hand_right) .none kV22 dc22 pm22 an22 cd22 ct22), sl22⟩) (c22 : PySem.W.codeIn K cd22 "_law_by_hand_right" = true) (k22 : PySem.W.keepIn K (.ref f22) = true)
    {f23 : Addr} {od23 an23 : Option Addr} {sl23 : Array (Option Value)} {oc23 kV23 dc23 pm23 cd23 ct23 : Value} (a23 : PySem.W.nsIn K mainGlobals "_law_right" = some (some (.ref f23))) (l23 : K.lookup f23 = some ⟨oc23, od23, .func (PySem.W.fnOf "_law_right" "_law_right" (defArgs s_law_right) (defBody s_law_right) (defScope s_law_right) .none kV23 dc23 pm23 an23 cd23 ct23), sl23⟩) (c23 : PySem.W.codeIn K cd23 "_law_right" = true) (k23 : PySem.W.keepIn K (.ref f23) = true)
    {f24 : Addr} {od24 an24 : Option Addr} {sl24 : Array (Option Value)} {oc24 kV24 dc24 pm24 cd24 ct24 : Value} (a24 : PySem.W.nsIn K mainGlobals "_law_levels_right" = some (some (.ref f24))) (l24 : K.lookup f24 = some ⟨oc24, od24, .func (PySem.W.fnOf "_law_levels_right" "_law_levels_right" (defArgs s_law_levels_right) (defBody s_law_levels_right) (defScope s_law_levels_right) .none kV24 dc24 pm24 an24 cd24 ct24), sl24⟩) (c24 : PySem.W.codeIn K cd24 "_law_levels_right" = true) (k24 : PySem.W.keepIn K (.ref f24) = true)
    {f25 : Addr} {od25 an25 : Option Addr} {sl25 : Array (Option Value)} {oc25 kV25 dc25 pm25 cd25 ct25 : Value} (a25 : PySem.W.nsIn K mainGlobals "law" = some (some (.ref f25))) (l25 : K.lookup f25 = some ⟨oc25, od25, .func (PySem.W.fnOf "law" "law" (defArgs s_law) (defBody s_law) (defScope s_law) .none kV25 dc25 pm25 an25 cd25 ct25), sl25⟩) (c25 : PySem.W.codeIn K cd25 "law" = true) (k25 : PySem.W.keepIn K (.ref f25) = true)
    (z_len : PySem.W.nsIn K mainGlobals "len" = some none)
    (z_range : PySem.W.nsIn K mainGlobals "range" = some none)
    (z_tuple : PySem.W.nsIn K mainGlobals "tuple" = some none)
    (z_list : PySem.W.nsIn K mainGlobals "list" = some none)
    (z_isinstance : PySem.W.nsIn K mainGlobals "isinstance" = some none)
    (z_enumerate : PySem.W.nsIn K mainGlobals "enumerate" = some none)
    (z_zip : PySem.W.nsIn K mainGlobals "zip" = some none)
    (z_all : PySem.W.nsIn K mainGlobals "all" = some none)
    (z_int : PySem.W.nsIn K mainGlobals "int" = some none)
    (z_abs : PySem.W.nsIn K mainGlobals "abs" = some none)
    (z_set : PySem.W.nsIn K mainGlobals "set" = some none)
    (z_bool : PySem.W.nsIn K mainGlobals "bool" = some none)
    (z_str : PySem.W.nsIn K mainGlobals "str" = some none)
    {wA : Addr} {wo : Obj} {wits : Array Value} {wn : Nat} (aw : PySem.W.nsIn K mainGlobals "WORDS" = some (some (.ref wA))) (lw : K.lookup wA = some wo) (lc : wo.cls = .type "tuple") (ld : wo.data = .seq wits wn) (lv : Vals (words.map fun v => V.str v.str) wits.toList) :
    ∃ fd : FuncData, (∀ (s : Shared) (v : Value), BindsTo s fd ⟨[v], []⟩ [("_law_script", v)]) ∧ ∀ base : Heap, K.In base → base.Ns mainGlobals mg → FnOk PySem.Challenge.rw_placehues_k15_whole_books_that_go_by_wor.prog w K mg base CX0 20 fa fd ["_law_script"] (spLaw K) := by
  have e := hfa.symm.trans (PySem.W.mg_of X G a25)
  cases e
  have Bl : Blt mg := ⟨PySem.W.mg_none_of X G z_len, PySem.W.mg_none_of X G z_range, PySem.W.mg_none_of X G z_tuple, PySem.W.mg_none_of X G z_list, PySem.W.mg_none_of X G z_isinstance, PySem.W.mg_none_of X G z_enumerate, PySem.W.mg_none_of X G z_zip, PySem.W.mg_none_of X G z_all, PySem.W.mg_none_of X G z_int, PySem.W.mg_none_of X G z_abs, PySem.W.mg_none_of X G z_set, PySem.W.mg_none_of X G z_bool, PySem.W.mg_none_of X G z_str⟩
  have F0 : Fn K mg "is_number" s_is_number ["thing"] := fn_of1 X G a0 l0 c0 k0 ((fun_mk l0 c0 k0).binds (ps := ["thing"]) fun _ _ _ _ _ _ us hl => match us, hl with | [_], _ => rfl)
  have F1 : Fn K mg "tuple_of" s_tuple_of ["thing"] := fn_of1 X G a1 l1 c1 k1 ((fun_mk l1 c1 k1).binds (ps := ["thing"]) fun _ _ _ _ _ _ us hl => match us, hl with | [_], _ => rfl)
  have F2 : Fn K mg "is_tuple_of" s_is_tuple_of ["thing", "many"] := fn_of1 X G a2 l2 c2 k2 ((fun_mk l2 c2 k2).binds (ps := ["thing", "many"]) fun _ _ _ _ _ _ us hl => match us, hl with | [_, _], _ => rfl)
  have F3 : Fn K mg "rows_of" s_rows_of ["book"] := fn_of1 X G a3 l3 c3 k3 ((fun_mk l3 c3 k3).binds (ps := ["book"]) fun _ _ _ _ _ _ us hl => match us, hl with | [_], _ => rfl)
  have F4 : Fn K mg "key_by" s_key_by ["book", "word", "place", "row"] := fn_of1 X G a4 l4 c4 k4 ((fun_mk l4 c4 k4).binds (ps := ["book", "word", "place", "row"]) fun _ _ _ _ _ _ us hl => match us, hl with | [_, _, _, _], _ => rfl)
  have F5 : Fn K mg "goes_by" s_goes_by ["book", "word"] := fn_of1 X G a5 l5 c5 k5 ((fun_mk l5 c5 k5).binds (ps := ["book", "word"]) fun _ _ _ _ _ _ us hl => match us, hl with | [_, _], _ => rfl)
  have F6 : Fn K mg "told_of" s_told_of ["book"] := fn_of1 X G a6 l6 c6 k6 ((fun_mk l6 c6 k6).binds (ps := ["book"]) fun _ _ _ _ _ _ us hl => match us, hl with | [_], _ => rfl)
  have F7 : Fn K mg "are_numbers" s_are_numbers ["hues", "thing"] := fn_of1 X G a7 l7 c7 k7 ((fun_mk l7 c7 k7).binds (ps := ["hues", "thing"]) fun _ _ _ _ _ _ us hl => match us, hl with | [_, _], _ => rfl)
  have F8 : Fn K mg "is_parts" s_is_parts ["book", "thing"] := fn_of1 X G a8 l8 c8 k8 ((fun_mk l8 c8 k8).binds (ps := ["book", "thing"]) fun _ _ _ _ _ _ us hl => match us, hl with | [_, _], _ => rfl)
  have F9 : Fn K mg "_law_box" s_law_box ["_law_script", "_law_k"] := fn_of1 X G a9 l9 c9 k9 ((fun_mk l9 c9 k9).binds (ps := ["_law_script", "_law_k"]) fun _ _ _ _ _ _ us hl => match us, hl with | [_, _], _ => rfl)
  have F10 : Fn K mg "_law_take" s_law_take ["_law_tin", "_law_below_so"] := fn_of1 X G a10 l10 c10 k10 ((fun_mk l10 c10 k10).binds (ps := ["_law_tin", "_law_below_so"]) fun _ _ _ _ _ _ us hl => match us, hl with | [_, _], _ => rfl)
  have F11 : Fn K mg "_law_cells" s_law_cells ["_law_script", "_law_most_so"] := fn_of1 X G a11 l11 c11 k11 ((fun_mk l11 c11 k11).binds (ps := ["_law_script", "_law_most_so"]) fun _ _ _ _ _ _ us hl => match us, hl with | [_, _], _ => rfl)
  have F12 : Fn K mg "_law_of" s_law_of ["_law_tin", "_law_goods_so"] := fn_of1 X G a12 l12 c12 k12 ((fun_mk l12 c12 k12).binds (ps := ["_law_tin", "_law_goods_so"]) fun _ _ _ _ _ _ us hl => match us, hl with | [_, _], _ => rfl)
  have F13 : Fn K mg "_law_lists" s_law_lists ["_law_matter"] := fn_of1 X G a13 l13 c13 k13 ((fun_mk l13 c13 k13).binds (ps := ["_law_matter"]) fun _ _ _ _ _ _ us hl => match us, hl with | [_], _ => rfl)
  have F14 : Fn K mg "_law_same" s_law_same ["_law_got", "_law_due"] := fn_of1 X G a14 l14 c14 k14 ((fun_mk l14 c14 k14).binds (ps := ["_law_got", "_law_due"]) fun _ _ _ _ _ _ us hl => match us, hl with | [_, _], _ => rfl)
  have F15 : Fn K mg "_law_lines" s_law_lines ["_law_book_so"] := fn_of1 X G a15 l15 c15 k15 ((fun_mk l15 c15 k15).binds (ps := ["_law_book_so"]) fun _ _ _ _ _ _ us hl => match us, hl with | [_], _ => rfl)
  have F16 : Fn K mg "_law_alike" s_law_alike ["_law_lines_so", "_law_keys_so"] := fn_of1 X G a16 l16 c16 k16 ((fun_mk l16 c16 k16).binds (ps := ["_law_lines_so", "_law_keys_so"]) fun _ _ _ _ _ _ us hl => match us, hl with | [_, _], _ => rfl)
  have F17 : Fn K mg "_law_told" s_law_told ["_law_book_so"] := fn_of1 X G a17 l17 c17 k17 ((fun_mk l17 c17 k17).binds (ps := ["_law_book_so"]) fun _ _ _ _ _ _ us hl => match us, hl with | [_], _ => rfl)
  have F18 : Fn K mg "_law_map" s_law_map ["_law_tin", "_law_hues_so"] := fn_of1 X G a18 l18 c18 k18 ((fun_mk l18 c18 k18).binds (ps := ["_law_tin", "_law_hues_so"]) fun _ _ _ _ _ _ us hl => match us, hl with | [_, _], _ => rfl)
  have F19 : Fn K mg "_law_book" s_law_book ["_law_tin", "_law_letters_so", "_law_flags_so", "_law_extra_so", "_law_word_so"] := fn_of1 X G a19 l19 c19 k19 ((fun_mk l19 c19 k19).binds (ps := ["_law_tin", "_law_letters_so", "_law_flags_so", "_law_extra_so", "_law_word_so"]) fun _ _ _ _ _ _ us hl => match us, hl with | [_, _, _, _, _], _ => rfl)
  have F20 : Fn K mg "_law_has_parts" s_law_has_parts ["_law_book_so", "_law_parts_so"] := fn_of1 X G a20 l20 c20 k20 ((fun_mk l20 c20 k20).binds (ps := ["_law_book_so", "_law_parts_so"]) fun _ _ _ _ _ _ us hl => match us, hl with | [_, _], _ => rfl)
  have F21 : Fn K mg "_law_leveled" s_law_leveled ["_law_tin"] := fn_of1 X G a21 l21 c21 k21 ((fun_mk l21 c21 k21).binds (ps := ["_law_tin"]) fun _ _ _ _ _ _ us hl => match us, hl with | [_], _ => rfl)
  have F22 : Fn K mg "_law_by_hand_right" s_law_by_hand_right [] := fn_of1 X G a22 l22 c22 k22 ((fun_mk l22 c22 k22).binds (ps := []) fun _ _ _ _ _ _ us hl => match us, hl with | [], _ => rfl)
  have F23 : Fn K mg "_law_right" s_law_right ["_law_tin"] := fn_of1 X G a23 l23 c23 k23 ((fun_mk l23 c23 k23).binds (ps := ["_law_tin"]) fun _ _ _ _ _ _ us hl => match us, hl with | [_], _ => rfl)
  have F24 : Fn K mg "_law_levels_right" s_law_levels_right ["_law_tin"] := fn_of1 X G a24 l24 c24 k24 ((fun_mk l24 c24 k24).binds (ps := ["_law_tin"]) fun _ _ _ _ _ _ us hl => match us, hl with | [_], _ => rfl)
  have Wg : GlD K mg "WORDS" d_words := ⟨wA, PySem.W.mg_of X G aw, fun S => by
    have hz : wits.size ≤ sizeLine := by
      have := lv.length
      have e6 : (words.map fun v => V.str v.str).length = 6 := rfl
      rw [← Array.length_toList]
      exact le_line (by omega)
    refine .tup (xs := words.map fun v => V.str v.str) (.inr ⟨wo, wits, wn, lw, lc, ld, hz, lv⟩) ?_
    exact .cons (.str _) (.cons (.str _) (.cons (.str _) (.cons (.str _) (.cons (.str _) (.cons (.str _) .nil)))))⟩
  refine ⟨PySem.W.fnOf "law" "law" (defArgs s_law) (defBody s_law) (defScope s_law) .none kV25 dc25 pm25 an25 cd25 ct25, fun s v => .of_eq rfl, fun base _ _ => ?_⟩
  have hnum := can_is_number (P := PySem.Challenge.rw_placehues_k15_whole_books_that_go_by_wor.prog) (w := w) (base := base) Bl F0
  have htup := can_tuple_of (P := PySem.Challenge.rw_placehues_k15_whole_books_that_go_by_wor.prog) (w := w) (base := base) Bl F1 6
  have hisT := can_is_tuple_of (P := PySem.Challenge.rw_placehues_k15_whole_books_that_go_by_wor.prog) (w := w) (base := base) Bl F2
  have hrows := can_rows_of (P := PySem.Challenge.rw_placehues_k15_whole_books_that_go_by_wor.prog) (w := w) (base := base) Bl F3
  have hkey := can_key_by (P := PySem.Challenge.rw_placehues_k15_whole_books_that_go_by_wor.prog) (w := w) (base := base) Bl F4
  have hgoes := can_goes_by Bl F5 htup hrows hkey
  have htold := can_told_of Bl F6 Wg hgoes
  have hare := can_are_numbers Bl F7 hnum hisT
  have hparts := can_is_parts Bl F8 hare hrows htup
  have hbox := can_law_box (P := PySem.Challenge.rw_placehues_k15_whole_books_that_go_by_wor.prog) (w := w) (base := base) Bl F9
  have htake := can_law_take (P := PySem.Challenge.rw_placehues_k15_whole_books_that_go_by_wor.prog) (w := w) (base := base) Bl F10
  have hcells := can_law_cells (P := PySem.Challenge.rw_placehues_k15_whole_books_that_go_by_wor.prog) (w := w) (base := base) Bl F11
  have hof := can_law_of Bl F12 htake
  have hlists := can_law_lists (P := PySem.Challenge.rw_placehues_k15_whole_books_that_go_by_wor.prog) (w := w) (base := base) Bl F13 6
  have hsame := can_law_same (P := PySem.Challenge.rw_placehues_k15_whole_books_that_go_by_wor.prog) (w := w) (base := base) Bl F14 4
  have hlines := can_law_lines (P := PySem.Challenge.rw_placehues_k15_whole_books_that_go_by_wor.prog) (w := w) (base := base) Bl F15
  have halike := can_law_alike (P := PySem.Challenge.rw_placehues_k15_whole_books_that_go_by_wor.prog) (w := w) (base := base) Bl F16
  have hltold := can_law_told Bl F17 halike hlines
  have hmap := can_law_map Bl F18 hof
  have hbook := can_law_book Bl F19 hmap hof htake
  have hhas := can_law_has_parts Bl F20 hlines
  have hlev := can_law_leveled Bl F21 htake
  have hhand := can_law_by_hand_right Bl F22 hsame hparts htold
  have hright := can_law_right Bl F23 hbook hhas hlists hof hsame htake hltold hgoes hparts htold
  have hlevr := can_law_levels_right Bl F24 hhas hlev hsame hparts
  have hlaw := ok_law Bl (fun_mk l25 c25 k25) hbox hhand hcells hlevr hright
  exact (hlaw.imp fun vs H Q E h => sp_law h).mono (by omega)
end
end Ph

set_option Elab.async false
set_option linter.all false
set_option maxRecDepth 100000
open PySem PySem.W PyProof.Rows
set_option maxHeartbeats 0 in
theorem PySem.Challenge.cw_placehues_k15_whole_books_that_go_by_wor_holds : PySem.Challenge.rw_placehues_k15_whole_books_that_go_by_wor.Holds := by
  w_on; o_law; k_head; (case hw => w_witness2)
  k_fill
  refine L2.walk_of (l := PySem.Challenge.rw_placehues_k15_whole_books_that_go_by_wor) (n := 63) (k := 20) (x := "_law_script") (CX := fun _ => L2.CX0) (sp := fun w => Ph.spLaw _) rfl (by decide) rfl ⟨rfl, by decide, by decide⟩ (fun w h Y => PySem.W.kIn_of Y) ?F (fun _ _ a ns hl _ hS => ⟨a, ns, rfl, hS, hl, fun _ => rfl⟩) (fun _ _ _ _ _ h => h)
  case F =>
    intro w mg fa h KX G hmg
    refine' Ph.all_mk KX G hmg ?a0 ?l0 ?c0 ?k0 ?a1 ?l1 ?c1 ?k1 ?a2 ?l2 ?c2 ?k2 ?a3 ?l3 ?c3 ?k3 ?a4 ?l4 ?c4 ?k4 ?a5 ?l5 ?c5 ?k5 ?a6 ?l6 ?c6 ?k6 ?a7 ?l7 ?c7 ?k7 ?a8 ?l8 ?c8 ?k8 ?a9 ?l9 ?c9 ?k9 ?a10 ?l10 ?c10 ?k10 ?a11 ?l11 ?c11 ?k11 ?a12 ?l12 ?c12 ?k12 ?a13 ?l13 ?c13 ?k13 ?a14 ?l14 ?c14 ?k14 ?a15 ?l15 ?c15 ?k15 ?a16 ?l16 ?c16 ?k16 ?a17 ?l17 ?c17 ?k17 ?a18 ?l18 ?c18 ?k18 ?a19 ?l19 ?c19 ?k19 ?a20 ?l20 ?c20 ?k20 ?a21 ?l21 ?c21 ?k21 ?a22 ?l22 ?c22 ?k22 ?a23 ?l23 ?c23 ?k23 ?a24 ?l24 ?c24 ?k24 ?a25 ?l25 ?c25 ?k25 ?z_len ?z_range ?z_tuple ?z_list ?z_isinstance ?z_enumerate ?z_zip ?z_all ?z_int ?z_abs ?z_set ?z_bool ?z_str ?aw ?lw ?lc ?ld ?lv
    (case a0 => k_is)
    (case l0 => k_is)
    (case c0 => k_is)
    (case k0 => k_is)
    (case a1 => k_is)
    (case l1 => k_is)
    (case c1 => k_is)
    (case k1 => k_is)
    (case a2 => k_is)
    (case l2 => k_is)
    (case c2 => k_is)
    (case k2 => k_is)
    (case a3 => k_is)
    (case l3 => k_is)
    (case c3 => k_is)
    (case k3 => k_is)
    (case a4 => k_is)
    (case l4 => k_is)
    (case c4 => k_is)
    (case k4 => k_is)
    (case a5 => k_is)
    (case l5 => k_is)
    (case c5 => k_is)
    (case k5 => k_is)
    (case a6 => k_is)
    (case l6 => k_is)
    (case c6 => k_is)
    (case k6 => k_is)
    (case a7 => k_is)
    (case l7 => k_is)
    (case c7 => k_is)
    (case k7 => k_is)
    (case a8 => k_is)
    (case l8 => k_is)
    (case c8 => k_is)
    (case k8 => k_is)
    (case a9 => k_is)
    (case l9 => k_is)
    (case c9 => k_is)
    (case k9 => k_is)
    (case a10 => k_is)
    (case l10 => k_is)
    (case c10 => k_is)
    (case k10 => k_is)
    (case a11 => k_is)
    (case l11 => k_is)
    (case c11 => k_is)
    (case k11 => k_is)
    (case a12 => k_is)
    (case l12 => k_is)
    (case c12 => k_is)
    (case k12 => k_is)
    (case a13 => k_is)
    (case l13 => k_is)
    (case c13 => k_is)
    (case k13 => k_is)
    (case a14 => k_is)
    (case l14 => k_is)
    (case c14 => k_is)
    (case k14 => k_is)
    (case a15 => k_is)
    (case l15 => k_is)
    (case c15 => k_is)
    (case k15 => k_is)
    (case a16 => k_is)
    (case l16 => k_is)
    (case c16 => k_is)
    (case k16 => k_is)
    (case a17 => k_is)
    (case l17 => k_is)
    (case c17 => k_is)
    (case k17 => k_is)
    (case a18 => k_is)
    (case l18 => k_is)
    (case c18 => k_is)
    (case k18 => k_is)
    (case a19 => k_is)
    (case l19 => k_is)
    (case c19 => k_is)
    (case k19 => k_is)
    (case a20 => k_is)
    (case l20 => k_is)
    (case c20 => k_is)
    (case k20 => k_is)
    (case a21 => k_is)
    (case l21 => k_is)
    (case c21 => k_is)
    (case k21 => k_is)
    (case a22 => k_is)
    (case l22 => k_is)
    (case c22 => k_is)
    (case k22 => k_is)
    (case a23 => k_is)
    (case l23 => k_is)
    (case c23 => k_is)
    (case k23 => k_is)
    (case a24 => k_is)
    (case l24 => k_is)
    (case c24 => k_is)
    (case k24 => k_is)
    (case a25 => k_is)
    (case l25 => k_is)
    (case c25 => k_is)
    (case k25 => k_is)
    (case z_len => k_is)
    (case z_range => k_is)
    (case z_tuple => k_is)
    (case z_list => k_is)
    (case z_isinstance => k_is)
    (case z_enumerate => k_is)
    (case z_zip => k_is)
    (case z_all => k_is)
    (case z_int => k_is)
    (case z_abs => k_is)
    (case z_set => k_is)
    (case z_bool => k_is)
    (case z_str => k_is)
    (case aw => k_is)
    (case lw => k_is)
    (case lc => rfl)
    (case ld => rfl)
    (case lv => exact .cons ⟨_, rfl⟩ (.cons ⟨_, rfl⟩ (.cons ⟨_, rfl⟩ (.cons ⟨_, rfl⟩ (.cons ⟨_, rfl⟩ (.cons ⟨_, rfl⟩ .nil))))))
