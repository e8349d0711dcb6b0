import PyProof.Rows.All
import Wide.All
import OpenK.AllK
import Wide.FinOn
import PySem.Challenge.RW_leafround_k88_patches_lead_over
import HandS.ForMost
import KE.KeyNested
import KE.KDictKeyed
import PyProof.DictRoadsH
import PyProof.DictMoreH
import KE.KDictCopyH
import HandS.Dict
import HandS.Exc
import HandS.ExcOwn
import HandS.ExcInit
import HandS.CallSlots
import HandS.WordsExc
import HandS.Flow
import HandS.Wide
import HandS.FStr
import HandS.IsInst
import HandS.StrMore
import HandS.TupAny
import HandS.Style
import HandS.Deep
import HandS.More
import HandS.RaiseMore
import PyProof.AutoSeq1
import HandS.Iter
import HandS.Steps
import HandS.Defaults
import HandS.MakeKw
import HandS.MakeKwOnly
import HandS.Conv
import KE.RegKTryMore
section
set_option Elab.async false
set_option linter.all false
set_option maxRecDepth 100000
set_option maxHeartbeats 4000000
/-! dicts whose keys are plain data of any kind: None, numbers, texts, tuples of these -/
namespace Nd
open PySem PySem.Spec
abbrev Ent := NestedKey × Value × Value
def ent (w : World) (x : Ent) : DictEntry := ⟨x.1.hash w, x.2.1, x.2.2⟩
def KeyAt (h : Heap) (k : NestedKey) (u : Value) : Prop := NestedIs h k u ∧ k.depth ≤ 8
def DV (w : World) (h : Heap) (d : Addr) (ep : Nat) (xs : List Ent) : Prop :=
  ∃ o es, h.get? d = some o ∧ o.ExactDict ∧ o.data = .dict es ep ∧ es.toList = xs.map (ent w) ∧ (xs.map (·.1)).Nodup
def look (xs : List Ent) (k : NestedKey) : Option Value := (xs.find? fun x => decide (x.1 = k)).map (·.2.2)
def putV (k : NestedKey) (v : Value) (x : Ent) : Ent := if x.1 = k then (x.1, x.2.1, v) else x
def store (xs : List Ent) (k : NestedKey) (u v : Value) : List Ent := if (look xs k).isSome then xs.map (putV k v) else xs ++ [(k, u, v)]

def bump (xs : List Ent) (k : NestedKey) : Nat := if (look xs k).isSome then 0 else 1

theorem look_at {xs : List Ent} (hn : (xs.map (·.1)).Nodup) : ∀ {i : Nat} {k : NestedKey} {p : Value × Value}, xs[i]? = some (k, p) → look xs k = some p.2 := by
  induction xs with
  | nil => intro i k p h; simp at h
  | cons x r ih =>
    intro i k p h
    rw [List.map_cons, List.nodup_cons] at hn
    cases i with
    | zero => simp at h; subst h; simp [look]
    | succ i =>
      simp at h
      have hm : k ∈ r.map (·.1) := List.mem_map.mpr ⟨(k, p), List.mem_of_getElem? h, rfl⟩
      have ne : ¬ x.1 = k := fun e => hn.1 (e ▸ hm)
      have := ih hn.2 h
      simpa [look, List.find?_cons, ne] using this
theorem look_no {xs : List Ent} {k : NestedKey} (h : ∀ (j : Nat) (p : Value × Value), xs[j]? ≠ some (k, p)) : look xs k = none := by
  have : (xs.find? fun x => decide (x.1 = k)) = none := by
    rw [List.find?_eq_none]
    intro x hx e
    obtain ⟨j, hj⟩ := List.mem_iff_getElem?.mp hx
    have e := of_decide_eq_true e
    exact h j x.2 (by rw [hj, ← e])
  simp [look, this]
theorem look_some {xs : List Ent} {k : NestedKey} {v : Value} (h : look xs k = some v) : ∃ u, (k, u, v) ∈ xs := by
  unfold look at h
  cases q : xs.find? (fun x => decide (x.1 = k)) with
  | none => rw [q] at h; cases h
  | some x =>
    rw [q] at h
    have e := of_decide_eq_true (by simpa using List.find?_some q)
    have hm := List.mem_of_find?_eq_some q
    obtain ⟨a, b, c⟩ := x
    cases h
    cases e
    exact ⟨b, hm⟩
theorem keys_put (xs : List Ent) (k : NestedKey) (v : Value) : (xs.map (putV k v)).map (·.1) = xs.map (·.1) := by
  rw [List.map_map]
  apply List.map_congr_left
  intro x _
  show (putV k v x).1 = x.1
  unfold putV; split <;> rfl
theorem uniq {xs : List Ent} (hn : (xs.map (·.1)).Nodup) {i j : Nat} {k : NestedKey} {p q : Value × Value} (hi : xs[i]? = some (k, p)) (hj : xs[j]? = some (k, q)) : i = j := by
  have h1 : (xs.map (·.1))[i]? = some k := by rw [List.getElem?_map, hi]; rfl
  have h2 : (xs.map (·.1))[j]? = some k := by rw [List.getElem?_map, hj]; rfl
  exact (List.getElem?_inj (List.getElem?_eq_some_iff.mp h1).1 hn).mp (h1.trans h2.symm)
theorem mod_put {w : World} (k : NestedKey) (v : Value) : ∀ {xs : List Ent} {j : Nat} {p : Value × Value}, (xs.map (·.1)).Nodup → xs[j]? = some (k, p) → (xs.map (ent w)).modify j (fun e => { e with val := v }) = (xs.map (putV k v)).map (ent w) := by
  intro xs
  induction xs with
  | nil => intro j p _ h; simp at h
  | cons x r ih =>
    intro j p hn h
    rw [List.map_cons, List.nodup_cons] at hn
    have rest : k ∉ r.map (·.1) → r.map (putV k v) = r := fun nk => by
      conv => rhs; rw [← List.map_id r]
      apply List.map_congr_left
      intro y hy
      show putV k v y = y
      unfold putV; rw [if_neg]; intro e; exact nk (List.mem_map.mpr ⟨y, hy, e⟩)
    cases j with
    | zero =>
      simp at h; subst h
      rw [List.map_cons, List.map_cons, rest hn.1]
      show _ = ent w (putV k v (k, p)) :: _
      unfold putV; rw [if_pos rfl]; rfl
    | succ j =>
      simp at h
      have hm : k ∈ r.map (·.1) := List.mem_map.mpr ⟨(k, p), List.mem_of_getElem? h, rfl⟩
      have ne : ¬ x.1 = k := fun e => hn.1 (e ▸ hm)
      rw [List.map_cons, List.map_cons, List.map_cons]
      show ent w x :: (r.map (ent w)).modify j _ = ent w (putV k v x) :: _
      rw [ih hn.2 h]
      unfold putV; rw [if_neg ne]
theorem ent_at {w : World} {es : Array DictEntry} {xs : List Ent} (he : es.toList = xs.map (ent w)) (j : Nat) : es[j]? = (xs[j]?).map (ent w) := by
  rw [← Array.getElem?_toList, he, List.getElem?_map]
theorem ent_sz {w : World} {es : Array DictEntry} {xs : List Ent} (he : es.toList = xs.map (ent w)) : es.size = xs.length := by
  rw [← Array.length_toList, he, List.length_map]

section
variable {prog : Program} {w : World} {A : Around} {E : Value → Shared → Prop} {s : Shared}
theorem tells {u : Value} {k : NestedKey} {st : List Value} {Q : Bool → Shared → Prop} (hk : KeyAt s.heap k u) (hst : ∀ v ∈ st, ∃ k', KeyAt s.heap k' v) (q : Q false s) : wpAny (model prog w) A (tableMayTell u st) Q E s := by
  unfold tableMayTell
  split
  · exact wpAny_pure q
  · refine wpAny_bind (quiet_key k _ 8 s hk.1 hk.2 A E _ ?_)
    simp only [Bool.not_true, Bool.false_eq_true, if_false]
    refine wpAny_bind ?_
    refine wpAny_forIn_list _ (fun r b s' => s' = s ∧ b = (none, ()) ∧ ∀ v ∈ r, ∃ k', KeyAt s.heap k' v) _ ?_ ?_ _ _ ⟨rfl, rfl, hst⟩
    · rintro x r b s' ⟨rfl, rfl, hr⟩
      obtain ⟨k', h'⟩ := hr x List.mem_cons_self
      refine wpAny_bind (quiet_key k' _ 8 s' h'.1 h'.2 A E _ ?_)
      simp only [Bool.not_true, Bool.false_eq_true, if_false]
      exact wpAny_pure ⟨rfl, rfl, fun v hv => hr v (List.mem_cons_of_mem _ hv)⟩
    · rintro b s' ⟨rfl, rfl, _⟩
      exact wpAny_pure q
theorem eqk {x y : NestedKey} {a b : Value} {Q : Bool → Shared → Prop} (hu : A.units + 8 < cLine) (hx : KeyAt s.heap x a) (hy : KeyAt s.heap y b) (q : Q (decide (x = y)) s) : wpAny (model prog w) A (eqBool a b) Q E s := by
  have hd : min x.depth y.depth ≤ 8 := Nat.le_trans (Nat.min_le_left _ _) hx.2
  exact eqAt_key x y A s _ _ hx.1 hy.1 (by omega) _ _ _ _ (by rw [← NestedKey.decide_eq]; exact q)
theorem str_of {h : Heap} {k : NestedKey} {x : Str} {t : Tok} (hk : KeyAt h k (.str x t)) : k = .text x := by
  have := hk.1
  cases this; rfl
theorem isStr_of {h : Heap} {k : NestedKey} {u : Value} {x : Str} (hk : KeyAt h k u) (hs : isExactStrKey u = true) : u.isStr x = decide (k = .text x) := by
  have := hk.1
  cases this with
  | text y t =>
    show (y == x) = _
    rw [Bool.eq_iff_iff]
    simp
  | _ => cases hs
theorem iteW {α : Type} {c : Prop} [Decidable c] {x y : Sem α} {Q : α → Shared → Prop} (h1 : c → wpAny (model prog w) A x Q E s) (h2 : ¬ c → wpAny (model prog w) A y Q E s) : wpAny (model prog w) A (if c then x else y) Q E s := by
  by_cases h : c
  · rw [if_pos h]; exact h1 h
  · rw [if_neg h]; exact h2 h
theorem find {d : Addr} {o : Obj} {es : Array DictEntry} {ep : Nat} {xs : List Ent} {k : NestedKey} {u : Value} {Q : Option Nat → Shared → Prop} (hu : A.units + 8 < cLine) (hk : KeyAt s.heap k u)
    (ho : s.heap.get? d = some o) (hd : o.data = .dict es ep) (he : es.toList = xs.map (ent w)) (his : ∀ x ∈ xs, KeyAt s.heap x.1 x.2.1) (hn : (xs.map (·.1)).Nodup)
    (h0 : (∀ (j : Nat) (p : Value × Value), xs[j]? ≠ some (k, p)) → Q none s) (h1 : ∀ (j : Nat) (p : Value × Value), xs[j]? = some (k, p) → Q (some j) s) : wpAny (model prog w) A (dictFind d u (k.hash w)) Q E s := by
  have sz : es.size = xs.length := ent_sz he
  have emem : ∀ e ∈ es, ∃ x ∈ xs, e = ent w x := fun e hin => by
    have : e ∈ xs.map (ent w) := he ▸ Array.mem_toList_iff.mpr hin
    obtain ⟨x, hx, rfl⟩ := List.mem_map.mp this
    exact ⟨x, hx, rfl⟩
  generalize hP : placesWithHash es.size (fun i => es[i]?.map (·.hash)) (k.hash w) = P
  have Pin : ∀ i ∈ P, ∃ x, xs[i]? = some x ∧ x.1.hash w = k.hash w := fun i hi => by
    rw [← hP] at hi
    unfold placesWithHash at hi
    obtain ⟨hi1, hi2⟩ := List.mem_filter.mp hi
    have hlt : i < xs.length := by rw [← sz]; simpa using hi1
    dsimp only at hi2
    rw [ent_at he i, List.getElem?_eq_getElem hlt] at hi2
    exact ⟨xs[i], List.getElem?_eq_getElem hlt, by simpa [ent] using hi2⟩
  have inP : ∀ (j : Nat) (p : Value × Value), xs[j]? = some (k, p) → j ∈ P := fun j p hj => by
    rw [← hP]
    unfold placesWithHash
    refine List.mem_filter.mpr ⟨?_, ?_⟩
    · rw [sz]; simpa using (List.getElem?_eq_some_iff.mp hj).1
    · dsimp only
      rw [ent_at he j, hj]; simp [ent]
  have Pnd : P.Nodup := by
    rw [← hP]
    unfold placesWithHash
    exact List.Nodup.sublist List.filter_sublist List.nodup_range
  have hst : ∀ v ∈ P.filterMap (fun i => es[i]?.map (·.key)), ∃ k', KeyAt s.heap k' v := fun v hv => by
    obtain ⟨i, _, hi⟩ := List.mem_filterMap.mp hv
    cases q : es[i]? with
    | none => rw [q] at hi; cases hi
    | some e =>
      rw [q] at hi
      obtain rfl : e.key = v := by simpa using hi
      obtain ⟨x, hx, rfl⟩ := emem e (Array.mem_of_getElem? q)
      exact ⟨x.1, his x hx⟩
  have any0 : ∀ a : Addr, u = .ref a → ¬ (es.any fun e => e.key == u && e.hash != k.hash w) = true := fun a ea => by
    rw [← Array.any_toList, List.any_eq_true]
    rintro ⟨e, hin, hc⟩
    obtain ⟨x, hx, rfl⟩ := emem e (Array.mem_toList_iff.mp hin)
    simp only [ent, Bool.and_eq_true, beq_iff_eq, bne_iff_ne, ne_eq] at hc
    obtain ⟨e1, e2⟩ := hc
    have hx' := his x hx
    rw [e1] at hx'
    exact e2 (by rw [NestedIs.inj _ _ _ hx'.1 hk.1])
  have plain : wpAny (model prog w) A (dictWalkPlain d u (k.hash w) es P) Q E s := by
    unfold dictWalkPlain
    refine wpAny_bind ?_
    refine wpAny_forIn_list _ (fun r b s' => s' = s ∧ b = (none, ()) ∧ (∀ i ∈ r, i ∈ P) ∧ ∀ (j : Nat) (p : Value × Value), xs[j]? = some (k, p) → j ∈ r) _ ?_ ?_ _ _ ⟨rfl, rfl, fun _ h => h, inP⟩
    · rintro i r b s' ⟨rfl, rfl, hr, hj⟩
      obtain ⟨x, hx, hh⟩ := Pin i (hr i List.mem_cons_self)
      have ei : es[i]? = some (ent w x) := by rw [ent_at he i, hx]; rfl
      rw [ei]
      dsimp only
      rw [if_pos (by simp [ent, hh])]
      refine wpAny_bind (wpAny_dictEpoch ho hd (wpAny_bind (eqk (x := x.1) (y := k) hu (his x (List.mem_of_getElem? hx)) hk (wpAny_bind (wpAny_dictEpoch ho hd ?_)))))
      show wpAny _ _ (if (ep != ep) = true then _ else _) _ E _
      rw [if_neg (by simp)]
      by_cases e : x.1 = k
      · rw [decide_eq_true e]
        have hx2 : xs[i]? = some (k, x.2) := by rw [hx, ← e]
        exact wpAny_bind (wpAny_rule (wpAny_pure (wpAny_pure (h1 i x.2 hx2))))
      · rw [decide_eq_false e]
        refine wpAny_bind (wpAny_rule (wpAny_pure ⟨rfl, rfl, fun i' h' => hr i' (List.mem_cons_of_mem _ h'), fun j p hjp => ?_⟩))
        rcases List.mem_cons.mp (hj j p hjp) with rfl | h'
        · rw [hx] at hjp; cases hjp; exact absurd rfl e
        · exact h'
    · rintro b s' ⟨rfl, rfl, _, hj⟩
      exact wpAny_pure (h0 fun j p hjp => by cases hj j p hjp)
  unfold dictFind
  try with_reducible refine wpAny_holding ?_
  refine wpAny_bind (wpAny_dictEntries ho hd ?_)
  dsimp only
  rw [hP]
  have fin : ∀ b : Option (Option Nat) × Option Nat, (b.1 = none ∧ ((b.2 = none ∧ ∀ (j : Nat) (p : Value × Value), xs[j]? ≠ some (k, p)) ∨ ∃ j p, b.2 = some j ∧ xs[j]? = some (k, p))) → Q b.2 s := fun b hb => by
    rcases hb.2 with ⟨e, h⟩ | ⟨j, p, e, h⟩
    · rw [e]; exact h0 h
    · rw [e]; exact h1 j p h
  by_cases hstr : ∃ x t, u = .str x t ∧ (es.all fun e => isExactStrKey e.key) = true
  · obtain ⟨x, t, rfl, hs⟩ := hstr
    dsimp only
    refine iteW (fun _ => ?_) fun h => absurd hs h
    have ek := str_of hk
    subst ek
    unfold foundByValue
    have hall : ∀ e ∈ es, isExactStrKey e.key = true := fun e hin => by
      rw [← Array.all_toList, List.all_eq_true] at hs
      exact hs e (Array.mem_toList_iff.mpr hin)
    cases q : es.findIdx? (fun e => e.key.isStr x) with
    | none =>
      refine wpAny_pure (h0 fun j p hj => ?_)
      have ej : es[j]? = some (ent w (.text x, p)) := by rw [ent_at he j, hj]; rfl
      have hin := Array.mem_of_getElem? ej
      have n1 := Array.findIdx?_eq_none_iff.mp q _ hin
      have n2 := isStr_of (x := x) (his (.text x, p) (List.mem_of_getElem? hj)) (hall _ hin)
      have n3 : (ent w (.text x, p)).key.isStr x = true := by rw [show (ent w (NestedKey.text x, p)).key = p.1 from rfl]; rw [n2]; simp
      rw [n3] at n1; cases n1
    | some i =>
      obtain ⟨hlt, hi, _⟩ := Array.findIdx?_eq_some_iff_getElem.mp q
      have hlx : i < xs.length := by rw [← sz]; exact hlt
      have ei : es[i]? = some (ent w xs[i]) := by rw [ent_at he i, List.getElem?_eq_getElem hlx]; rfl
      have ei2 : es[i] = ent w xs[i] := by rw [Array.getElem?_eq_getElem hlt] at ei; exact Option.some.inj ei
      have hx := his xs[i] (List.getElem_mem hlx)
      have n2 := isStr_of (x := x) hx (by have := hall es[i] (Array.getElem_mem hlt); rw [ei2] at this; exact this)
      have n3 : xs[i].1 = .text x := by
        rw [ei2] at hi
        have hi : (xs[i].2.1).isStr x = true := hi
        rw [n2] at hi
        exact of_decide_eq_true hi
      have hx2 : xs[i]? = some (.text x, xs[i].2) := by rw [List.getElem?_eq_getElem hlx, ← n3]
      simp only [ei]
      refine wpAny_bind (wpAny_dictEpoch ho hd (wpAny_bind (eqk (x := xs[i].1) (y := .text x) hu hx hk (wpAny_bind (wpAny_dictEpoch ho hd ?_)))))
      show wpAny _ _ (if (ep != ep) = true then _ else _) _ E _
      rw [if_neg (by simp), decide_eq_true n3]
      exact wpAny_bind (wpAny_rule (wpAny_pure (h1 i _ hx2)))

  · have hk1 := hk.1
    have ns : ∀ x t, u = .str x t → ¬ (es.all fun e => isExactStrKey e.key) = true := fun x t e h => hstr ⟨x, t, e, h⟩
    clear hstr
    obtain ⟨Is, is1, is2⟩ : ∃ Is : Nat → Prop, (∀ (j : Nat) (p : Value × Value), xs[j]? = some (k, p) → Is j) ∧ ∀ j, Is j → ∃ p, xs[j]? = some (k, p) := ⟨fun j => ∃ p, xs[j]? = some (k, p), fun j p h => ⟨p, h⟩, fun j h => h⟩
    have is3 : ∀ i j, Is i → Is j → i = j := fun i j hi hj => let ⟨_, a⟩ := is2 i hi; let ⟨_, b⟩ := is2 j hj; uniq hn a b
    have is4 : ∀ j, Is j → j ∈ P := fun j hj => let ⟨p, a⟩ := is2 j hj; inP j p a
    have is5 : ∀ j, Is j → Q (some j) s := fun j hj => let ⟨p, a⟩ := is2 j hj; h1 j p a
    have is6 : (∀ j, ¬ Is j) → Q none s := fun h => h0 fun j p hj => h j (is1 j p hj)
    have is7 : ∀ (i : Nat) (x : Ent), xs[i]? = some x → (Is i ↔ x.1 = k) := fun i x hx => ⟨fun h => by obtain ⟨p, a⟩ := is2 i h; rw [hx] at a; cases a; rfl, fun h => is1 i x.2 (by rw [hx, ← h])⟩
    rcases hk1 with _ | _ | _ | _ | _
    all_goals dsimp only
    all_goals try refine iteW (fun h => absurd h (ns _ _ rfl)) fun _ => ?_
    all_goals refine iteW (fun _ => plain) fun _ => ?_
    all_goals try refine iteW (fun h => absurd h (any0 _ rfl)) fun _ => ?_
    all_goals refine iteW (fun _ => wpAny_bind (wpAny_pure ?_)) fun _ => wpAny_bind (tells hk hst ?_)
    all_goals refine iteW (fun h => by simp at h) fun _ => ?_
    all_goals refine wpAny_bind ?_
    all_goals refine wpAny_forIn_list _ (fun r b s' => s' = s ∧ b.1 = none ∧ r.Nodup ∧ (∀ i ∈ r, i ∈ P) ∧ ((b.2 = none ∧ ∀ j, Is j → j ∈ r) ∨ ∃ j, b.2 = some j ∧ Is j ∧ j ∉ r)) _ ?_ ?_ _ _ ⟨rfl, rfl, Pnd, fun _ h => h, .inl ⟨rfl, is4⟩⟩
    all_goals first
      | (rintro b s' ⟨rfl, e1, _, _, hb⟩
         rw [e1]
         rcases hb with ⟨e2, hb⟩ | ⟨j, e2, hb, _⟩
         · rw [e2]; exact wpAny_pure (is6 fun j hj => (by cases hb j hj))
         · rw [e2]; exact wpAny_pure (is5 j hb))
      | (rintro i r b s' ⟨rfl, e1, nd, hr, hb⟩
         obtain ⟨x, hx, hh⟩ := Pin i (hr i List.mem_cons_self)
         have ei : es[i]? = some (ent w x) := by rw [ent_at he i, hx]; rfl
         have hs7 := is7 i x hx
         have nd2 := List.nodup_cons.mp nd
         have hr2 : ∀ i' ∈ r, i' ∈ P := fun i' h' => hr i' (List.mem_cons_of_mem _ h')
         simp only [ei]
         refine iteW (fun _ => ?_) fun h => absurd (by simp [ent, hh]) h
         refine wpAny_bind (wpAny_dictEpoch ho hd (wpAny_bind (eqk hu (his x (List.mem_of_getElem? hx)) hk (wpAny_bind (wpAny_dictEpoch ho hd ?_)))))
         refine iteW (fun h => by simp at h) fun _ => ?_
         refine iteW (fun e => ?_) fun e => ?_
         · have hi : Is i := hs7.mpr (of_decide_eq_true e)
           refine iteW (fun h => ?_) fun _ => ?_
           · rcases hb with ⟨e2, _⟩ | ⟨j, _, hj, nj⟩
             · rw [e2] at h; cases h
             · exact absurd (by rw [is3 j i hj hi]; exact List.mem_cons_self) nj
           · refine wpAny_bind (wpAny_rule ?_)
             exact iteW (fun _ => wpAny_pure (wpAny_pure (is5 i hi))) fun _ => wpAny_pure ⟨rfl, rfl, nd2.2, hr2, .inr ⟨i, rfl, hi, nd2.1⟩⟩
         · have hi : ¬ Is i := fun h => e (decide_eq_true (hs7.mp h))
           refine wpAny_bind (wpAny_rule ?_)
           refine iteW (fun h => by simp at h) fun _ => ?_
           refine wpAny_pure ⟨rfl, rfl, nd2.2, hr2, ?_⟩
           rcases hb with ⟨e2, hb⟩ | ⟨j, e2, hj, nj⟩
           · exact .inl ⟨e2, fun j hj => (List.mem_cons.mp (hb j hj)).elim (fun z => absurd (z ▸ hj) hi) id⟩
           · exact .inr ⟨j, e2, hj, fun h => nj (List.mem_cons_of_mem _ h)⟩)
end
end Nd

end

section
set_option Elab.async false
set_option linter.all false
set_option maxRecDepth 100000
set_option maxHeartbeats 4000000
namespace Nd
open PySem PySem.Spec
section
variable {prog : Program} {w : World} {A : Around} {E : Value → Shared → Prop} {s : Shared} {d : Addr} {ep : Nat} {xs : List Ent} {k : NestedKey} {u v : Value}
theorem DV.ty (h : DV w s.heap d ep xs) : s.TypeIs (.ref d) "dict" := let ⟨o, _, ho, hc, _⟩ := h; ⟨o, ho, hc.1⟩
theorem DV.nd {h : Heap} (x : DV w h d ep xs) : (xs.map (·.1)).Nodup := let ⟨_, _, _, _, _, _, hn⟩ := x; hn
theorem get_ {Q : Option Value → Shared → Prop} (hu : A.units + 8 < cLine) (hk : KeyAt s.heap k u) (hm : DV w s.heap d ep xs) (his : ∀ x ∈ xs, KeyAt s.heap x.1 x.2.1)
    (q : Q (look xs k) { s with toks := s.toks + k.draws }) : wpAny (model prog w) A (dictGet d u) Q E s := by
  obtain ⟨o, es, ho, _, hd, he, hn⟩ := hm
  unfold dictGet
  try with_reducible refine wpAny_holding ?_
  refine wpAny_bind (pyHash_key k u A s _ hk.1 (by have := hk.2; omega) (wpAny_bind (find (s := { s with toks := s.toks + k.draws }) hu hk ho hd he his hn (fun h => ?_) fun j p hj => ?_)))
  · rw [look_no h] at q
    exact wpAny_pure q
  · rw [look_at hn hj] at q
    refine wpAny_bind (wpAny_dictEntries (s := { s with toks := s.toks + k.draws }) ho hd ?_)
    rw [ent_at he j, hj]
    exact wpAny_pure q
theorem set_ {Q : Unit → Shared → Prop} (hu : A.units + 8 < cLine) (hk : KeyAt s.heap k u) (hm : DV w s.heap d ep xs) (his : ∀ x ∈ xs, KeyAt s.heap x.1 x.2.1) (hz : xs.length ≤ sizeLine)
    (q : ∀ h', DV w h' d (ep + bump xs k) (store xs k u v) → Heap.SameBut d s.heap h' → Q () { s with heap := h', toks := s.toks + k.draws }) : wpAny (model prog w) A (dictSet d u v) Q E s := by
  obtain ⟨o, es, ho, hc, hd, he, hn⟩ := hm
  unfold dictSet
  try with_reducible refine wpAny_holding ?_
  refine wpAny_bind (pyHash_key k u A s _ hk.1 (by have := hk.2; omega) ?_)
  unfold dictSetHashed
  try with_reducible refine wpAny_holding ?_
  have sz := ent_sz he
  refine wpAny_bind (find (s := { s with toks := s.toks + k.draws }) hu hk ho hd he his hn (fun h => ?_) fun j p hj => ?_)
  · have es1 : store xs k u v = xs ++ [(k, u, v)] := by unfold store; rw [look_no h]; rfl
    have eb : bump xs k = 1 := by unfold bump; rw [look_no h]; rfl
    rw [eb] at q
    refine wpAny_bind (wpAny_rule (wpAny_updateDictKeys (hz := by omega) (s := { s with toks := s.toks + k.draws }) ho hd (q _ ⟨_, _, Heap.get?_update_self _ ho (Obj.isFreed_of_dict (Obj.data_mapDictKeys hd _)),
      hc.mapDictKeys _, Obj.data_mapDictKeys hd _, ?_, ?_⟩ (Heap.SameBut.update ..))))
    · rw [es1]; simp [he, ent]
    · rw [es1, List.map_append, List.nodup_append]
      refine ⟨hn, by simp, fun a ha b hb e => ?_⟩
      simp at hb
      subst hb
      subst e
      obtain ⟨x, hx, e⟩ := List.mem_map.mp ha
      obtain ⟨j, hj⟩ := List.mem_iff_getElem?.mp hx
      exact h j x.2 (by rw [hj, ← e])
  · have es1 : store xs k u v = xs.map (putV k v) := by unfold store; rw [look_at hn hj]; rfl
    have eb : bump xs k = 0 := by unfold bump; rw [look_at hn hj]; rfl
    rw [eb] at q
    refine wpAny_bind (wpAny_rule (wpAny_bind (wpAny_updateDict (s := { s with toks := s.toks + k.draws }) ho hd (wpAny_point (q _ ⟨_, _, Heap.get?_update_self _ ho (Obj.isFreed_of_dict (Obj.data_mapDict hd _)),
      hc.mapDict _, Obj.data_mapDict hd _, ?_, ?_⟩ (Heap.SameBut.update ..))))))
    · rw [es1]
      have := mod_put (w := w) k v hn hj
      rw [← he] at this
      obtain ⟨l⟩ := es
      simpa using this
    · rw [es1, keys_put]; exact hn
theorem in_ {Q : Value → Shared → Prop} (hu : A.in1.units + 8 < cLine) (hk : KeyAt s.heap k u) (hd : (d == sysModules) = false) (hm : DV w s.heap d ep xs) (his : ∀ x ∈ xs, KeyAt s.heap x.1 x.2.1)
    (q : Q (.bool (look xs k).isSome) { s with toks := s.toks + k.draws }) : wpAny (model prog w) A (compareOp .In u (.ref d)) Q E s := by
  show wpAny _ _ (do return .bool (← contains (.ref d) u)) Q E s
  refine wpAny_bind ?_
  unfold contains
  try with_reducible refine wpAny_holding ?_
  refine wpAny_bind (wpAny_specialOf hm.ty slot_dict_contains.lookup ?_)
  refine iteW (fun h => by rw [beq_builtin_none] at h; cases h) fun _ => ?_
  refine wpAny_bind (wpAny_callSpecialUnlessNone?_slot (name := Str.ofString "__contains__") hm.ty slot_dict_contains
    (wpAny_call_entry slot_dict_contains hm.ty entry_dict_contains ?_ (args_dict_contains _ _)))
  show wpAny _ _ (dictGet d u >>= _) _ _ s
  refine wpAny_bind (get_ hu hk hm his ?_)
  cases hf : look xs k with
  | some p =>
    rw [hf] at q
    show wpAny _ _ (ret (.bool true)) _ _ _
    exact wpAny_pure ⟨_, rfl, wpAny_truthy_bool (wpAny_pure q)⟩
  | none =>
    rw [hf] at q
    show wpAny _ _ (Builtin.Dict.pendingKey? d u >>= _) _ _ _
    exact wpAny_bind (wpAny_pendingKey_other hd (wpAny_pure ⟨_, rfl, wpAny_truthy_bool (wpAny_pure q)⟩))
theorem notin_ {Q : Value → Shared → Prop} (hu : A.in1.units + 8 < cLine) (hk : KeyAt s.heap k u) (hd : (d == sysModules) = false) (hm : DV w s.heap d ep xs) (his : ∀ x ∈ xs, KeyAt s.heap x.1 x.2.1)
    (q : Q (.bool (!(look xs k).isSome)) { s with toks := s.toks + k.draws }) : wpAny (model prog w) A (compareOp .NotIn u (.ref d)) Q E s := by
  show wpAny _ _ (do return .bool (!(← contains (.ref d) u))) Q E s
  refine wpAny_bind ?_
  unfold contains
  try with_reducible refine wpAny_holding ?_
  refine wpAny_bind (wpAny_specialOf hm.ty slot_dict_contains.lookup ?_)
  refine iteW (fun h => by rw [beq_builtin_none] at h; cases h) fun _ => ?_
  refine wpAny_bind (wpAny_callSpecialUnlessNone?_slot (name := Str.ofString "__contains__") hm.ty slot_dict_contains
    (wpAny_call_entry slot_dict_contains hm.ty entry_dict_contains ?_ (args_dict_contains _ _)))
  show wpAny _ _ (dictGet d u >>= _) _ _ s
  refine wpAny_bind (get_ hu hk hm his ?_)
  cases hf : look xs k with
  | some p =>
    rw [hf] at q
    show wpAny _ _ (ret (.bool true)) _ _ _
    exact wpAny_pure ⟨_, rfl, wpAny_truthy_bool (wpAny_pure q)⟩
  | none =>
    rw [hf] at q
    show wpAny _ _ (Builtin.Dict.pendingKey? d u >>= _) _ _ _
    exact wpAny_bind (wpAny_pendingKey_other hd (wpAny_pure ⟨_, rfl, wpAny_truthy_bool (wpAny_pure q)⟩))
theorem item_ {Q : Value → Shared → Prop} (hu : A.in1.units + 8 < cLine) (hk : KeyAt s.heap k u) (hm : DV w s.heap d ep xs) (his : ∀ x ∈ xs, KeyAt s.heap x.1 x.2.1) (hp : look xs k = some v)
    (q : Q v { s with toks := s.toks + k.draws }) : wpAny (model prog w) A (getItem (.ref d) u) Q E s := by
  unfold getItem
  try with_reducible refine wpAny_holding ?_
  refine wpAny_bind (wpAny_sequenceKey hm.ty (by decide) ?_)
  refine wpAny_bind (wpAny_callSpecial?_slot (name := Str.ofString "__getitem__") hm.ty slot_dict_getitem
    (wpAny_call_entry slot_dict_getitem hm.ty entry_dict_getitem ?_ (args_dict_getitem _ _)))
  show wpAny _ _ (dictGet d u >>= _) _ _ s
  refine wpAny_bind (get_ hu hk hm his ?_)
  rw [hp]
  exact wpAny_pure ⟨v, rfl, wpAny_pure q⟩
theorem put_ {Q : Unit → Shared → Prop} (hu : A.in1.units + 8 < cLine) (hk : KeyAt s.heap k u) (hm : DV w s.heap d ep xs) (his : ∀ x ∈ xs, KeyAt s.heap x.1 x.2.1) (hz : xs.length ≤ sizeLine)
    (q : ∀ h', DV w h' d (ep + bump xs k) (store xs k u v) → Heap.SameBut d s.heap h' → Q () { s with heap := h', toks := s.toks + k.draws }) : wpAny (model prog w) A (setItem (.ref d) u v) Q E s := by
  unfold setItem
  try with_reducible refine wpAny_holding ?_
  refine wpAny_bind (wpAny_sequenceKey hm.ty (by decide) ?_)
  refine wpAny_bind (wpAny_callSpecial?_slot (name := Str.ofString "__setitem__") hm.ty slot_dict_setitem
    (wpAny_call_entry slot_dict_setitem hm.ty entry_dict_setitem ?_ (args_dict_setitem _ _ _)))
  show wpAny _ _ (Builtin.Dict.notOrdered "__setitem__" ⟨[.ref d, u, v], []⟩ >>= _) _ _ s
  refine wpAny_bind (wpAny_notOrdered_dict hm.ty ?_)
  show wpAny _ _ (dictSet d u v >>= _) _ _ s
  exact wpAny_bind (set_ hu hk hm his hz fun h' hm' hs' => wpAny_pure ⟨.none, rfl, wpAny_pure (q h' hm' hs')⟩)
end
end Nd

end

section
set_option Elab.async false
set_option linter.all false
set_option maxRecDepth 100000
set_option maxHeartbeats 4000000
namespace Nd
open PySem PySem.Spec
def drop (xs : List Ent) (k : NestedKey) : List Ent := xs.filter fun x => decide (x.1 ≠ k)
theorem drop_no {xs : List Ent} {k : NestedKey} (h : k ∉ xs.map (·.1)) : drop xs k = xs := by
  unfold drop
  rw [List.filter_eq_self]
  intro x hx
  exact decide_eq_true fun e => h (List.mem_map.mpr ⟨x, hx, e⟩)
theorem erase_drop {xs : List Ent} : ∀ {j : Nat} {k : NestedKey} {p : Value × Value}, (xs.map (·.1)).Nodup → xs[j]? = some (k, p) → xs.eraseIdx j = drop xs k := by
  induction xs with
  | nil => intro j k p _ h; simp at h
  | cons x r ih =>
    intro j k p hn h
    rw [List.map_cons, List.nodup_cons] at hn
    cases j with
    | zero =>
      simp at h; subst h
      have e : drop ((k, p) :: r) k = drop r k := by simp [drop]
      rw [e, drop_no hn.1]; rfl
    | succ j =>
      simp at h
      have hm : k ∈ r.map (·.1) := List.mem_map.mpr ⟨(k, p), List.mem_of_getElem? h, rfl⟩
      have ne : x.1 ≠ k := fun e => hn.1 (e ▸ hm)
      rw [List.eraseIdx_cons_succ, ih hn.2 h]
      simp [drop, ne]
theorem drop_nd {xs : List Ent} {k : NestedKey} (hn : (xs.map (·.1)).Nodup) : ((drop xs k).map (·.1)).Nodup := List.Nodup.sublist (List.Sublist.map _ List.filter_sublist) hn
/-- what one pair after another gives -/
def storeAll (xs : List Ent) : List Ent → List Ent
  | [] => xs
  | p :: r => storeAll (store xs p.1 p.2.1 p.2.2) r
theorem store_len (xs : List Ent) (k : NestedKey) (u v : Value) : (store xs k u v).length ≤ xs.length + 1 := by
  unfold store; split <;> simp
theorem KeyAt.at {h h' : Heap} {k : NestedKey} {u : Value} (x : KeyAt h k u) (e : ∀ a o vs n, h.get? a = some o → o.data = .seq vs n → h'.get? a = some o) : KeyAt h' k u := ⟨NestedIs.at e _ _ x.1, x.2⟩
theorem DV.but {w : World} {h h' : Heap} {d c : Addr} {ep : Nat} {xs : List Ent} (x : DV w h d ep xs) (e : Heap.SameBut c h h') (n : d ≠ c) : DV w h' d ep xs := let ⟨o, es, ho, r⟩ := x; ⟨o, es, (e.2 d n).trans ho, r⟩
/-- a key stands while a dict is written -/
theorem KeyAt.wr {w : World} {h h' : Heap} {d : Addr} {ep : Nat} {xs : List Ent} {k : NestedKey} {u : Value} (x : KeyAt h k u) (hd : DV w h d ep xs) (e : Heap.SameBut d h h') : KeyAt h' k u := by
  obtain ⟨o, es, ho, _, hdat, _⟩ := hd
  refine x.at fun a oa vs n ha hs => ?_
  by_cases q : a = d
  · subst q; rw [ho] at ha; cases ha; rw [hdat] at hs; cases hs
  · exact (e.2 a q).trans ha
theorem store_key {xs : List Ent} {k : NestedKey} {u v : Value} {h : Heap} (his : ∀ x ∈ xs, KeyAt h x.1 x.2.1) (hk : KeyAt h k u) : ∀ x ∈ store xs k u v, KeyAt h x.1 x.2.1 := by
  intro x hx
  unfold store at hx
  split at hx
  · obtain ⟨y, hy, rfl⟩ := List.mem_map.mp hx
    have := his y hy
    unfold putV
    split <;> exact this
  · rcases List.mem_append.mp hx with hx | hx
    · exact his x hx
    · simp at hx; subst hx; exact hk
section
variable {prog : Program} {w : World} {A : Around} {E : Value → Shared → Prop} {s : Shared} {d : Addr} {ep : Nat} {xs : List Ent} {k : NestedKey} {u v : Value}
theorem get1 {Q : Value → Shared → Prop} (hu : A.in1.units + 8 < cLine) (hk : KeyAt s.heap k u) (hd : (d == sysModules) = false) (hm : DV w s.heap d ep xs) (his : ∀ x ∈ xs, KeyAt s.heap x.1 x.2.1)
    (q : Q ((look xs k).getD .none) { s with toks := s.toks + k.draws }) : wpAny (model prog w) A (call (.builtin "dict.get") [.ref d, u]) Q E s := by
  refine wpAny_call_entry F.slot_dict_get hm.ty F.entry_dict_get ?_ (F.args_dict_get_2 _ _)
  show wpAny _ _ (dictGet d u >>= _) _ _ s
  refine wpAny_bind (get_ hu hk hm his ?_)
  cases hf : look xs k with
  | some v => rw [hf] at q; exact wpAny_pure ⟨v, rfl, q⟩
  | none =>
    rw [hf] at q
    show wpAny _ _ (Builtin.Dict.missed d u >>= _) _ _ _
    exact wpAny_bind (wpAny_missed_other hd (wpAny_pure ⟨.none, rfl, q⟩))
theorem get2 {df : Value} {Q : Value → Shared → Prop} (hu : A.in1.units + 8 < cLine) (hk : KeyAt s.heap k u) (hd : (d == sysModules) = false) (hm : DV w s.heap d ep xs) (his : ∀ x ∈ xs, KeyAt s.heap x.1 x.2.1)
    (q : Q ((look xs k).getD df) { s with toks := s.toks + k.draws }) : wpAny (model prog w) A (call (.builtin "dict.get") [.ref d, u, df]) Q E s := by
  refine wpAny_call_entry F.slot_dict_get hm.ty F.entry_dict_get ?_ (F.args_dict_get_3 _ _ _)
  show wpAny _ _ (dictGet d u >>= _) _ _ s
  refine wpAny_bind (get_ hu hk hm his ?_)
  cases hf : look xs k with
  | some v => rw [hf] at q; exact wpAny_pure ⟨v, rfl, q⟩
  | none =>
    rw [hf] at q
    show wpAny _ _ (Builtin.Dict.missed d u >>= _) _ _ _
    exact wpAny_bind (wpAny_missed_other hd (wpAny_pure ⟨df, rfl, q⟩))
/-- an own new dict -/
theorem new (h : Heap) : DV w (h.push { cls := .type "dict", data := .dict #[] }) h.objs.size 0 [] :=
  ⟨_, #[], Heap.get?_push_size _ rfl, ⟨rfl, rfl, rfl⟩, rfl, rfl, List.nodup_nil⟩
theorem DV.at {h h' : Heap} (x : DV w h d ep xs) (e : ∀ o, h.get? d = some o → h'.get? d = some o) : DV w h' d ep xs := let ⟨o, es, ho, r⟩ := x; ⟨o, es, e o ho, r⟩
theorem DV.raw {h : Heap} (x : DV w h d ep xs) : ∃ es, h.DictRaw d es ep ∧ es.toList = xs.map (ent w) := let ⟨o, es, ho, hc, hd, he, _⟩ := x; ⟨es, ⟨o, ho, hc, hd⟩, he⟩

open L2 PyProof.Rows in
/-- the walk over the pairs of dict(pairs) -/
theorem upd_go {R : Result → Shared → Prop} {S I l : Addr} {items : Array Value} {res : Value} (hu : A.in1.units + 8 < cLine) (hh : A.handled = none) (hlI : l ≠ I) (hSI : S ≠ I) (hSl : S ≠ l) :
    ∀ (rest : List Ent) (i ep : Nat) (acc : List Ent) (ix : Int) (t : Tok) (s : Shared), items.size = i + rest.length → acc.length + rest.length ≤ sizeLine →
      (∀ (j : Nat) (q : Ent), rest[j]? = some q → KeyAt s.heap q.1 q.2.1 ∧ ∃ b : Addr, items[i + j]? = some (.ref b) ∧ b ≠ S ∧ b ≠ I ∧ IsTup s.heap b #[q.2.1, q.2.2]) →
      s.heap.IsListIter I l i → s.heap.IsList l items → DV w s.heap S ep acc → (∀ x ∈ acc, KeyAt s.heap x.1 x.2.1) →
      (∀ h' tk ep', DV w h' S ep' (storeAll acc rest) → (∀ b o, b ≠ S → b ≠ I → s.heap.get? b = some o → h'.get? b = some o) → R (.ok (.ret res)) { s with heap := h', toks := tk }) →
      codeAny (model prog w) A (.builtin "dict.update.loop" ⟨[.ref S, .ref I, .int ix t, res], []⟩) R s
  | [], i, ep, acc, ix, t, s, hsz, hln, ht, hit, hl, hm, hka, hR => by
    refine codeAny_builtin ud_entry ?_
    rw [Around.under_plainId ud_plain _]
    show wpAny _ A.in1 (pyNext (.ref I) >>= _) _ _ s
    refine wpAny_bind (wpAny_pyNext_list_end (A := A.in1) hh hit hl (by first | exact Array.getElem?_eq_none (Nat.le_of_eq hsz) | (simp at hsz; simp; omega)) fun h' he => ?_)
    show wpAny _ A.in1 (Builtin.Dict.addKeywords S [] >>= _) _ _ _
    refine wpAny_bind (wpAny_pure (wpAny_pure ?_))
    exact hR h' s.toks ep (hm.at fun o e => he S o hSI e) fun b o _ hb e => he b o hb e
  | q :: rest, i, ep, acc, ix, t, s, hsz, hln, ht, hit, hl, hm, hka, hR => by
    obtain ⟨hk, b, hb, hbS, hbI, htup⟩ := ht 0 q rfl
    rw [List.length_cons] at hsz hln
    refine codeAny_builtin ud_entry ?_
    rw [Around.under_plainId ud_plain _]
    show wpAny _ A.in1 (pyNext (.ref I) >>= _) _ _ s
    refine wpAny_bind (wpAny_pyNext_list_item (x := .ref b) hit hl (by simpa using hb) fun h1 hit1 hs1 => ?_)
    have ht1 : IsTup h1 b #[q.2.1, q.2.2] := htup.extBut hs1.extBut hbI
    have hl1 : h1.IsList l items := hl.extBut hs1.extBut hlI
    have hm1 : DV w h1 S ep acc := hm.but hs1 hSI
    obtain ⟨oi, eoi, _, doi⟩ := id hit
    have up1 : ∀ {k : NestedKey} {u : Value}, KeyAt s.heap k u → KeyAt h1 k u := fun z => z.at fun a o vs n e1 e2 => by
      by_cases qa : a = I
      · subst qa; rw [eoi] at e1; cases e1; rw [doi] at e2; cases e2
      · exact (hs1.2 a qa).trans e1
    obtain ⟨o, ho, hc, n, hd⟩ := id ht1
    show wpAny _ A.in1 (holding [Value.ref b] _ >>= _) _ _ _
    refine wpAny_bind (wpAny_holding ?_)
    refine wpAny_bind (wpAny_tryCatch ?_)
    unfold Builtin.Dict.pairItems
    refine wpAny_bind (wpAny_typeOf (T := "tuple") ⟨o, ho, hc⟩ ?_)
    rw [if_pos (by first | decide | rfl | simp)]
    refine wpAny_bind (wpAny_seqItems ho hd (wpAny_pure ?_))
    show wpAny _ A.in1 (holding [q.2.1, q.2.2] (dictSet S q.2.1 q.2.2)) _ _ _
    refine wpAny_holding (set_ (s := { s with heap := h1 }) hu (up1 hk) hm1 (fun x hx => up1 (hka x hx)) (by omega) fun h2 hm2 hs2 => ?_)
    refine wpAny_pure ⟨plainId_quiet ud_plain _, upd_go (items := items) hu hh hlI hSI hSl rest (i + 1) _ (store acc q.1 q.2.1 q.2.2) (ix + 1) 0 _ (show items.size = i + 1 + rest.length by omega) ?_ (fun j q' e => ?_) ?_ ?_ hm2 ?_ fun h' tk ep' hd' k => ?_⟩
    · have z := store_len acc q.1 q.2.1 q.2.2
      omega
    · obtain ⟨hk', b', hb', hbS', hbI', htup'⟩ := ht (j + 1) q' (by simpa using e)
      refine ⟨(up1 hk').wr hm1 hs2, b', ?_, hbS', hbI', (htup'.extBut hs1.extBut hbI').extBut hs2.extBut hbS'⟩
      rw [show i + 1 + j = i + (j + 1) by omega]
      exact hb'
    · exact hit1.at fun o' e => hs2.extBut I o' (Ne.symm hSI) e
    · exact hl1.extBut hs2.extBut (Ne.symm hSl)
    · exact store_key (fun x hx => (up1 (hka x hx)).wr hm1 hs2) ((up1 hk).wr hm1 hs2)
    · exact hR h' tk ep' hd' fun c oc h3 h4 e => k c oc h3 h4 (hs2.extBut c oc h3 (hs1.extBut c oc h4 e))
open L2 PyProof.Rows in
/-- dict(l) of a list of pairs -/
theorem of_pairs {s : Shared} {l : Addr} {ol : Obj} {items : Array Value} {n : Nat} {prs : List Ent} {Q : Value → Shared → Prop} (hu : A.in1.in1.units + 8 < cLine) (hh : A.handled = none) (hl : s.heap.get? l = some ol) (hc : ol.cls = .type "list") (hd : ol.dict = none)
    (hdat : ol.data = .seq items n) (hsz : items.size = prs.length) (hln : prs.length ≤ sizeLine)
    (ht : ∀ (j : Nat) (q : Ent), prs[j]? = some q → KeyAt s.heap q.1 q.2.1 ∧ ∃ b : Addr, items[j]? = some (.ref b) ∧ IsTup s.heap b #[q.2.1, q.2.2])
    (h : ∀ h' tk ep', DV w h' s.heap.objs.size ep' (storeAll [] prs) → (∀ b o, s.heap.get? b = some o → h'.get? b = some o) → Q (.ref s.heap.objs.size) { s with heap := h', toks := tk }) :
    wpAny (model prog w) A (call (.type "dict") [.ref l]) Q E s := by
  refine callType_codes (Q₁ := fun obj s₁ => obj = .ref s.heap.objs.size ∧ s₁ = { s with heap := s.heap.push { cls := .type "dict", data := .dict #[] } }) PySem.F.kt_called_dict (PySem.F.kt_typeCall_dict_1 _) PySem.F.entry_dict_init (kt_code_dict_new _ ⟨rfl, rfl⟩) ?_
  rintro obj s₁ ⟨rfl, rfl⟩
  have hnew : DV w (s.heap.push { cls := .type "dict", data := .dict #[] }) s.heap.objs.size 0 [] := new s.heap
  have k0 : ∀ b o, s.heap.get? b = some o → (s.heap.push { cls := .type "dict", data := .dict #[] }).get? b = some o := fun b o e => Heap.get?_push_of_some _ e
  refine ⟨DV.ty (s := { s with heap := s.heap.push { cls := .type "dict", data := .dict #[] } }) hnew, PySem.F.args_dict_init_2 _ _, ?_⟩
  unfold Builtin.«dict.__init__»
  refine wpAny_bind ?_
  unfold Builtin.Dict.selfAndRest
  refine wpAny_bind (wpAny_notOrdered_dict (DV.ty (s := { s with heap := s.heap.push { cls := .type "dict", data := .dict #[] } }) hnew) ?_)
  show wpAny _ _ (pure (s.heap.objs.size, [Value.ref l])) _ _ _
  refine wpAny_pure ?_
  show wpAny _ _ (Builtin.Dict.updateFrom "dict.__init__" s.heap.objs.size (.ref l) [] .none) _ _ _
  unfold Builtin.Dict.updateFrom
  refine wpAny_bind (wpAny_typeOf (T := "list") ⟨ol, k0 _ _ hl, hc⟩ ?_)
  rw [if_pos (by first | decide | rfl | simp)]
  refine wpAny_bind (miss_list (k0 _ _ hl) hc hdat hd hh fun h1 tk1 hk1 => ?_)
  rw [if_pos (show (none : Option Value).isNone = true from rfl)]
  refine wpAny_bind (wpAny_rule ?_)
  have hl1 : h1.IsList l items := ⟨ol, hk1 _ _ (k0 _ _ hl), hc, n, hdat⟩
  have hS1 : s.heap.objs.size < h1.objs.size := by
    have e : (s.heap.push { cls := .type "dict", data := .dict #[] }).get? s.heap.objs.size = some { cls := .type "dict", data := .dict #[] } := Heap.get?_push_size _ rfl
    exact Heap.lt_size (hk1 _ _ e)
  refine wpAny_bind (wpAny_pyIter_list hl1 ?_)
  have k2 : ∀ b o, h1.get? b = some o → (h1.push { cls := .type "list_iterator", data := .fields #[.ref l, .int 0 0] }).get? b = some o := fun b o e => Heap.get?_push_of_some _ e
  have hlt : l < s.heap.objs.size := Heap.lt_size hl
  have key := upd_go (prog := prog) (w := w) (A := A.in1) (R := wants (fun r s₂ => r = .none ∧ Q (.ref s.heap.objs.size) s₂) E) (S := s.heap.objs.size) (I := h1.objs.size) (l := l) (items := items) (res := Value.none) hu hh
    (Nat.ne_of_lt (Nat.lt_trans hlt hS1)) (Nat.ne_of_lt hS1) (Nat.ne_of_gt hlt) prs 0 0 [] 0 0
    { s with heap := h1.push { cls := .type "list_iterator", data := .fields #[.ref l, .int 0 0] }, toks := tk1 } (by rw [hsz, Nat.zero_add]) (by rw [List.length_nil, Nat.zero_add]; exact hln)
    (fun j q e => by
      obtain ⟨e3, b, e1, e2⟩ := ht j q e
      have hb : b < s.heap.objs.size := e2.lt
      exact ⟨e3.at fun a o vs n z _ => k2 _ _ (hk1 _ _ (k0 _ _ z)), b, by rw [Nat.zero_add]; exact e1, Nat.ne_of_lt hb, Nat.ne_of_lt (Nat.lt_trans hb hS1), e2.keeps fun c o z => k2 _ _ (hk1 _ _ (k0 _ _ z))⟩)
    ⟨_, Heap.get?_push_size _ rfl, rfl, rfl⟩ (hl1.at fun o e => k2 _ _ e) ((hnew.at fun o e => hk1 _ _ e).at fun o e => k2 _ _ e) (fun x hx => by cases hx)
    (fun h' tk ep' hd' k => ⟨rfl, h h' tk ep' hd' fun b o e => k b o (Nat.ne_of_lt (Heap.lt_size e)) (Nat.ne_of_lt (Nat.lt_trans (Heap.lt_size e) hS1)) (k2 _ _ (hk1 _ _ (k0 _ _ e)))⟩)
  first
    | exact wpAny_pure ⟨plainId_quiet ud_plain _, key⟩
    | exact wpAny_bind (wpAny_pure (wpAny_pure ⟨plainId_quiet ud_plain _, key⟩))
end
end Nd

end

section
set_option Elab.async false
set_option linter.all false
set_option maxRecDepth 100000
set_option maxHeartbeats 4000000
namespace Nd
open PySem PySem.Spec
def leaf : NestedKey → Bool
  | .tup _ => false
  | _ => true
theorem byVal {h : Heap} {k : NestedKey} {u : Value} (x : NestedIs h k u) (l : leaf k = true) : carriedByValue u = true := by
  cases x <;> first | rfl | cases l
section
variable {prog : Program} {w : World} {A : Around} {E : Value → Shared → Prop} {s : Shared} {d o : Addr} {ep eo : Nat} {xs : List Ent} {k : NestedKey} {u v : Value}
theorem setH {Q : Unit → Shared → Prop} (hu : A.units + 8 < cLine) (hk : KeyAt s.heap k u) (hm : DV w s.heap d ep xs) (his : ∀ x ∈ xs, KeyAt s.heap x.1 x.2.1) (hz : xs.length ≤ sizeLine)
    (q : ∀ h', DV w h' d (ep + bump xs k) (store xs k u v) → Heap.SameBut d s.heap h' → Q () { s with heap := h' }) : wpAny (model prog w) A (dictSetHashed d u (k.hash w) v) Q E s := by
  obtain ⟨o, es, ho, hc, hd, he, hn⟩ := hm
  unfold dictSetHashed
  try with_reducible refine wpAny_holding ?_
  have sz := ent_sz he
  refine wpAny_bind (find hu hk ho hd he his hn (fun h => ?_) fun j p hj => ?_)
  · have es1 : store xs k u v = xs ++ [(k, u, v)] := by unfold store; rw [look_no h]; rfl
    have eb : bump xs k = 1 := by unfold bump; rw [look_no h]; rfl
    rw [eb] at q
    refine wpAny_bind (wpAny_rule (wpAny_updateDictKeys (hz := by omega) ho hd (q _ ⟨_, _, Heap.get?_update_self _ ho (Obj.isFreed_of_dict (Obj.data_mapDictKeys hd _)),
      hc.mapDictKeys _, Obj.data_mapDictKeys hd _, ?_, ?_⟩ (Heap.SameBut.update ..))))
    · rw [es1]; simp [he, ent]
    · rw [es1, List.map_append, List.nodup_append]
      refine ⟨hn, by simp, fun a ha b hb e => ?_⟩
      simp at hb
      subst hb
      subst e
      obtain ⟨x, hx, e⟩ := List.mem_map.mp ha
      obtain ⟨j, hj⟩ := List.mem_iff_getElem?.mp hx
      exact h j x.2 (by rw [hj, ← e])
  · have es1 : store xs k u v = xs.map (putV k v) := by unfold store; rw [look_at hn hj]; rfl
    have eb : bump xs k = 0 := by unfold bump; rw [look_at hn hj]; rfl
    rw [eb] at q
    refine wpAny_bind (wpAny_rule (wpAny_bind (wpAny_updateDict ho hd (wpAny_point (q _ ⟨_, _, Heap.get?_update_self _ ho (Obj.isFreed_of_dict (Obj.data_mapDict hd _)),
      hc.mapDict _, Obj.data_mapDict hd _, ?_, ?_⟩ (Heap.SameBut.update ..))))))
    · rw [es1]
      have := mod_put (w := w) k v hn hj
      rw [← he] at this
      obtain ⟨l⟩ := es
      simpa using this
    · rw [es1, keys_put]; exact hn
theorem store_fresh {xs : List Ent} {k : NestedKey} {u v : Value} (h : k ∉ xs.map (·.1)) : store xs k u v = xs ++ [(k, u, v)] := by
  unfold store
  rw [look_no fun j p hj => h (List.mem_map.mpr ⟨(k, p), List.mem_of_getElem? hj, rfl⟩)]
  rfl
/-- a dict's entries put into an empty one -/
theorem merge0 {nm : String} {Q : Unit → Shared → Prop} (hu : A.units + 8 < cLine) (his : ∀ x ∈ xs, KeyAt s.heap x.1 x.2.1) (hdo : d ≠ o) (hoS : (o == sysModules) = false) (hd : DV w s.heap d ep []) (ho : DV w s.heap o eo xs) (hl : ∀ x ∈ xs, carriedByValue x.2.1 = true) (hz : xs.length ≤ sizeLine)
    (hQ : ∀ h' ep', DV w h' d ep' xs → Heap.SameBut d s.heap h' → Q () { s with heap := h' }) : wpAny (model prog w) A (Builtin.Dict.mergeDict nm d o) Q E s := by
  obtain ⟨od, esd, hod, hcd, hdd, hed, hnd⟩ := id hd
  obtain ⟨oo, eso, hoo, hco, hdo', heo, hno⟩ := id ho
  have h0 : esd = #[] := by
    have := ent_sz hed
    exact Array.eq_empty_of_size_eq_zero (by simpa using this)
  have hlen : eso.size = xs.length := ent_sz heo
  have hap : ∀ e ∈ eso.toList, KeyApart s eso e := fun e he => by
    rw [heo] at he
    obtain ⟨x, hx, rfl⟩ := List.mem_map.mp he
    exact .inl (hl x hx)
  unfold Builtin.Dict.mergeDict
  rw [if_neg (by simpa using hdo)]
  unfold Builtin.Dict.showsAll
  rw [if_neg (by rw [hoS]; exact Bool.false_ne_true)]
  refine wpAny_bind (wpAny_pure (wpAny_bind (wpAny_dictEntries hoo hdo' ?_)))
  dsimp only
  refine iteW (fun _ => ?_) fun _ => ?_
  rotate_left
  · refine wpAny_bind (wpAny_dictEpoch hoo hdo' (wpAny_bind (wpAny_dictEntries hoo hdo' (wpAny_bind ?_))))
    rw [Std.Legacy.Range.forIn_eq_forIn_range']
    simp only [Std.Legacy.Range.size, Nat.sub_zero, Nat.add_sub_cancel, Nat.div_one]
    refine wpAny_forIn_list _ (fun rest _ s' => ∃ h' i ep', s' = { s with heap := h' } ∧ rest = List.range' i (eso.size - i) ∧ i ≤ eso.size ∧ DV w h' d ep' (xs.take i) ∧ Heap.SameBut d s.heap h') _ ?_ ?_ _ _ ⟨s.heap, 0, ep, rfl, by simp, Nat.zero_le _, by simpa using hd, Heap.SameBut.refl _ _⟩
    · rintro x rest b s' ⟨h', i, ep', rfl, hr, hi, hd', hs'⟩
      have hoo' : h'.get? o = some oo := (hs'.2 o (Ne.symm hdo)).trans hoo
      have hlt : i < eso.size := by
        rcases Nat.lt_or_ge i eso.size with h | h
        · exact h
        · rw [Nat.sub_eq_zero_of_le h] at hr; simp at hr
      obtain ⟨rfl, hrest⟩ : x = i ∧ rest = List.range' (i + 1) (eso.size - (i + 1)) := by
        have e : eso.size - i = (eso.size - (i + 1)) + 1 := by omega
        rw [e, List.range'_succ] at hr
        exact ⟨(List.cons.inj hr).1, (List.cons.inj hr).2⟩
      refine wpAny_bind (wpAny_dictEntries (s := { s with heap := h' }) hoo' hdo' ?_)
      have hx : xs[x]? = some (xs[x]'(by omega)) := List.getElem?_eq_getElem _
      obtain ⟨⟨k, a, v⟩, hkv⟩ : ∃ kv, xs[x]? = some kv := ⟨_, hx⟩
      rw [ent_at heo x, hkv]
      have kin : (k, a, v) ∈ xs := List.mem_of_getElem? hkv
      have kn : k ∉ (xs.take x).map (·.1) := fun hm => by
        obtain ⟨y, hy, ey⟩ := List.mem_map.mp hm
        obtain ⟨j, hj⟩ := List.mem_iff_getElem?.mp hy
        have hjx : j < x := by have := (List.getElem?_eq_some_iff.mp hj).1; rw [List.length_take] at this; omega
        rw [List.getElem?_take_of_lt hjx] at hj
        have := uniq hno (k := k) (p := y.2) (q := (a, v)) (by rw [hj, ← ey]) hkv
        omega
      have up : ∀ {k : NestedKey} {u : Value}, KeyAt s.heap k u → KeyAt h' k u := fun z => z.wr hd hs'
      show wpAny _ _ (holding [a, v] (dictSetHashed d a (k.hash w) v) >>= _) _ _ _
      refine wpAny_bind (wpAny_holding (setH (s := { s with heap := h' }) hu (up (his _ kin)) hd' (fun y hy => up (his y (List.mem_of_mem_take hy))) (by rw [List.length_take]; omega) fun h'' hd'' hs'' => ?_))
      have hoo'' : h''.get? o = some oo := (hs''.2 o (Ne.symm hdo)).trans hoo'
      refine wpAny_bind (wpAny_dictEpoch (s := { s with heap := h'' }) hoo'' hdo' ?_)
      rw [if_neg (by simp)]
      refine wpAny_pure ⟨h'', x + 1, ep' + bump (List.take x xs) k, rfl, hrest, hlt, ?_, hs'.trans hs''⟩
      rw [store_fresh kn] at hd''
      rw [List.take_add_one, hkv]
      exact hd''
    · rintro b s' ⟨h', i, ep', rfl, hr, hi, hd', hs'⟩
      have hin : i = eso.size := by
        rcases Nat.lt_or_ge i eso.size with h | h
        · rw [show eso.size - i = (eso.size - (i + 1)) + 1 by omega, List.range'_succ] at hr; exact nomatch hr
        · exact Nat.le_antisymm hi h
      rw [hin, hlen, List.take_length] at hd'
      exact wpAny_pure (hQ h' ep' hd' hs')
  refine wpAny_bind (wpAny_dictEntries hod hdd ?_)
  rw [if_pos (by rw [h0]; rfl)]
  refine wpAny_bind (wpAny_entriesForEmpty_raw hoo hdo' hap ?_)
  split
  · exact wpAny_bind (wpAny_updateDictKeysTo hod hdd (wpAny_pure (hQ _ (ep + 1) ⟨_, _, Heap.get?_update_self _ hod (Obj.isFreed_of_dict (Obj.data_mapDictKeys hdd _)), hcd.mapDictKeys _, Obj.data_mapDictKeys hdd _, heo, hno⟩ (Heap.SameBut.update ..))) (by omega))
  · rename_i hne
    have e0 : eso = #[] := Array.isEmpty_iff.mp (by simpa using hne)
    have hm0 : xs = [] := List.length_eq_zero_iff.mp (by rw [← hlen, e0]; rfl)
    subst hm0
    exact wpAny_pure (hQ _ ep hd (Heap.SameBut.refl _ _))
/-- dict(o) of a dict -/
theorem of_dict {Q : Value → Shared → Prop} (hu : A.in1.in1.units + 8 < cLine) (his : ∀ x ∈ xs, KeyAt s.heap x.1 x.2.1) (hoS : (o == sysModules) = false) (ho : DV w s.heap o eo xs) (hl : ∀ x ∈ xs, carriedByValue x.2.1 = true) (hz : xs.length ≤ sizeLine)
    (h : ∀ h' ep', DV w h' s.heap.objs.size ep' xs → (∀ b ob, s.heap.get? b = some ob → h'.get? b = some ob) → Q (.ref s.heap.objs.size) { s with heap := h' }) :
    wpAny (model prog w) A (call (.type "dict") [.ref o]) Q E s := by
  have lo : o < s.heap.objs.size := by obtain ⟨oo, _, hoo, _⟩ := ho; exact Heap.lt_size hoo
  refine callType_codes (Q₁ := fun obj s₁ => obj = .ref s.heap.objs.size ∧ s₁ = { s with heap := s.heap.push { cls := .type "dict", data := .dict #[] } }) PySem.F.kt_called_dict (PySem.F.kt_typeCall_dict_1 _) PySem.F.entry_dict_init (kt_code_dict_new _ ⟨rfl, rfl⟩) ?_
  rintro obj s₁ ⟨rfl, rfl⟩
  have hnew : DV w (s.heap.push { cls := .type "dict", data := .dict #[] }) s.heap.objs.size 0 [] := new s.heap
  have hty := DV.ty (s := { s with heap := s.heap.push { cls := .type "dict", data := .dict #[] } }) hnew
  have ho1 : DV w (s.heap.push { cls := .type "dict", data := .dict #[] }) o eo xs := ho.at fun ob e => Heap.get?_push_of_some _ e
  have hty1 := DV.ty (s := { s with heap := s.heap.push { cls := .type "dict", data := .dict #[] } }) ho1
  refine ⟨hty, PySem.F.args_dict_init_2 _ _, ?_⟩
  unfold Builtin.«dict.__init__»
  refine wpAny_bind ?_
  unfold Builtin.Dict.selfAndRest
  refine wpAny_bind (wpAny_notOrdered_dict hty ?_)
  show wpAny _ _ (pure (s.heap.objs.size, [Value.ref o])) _ _ _
  refine wpAny_pure ?_
  show wpAny _ _ (Builtin.Dict.updateFrom "dict.__init__" s.heap.objs.size (.ref o) [] .none) _ _ _
  unfold Builtin.Dict.updateFrom
  refine wpAny_bind (wpAny_typeOf hty1 ?_)
  rw [if_neg (by decide)]
  refine wpAny_bind ?_
  unfold Builtin.Dict.merge
  refine wpAny_bind ?_
  unfold Builtin.Dict.readDirectly
  refine wpAny_bind (wpAny_isInstance hty1 isSubtype_dict_dict ?_)
  simp only [Bool.not_true, Bool.false_eq_true, if_false]
  refine wpAny_bind (wpAny_specialOf hty1 F.slot_dict_iter.lookup (wpAny_pure ?_))
  simp only [beq_self_eq_true, if_true]
  refine wpAny_bind (wpAny_pure (merge0 hu (fun x hx => (his x hx).at fun a ob vs n e _ => Heap.get?_push_of_some _ e) (Nat.ne_of_gt lo) hoS hnew ho1 hl hz fun h' ep' hd' hs' => ?_))
  show wpAny _ _ (Builtin.Dict.addKeywords s.heap.objs.size [] >>= _) _ _ _
  exact wpAny_bind (wpAny_pure (wpAny_pure ⟨rfl, h h' ep' hd' fun b ob e => (hs'.2 b (Nat.ne_of_lt (Heap.lt_size e))).trans (Heap.get?_push_of_some _ e)⟩))
theorem pop_ {more : List Value} {Q : Value → Shared → Prop} (hmore : more = [] ∨ ∃ x, more = [x]) (hu : A.in1.units + 8 < cLine) (hk : KeyAt s.heap k u) (hd : (d == sysModules) = false) (hm : DV w s.heap d ep xs) (his : ∀ x ∈ xs, KeyAt s.heap x.1 x.2.1) (hz : xs.length ≤ sizeLine)
    (h1 : ∀ v, look xs k = some v → ∀ h' tk, DV w h' d (ep + 1) (drop xs k) → Heap.SameBut d s.heap h' → Q v { s with heap := h', toks := tk })
    (h2 : look xs k = none → ∃ df, more = [df] ∧ ∀ tk, Q df { s with toks := tk }) : wpAny (model prog w) A (call (.builtin "dict.pop") (.ref d :: u :: more)) Q E s := by
  have hargs : argsOk "dict.pop" ⟨.ref d :: u :: more, []⟩ := by
    rcases hmore with rfl | ⟨x, rfl⟩
    · exact F.args_dict_pop_2 _ _
    · exact F.args_dict_pop_3 _ _ _
  have take : ∀ (R : Option DictEntry → Shared → Prop) (E' : Value → Shared → Prop), (look xs k = none → R none { s with toks := s.toks + k.draws }) →
      (∀ e, look xs k = some e.val → ∀ h', DV w h' d (ep + 1) (drop xs k) → Heap.SameBut d s.heap h' → R (some e) { s with heap := h', toks := s.toks + k.draws }) →
      wpAny (model prog w) A.in1 (Builtin.Dict.takeOut d u) R E' s := fun R E' r0 r1 => by
    obtain ⟨o, es, ho, hc, hdat, he, hn⟩ := id hm
    unfold Builtin.Dict.takeOut
    try with_reducible refine wpAny_holding ?_
    refine wpAny_bind (pyHash_key k u A.in1 s _ hk.1 (by have := hk.2; omega) (wpAny_bind (find (s := { s with toks := s.toks + k.draws }) hu hk ho hdat he his hn (fun h => ?_) fun j p hj => ?_)))
    · exact wpAny_pure (r0 (look_no h))
    · refine wpAny_bind (wpAny_dictEntries (s := { s with toks := s.toks + k.draws }) ho hdat ?_)
      rw [ent_at he j, hj]
      refine wpAny_bind (wpAny_updateDictKeys (hz := by have e := ent_sz he; omega) (s := { s with toks := s.toks + k.draws }) ho hdat (wpAny_pure (r1 _ (look_at hn hj) _ ⟨_, _, Heap.get?_update_self _ ho (Obj.isFreed_of_dict (Obj.data_mapDictKeys hdat _)),
        hc.mapDictKeys _, Obj.data_mapDictKeys hdat _, ?_, drop_nd hn⟩ (Heap.SameBut.update ..))))
      rw [← erase_drop hn hj, map_eraseIdx, ← he]
      obtain ⟨l⟩ := es
      simp
  refine wpAny_call_entry F.slot_dict_pop hm.ty F.entry_dict_pop ?_ hargs
  unfold Builtin.«dict.pop»
  refine wpAny_bind ?_
  unfold Builtin.Dict.keyAndDefault
  refine wpAny_bind (wpAny_notOrdered_dict hm.ty ?_)
  obtain ⟨o, es, ho, hc, hdat, he, hn⟩ := id hm
  have emp : es.isEmpty = true → look xs k = none := fun e => by
    have h0 : es.size = 0 := by simpa using e
    have hx : xs = [] := List.length_eq_zero_iff.mp (by have := ent_sz he; omega)
    rw [hx]; rfl
  rcases hmore with rfl | ⟨df, rfl⟩
  · show wpAny _ _ (pure (d, u, none)) _ _ s
    refine wpAny_pure ?_
    have nn : look xs k ≠ none := fun h => by obtain ⟨_, e, _⟩ := h2 h; cases e
    have fin : wpAny (model prog w) A.in1 (Builtin.Dict.takeOut d u) (fun old s1 => ∃ e h', old = some e ∧ look xs k = some e.val ∧ s1 = { s with heap := h', toks := s.toks + k.draws } ∧ DV w h' d (ep + 1) (drop xs k) ∧ Heap.SameBut d s.heap h') (fun _ _ => False) s :=
      take _ _ (fun h => absurd h nn) fun e he h' a b => ⟨e, h', rfl, he, rfl, a, b⟩
    refine iteW (fun _ => wpAny_bind (wpAny_pure ?_)) fun _ => wpAny_bind (wpAny_dictEntries ho hdat (wpAny_bind (wpAny_pure ?_)))
    · refine iteW (fun h => by cases h) fun _ => wpAny_bind (wpAny_mono fin (fun old s1 ⟨e, h', eo, he, es1, a, b⟩ => ?_) fun _ _ x => x.elim)
      subst eo es1
      dsimp only
      refine iteW (fun h => by cases h) fun _ => ?_
      exact wpAny_bind (wpAny_letGo (wpAny_pure ⟨e.val, rfl, h1 _ he h' _ a b⟩))
    · refine iteW (fun h => absurd (emp h) nn) fun _ => wpAny_bind (wpAny_mono fin (fun old s1 ⟨e, h', eo, he, es1, a, b⟩ => ?_) fun _ _ x => x.elim)
      subst eo es1
      dsimp only
      refine iteW (fun h => by cases h) fun _ => ?_
      exact wpAny_bind (wpAny_letGo (wpAny_pure ⟨e.val, rfl, h1 _ he h' _ a b⟩))
  · show wpAny _ _ (pure (d, u, some df)) _ _ s
    refine wpAny_pure ?_
    have nn : look xs k = none → ∀ tk, Q df { s with toks := tk } := fun h => by obtain ⟨_, e, q⟩ := h2 h; cases e; exact q
    have fin : wpAny (model prog w) A.in1 (Builtin.Dict.takeOut d u) (fun old s1 => (old = none ∧ look xs k = none ∧ s1 = { s with toks := s.toks + k.draws }) ∨ ∃ e h', old = some e ∧ look xs k = some e.val ∧ s1 = { s with heap := h', toks := s.toks + k.draws } ∧ DV w h' d (ep + 1) (drop xs k) ∧ Heap.SameBut d s.heap h') (fun _ _ => False) s :=
      take _ _ (fun h => .inl ⟨rfl, h, rfl⟩) fun e he h' a b => .inr ⟨e, h', rfl, he, rfl, a, b⟩
    refine iteW (fun _ => wpAny_bind (wpAny_pure ?_)) fun _ => wpAny_bind (wpAny_dictEntries ho hdat (wpAny_bind (wpAny_pure ?_)))
    · refine iteW (fun h => by cases h) fun _ => wpAny_bind (wpAny_mono fin (fun old s1 h => ?_) fun _ _ x => x.elim)
      rcases h with ⟨eo, hn, es1⟩ | ⟨e, h', eo, he, es1, a, b⟩
      · subst eo es1
        dsimp only
        refine iteW (fun _ => ?_) fun h => absurd rfl h
        exact wpAny_bind (wpAny_missedRemoval_other hd (wpAny_bind (wpAny_rule (wpAny_pure ⟨df, rfl, nn hn _⟩))))
      · subst eo es1
        dsimp only
        refine iteW (fun h => by cases h) fun _ => ?_
        exact wpAny_bind (wpAny_letGo (wpAny_pure ⟨e.val, rfl, h1 _ he h' _ a b⟩))
    · refine iteW (fun h => ?_) fun _ => wpAny_bind (wpAny_mono fin (fun old s1 h => ?_) fun _ _ x => x.elim)
      · refine wpAny_bind (wpAny_rule (wpAny_bind (wpAny_pure ?_)))
        dsimp only
        refine iteW (fun _ => ?_) fun h => absurd rfl h
        exact wpAny_bind (wpAny_missedRemoval_other hd (wpAny_bind (wpAny_rule (wpAny_pure ⟨df, rfl, nn (emp h) s.toks⟩))))
      rcases h with ⟨eo, hn, es1⟩ | ⟨e, h', eo, he, es1, a, b⟩
      · subst eo es1
        dsimp only
        refine iteW (fun _ => ?_) fun h => absurd rfl h
        exact wpAny_bind (wpAny_missedRemoval_other hd (wpAny_bind (wpAny_rule (wpAny_pure ⟨df, rfl, nn hn _⟩))))
      · subst eo es1
        dsimp only
        refine iteW (fun h => by cases h) fun _ => ?_
        exact wpAny_bind (wpAny_letGo (wpAny_pure ⟨e.val, rfl, h1 _ he h' _ a b⟩))
end
end Nd

end

section
set_option Elab.async false
set_option linter.all false
set_option maxRecDepth 100000
set_option maxHeartbeats 4000000
/-! defs whose promise may lean on there being no guard around (repr) -/
namespace Fg
open PySem PySem.Spec PyProof.Rows L2
structure FnG (P : Program) (w : World) (K : PySem.W.Frag) (mg : Str → Option Value) (base : Heap) (CX : CXT) (k : Nat) (f : Addr) (fd : FuncData) (ps : List Str) (sp : Sp) : Prop where
  len : ∀ vs H Q E, sp vs H Q E → vs.length = ps.length
  run : ∀ (A : Around) (outer : List Env) (s : Shared) (H : Hp) (args : Args) (us : List Value) (vs : List V) (Q : VK) (E : XK), Room k A → A.guards = some [] → Env0 P w K mg base A outer s H → BindsTo s fd args (ps.zip us) → Vals vs us → sp vs H Q E →
    codeAny (model P w) A (.call (.ref f) args) (CR CX outer P w H s Q E) s
section
variable {P : Program} {w : World} {K : PySem.W.Frag} {mg : Str → Option Value} {base : Heap} {CX : CXT} {f : Addr} {fd : FuncData} {ps : List Str} {sp sp' : Sp}
theorem FnG.imp {k : Nat} (F : FnG P w K mg base CX k f fd ps sp) (h : ∀ vs H Q E, sp' vs H Q E → sp vs H Q E) : FnG P w K mg base CX k f fd ps sp' :=
  ⟨fun vs H Q E q => F.len vs H Q E (h _ _ _ _ q), fun A outer s H args us vs Q E hr hg he hb hv hs => F.run A outer s H args us vs Q E hr hg he hb hv (h _ _ _ _ hs)⟩
theorem guards_deeper {A : Around} {env : Env} (h : A.guards = some []) : (A.deeper env).guards = some [] := h
theorem guards_make {A : Around} {args : Args} (h : A.guards = some []) : (A.under (.builtin "type.__call__" args)).guards = some [] := by
  have e : (Code.builtin "type.__call__" args).guards = [] := by
    simp [Code.guards, Code.isGuard]
    try decide
  show pushGuards (Code.builtin "type.__call__" args).guards A.guards = _
  rw [e, h]
  rfl
end
/-- a def by its body -/
theorem fnG_of {CX : CXT} {P : Program} {w : World} {K : PySem.W.Frag} {mg : Str → Option Value} {base : Heap} {k : Nat} {f : Addr} {name qual : Str} {params : Arguments} {body : List Stmt} {scope : Scope} {dV kV doc pm cdv ct oc : Value} {an od : Option Addr}
    {osl : Array (Option Value)} {N ps : List Str} {sp : Sp} (lk : K.lookup f = some ⟨oc, od, .func (PySem.W.fnOf name qual params body scope dV kV doc pm an cdv ct), osl⟩) (hcd : PySem.W.codeIn K cdv qual = true) (S : FnScope N ps scope)
    (len : ∀ vs H Q E, sp vs H Q E → vs.length = ps.length)
    (walk : ∀ (A : Around) (outer : List Env) (s : Shared) (H : Hp) (vs : List V) (Q : VK) (E : XK), Room k (A.deeper (envOfC qual scope s.heap.objs.size f cdv)) → A.guards = some [] → sp vs H Q E →
      ∃ t, PSs (cxOf CX P w K mg base N qual scope f cdv A outer s H E) body t ∧ t { nx := fun _ H' => Q .non H', rt := Q } (start N vs) H) :
    FnG P w K mg base CX (k + 1) f (PySem.W.fnOf name qual params body scope dV kV doc pm an cdv ct) ps sp := by
  refine ⟨len, fun A outer s H args us vs Q E hr hgd e0 hb r hsp => ?_⟩
  have llen := len _ _ _ _ hsp
  have kin : K.In s.heap := e0.mod.kin.keeps fun b o e => (e0.bs b o e).1
  have nolim : s.heap.NoLimit := e0.mod.nolimit.keeps fun b o e => (e0.bs b o e).1
  have kinds : ∀ y ∈ ps.zip us, scope.names.lookup y.1 = some .local ∨ (scope.names.lookup y.1 = some .cell ∧ ((cellsFrom (s.heap.objs.size + 1) scope.names []).lookup y.1).isSome = true) := fun ⟨n, v⟩ hy => by
    rcases S.par n (List.of_mem_zip hy).1 with q | q
    · exact .inl q
    · exact .inr ⟨q, PySem.W.cellsFrom_some _ _ _ (.inl q)⟩
  refine codeAny_call_function hr.depth (kin _ _ lk) rfl S.co S.gen rfl (PySem.W.codeRec_of kin hcd) (hb _ _ _ _ (wpAny_newFunctionEnv_cells S.kind kinds fun env he s1 x => ?_))
  subst he
  refine ⟨nolim.keeps x.toInCall.keep, codeAny_func ?_⟩
  obtain ⟨t, ht, hq⟩ := walk A outer s H vs Q E (hr.deeper _) hgd hsp
  have inv : Inv (cxOf CX P w K mg base N qual scope f cdv A outer s H E) [] (start N vs) H s1 := inv_start S hr.hd e0 llen r x
  refine wpAny_mono (ht.run [] s1 (start N vs) H _ inv hq) (fun fl s' hs => ?_) fun e s' hs => hs
  cases fl with
  | ret u =>
    obtain ⟨v, σ', H', J, rv, q⟩ := hs
    exact ⟨v, H', J.os, J.bare, J.base, J.hok, rv, q⟩
  | next =>
    obtain ⟨σ', H', J, q⟩ := hs
    exact ⟨V.non, H', J.os, J.bare, J.base, J.hok, (rfl : RelV V.non Value.none), q⟩
  | brk => obtain ⟨_, _, _, q⟩ := hs; exact q.elim
  | cont => obtain ⟨_, _, _, q⟩ := hs; exact q.elim
theorem funG {P : Program} {w : World} {K : PySem.W.Frag} {mg : Str → Option Value} {base : Heap} {x qual : Str} {st : Stmt} {f : Addr} {fd : FuncData} {N ps : List Str} {k : Nat} {sp : Sp} (F : Fun K x qual st f fd) (S : FnScope N ps (defScope st)) (len : ∀ vs H Q E, sp vs H Q E → vs.length = ps.length)
    (walk : ∀ (cdv : Value) (A : Around) (outer : List Env) (s : Shared) (H : Hp) (vs : List V) (Q : VK) (E : XK), Room k (A.deeper (envOfC qual (defScope st) s.heap.objs.size f cdv)) → A.guards = some [] → sp vs H Q E →
      ∃ t, PSs (cxOf (L2.CX P w) P w K mg base N qual (defScope st) f cdv A outer s H E) (defBody st) t ∧ t { nx := fun _ H' => Q .non H', rt := Q } (start N vs) H) : FnG P w K mg base (L2.CX P w) (k + 1) f fd ps sp := by
  obtain ⟨oc, od, kV, doc, pm, an, cdv, ct, osl, rfl, lk, hcd⟩ := F.ex
  exact fnG_of lk hcd S len fun A outer s H vs Q E hr hg hsp => walk cdv A outer s H vs Q E hr hg hsp
/-! ### calls -/
section
variable {X : Cx} {CX : CXT} {k : Nat} {f C : Addr} {fd : FuncData} {ps : List Str} {sp : Sp} {dvs : List V} {ds : List Value} {V' : L2.St → XK} {x m : Str} {p pos apos : Pos} {e o : Expr} {es : List Expr} {t : TA} {ta : TE}
theorem run_g {pins : List (Addr × Obj)} {σ : L2.St} {H : Hp} {s : Shared} {Q : VK} {us : List Value} {vs : List V} (F : FnG X.prog X.w X.K X.mg X.base CX k f fd ps sp) (hr : Room k X.A) (hgd : X.A.guards = some []) (hb : Binds X.K fd ps ds) (hd : Vals dvs ds) (hx : PassesAt CX X σ (V' σ))
    (I : Inv X pins σ H s) (r : Vals vs us) (h : sp (vs ++ dvs) H Q (V' σ)) : wpAny (model X.prog X.w) X.A (call (.ref f) us) (EP X pins σ Q) X.xe s := by
  have rr : Vals (vs ++ dvs) (us ++ ds) := r.append hd
  have hl : (us ++ ds).length = ps.length := by rw [← rr.length]; exact F.len _ _ _ _ h
  refine wpAny_call (codeAny_mono (F.run X.A X.stack s H ⟨us, []⟩ (us ++ ds) (vs ++ dvs) Q (V' σ) hr hgd I.env0 (hb s us I.kIn hl) rr h) fun r s' hq => ?_)
  cases r with
  | error e => exact hx pins H s e s' I hq
  | ok fl => cases fl with
    | ret u => exact I.after hq
    | _ => exact hq.elim
theorem callG (F : FnG X.prog X.w X.K X.mg X.base CX k f fd ps sp) (hr : Room k X.A) (hgd : X.A.guards = some []) (hg : Gl X x) (hm : X.mg x = some (.ref f)) (hk : PySem.W.keepIn X.K (.ref f) = true) (hb : Binds X.K fd ps ds) (hd : Vals dvs ds) (hx : ∀ σ, PassesAt CX X σ (V' σ))
    (ha : PA X (e :: es) t) (hdb : (x == ("__debug__" : Str)) = false) (he : starEach (e :: es) X.env = (false, eval e X.env) :: starEach es X.env) (hpl : (backTo pos (starEach es X.env)).any (·.1) = false) :
    PE X (.Call (.Name x p) (e :: es) [] pos) (tCallSD sp dvs V' t) :=
  ⟨fun pins s σ H Q I h => wpAny_Call_Name_kw (ld_glob I hg hm (PySem.W.callWith_K (h₀ := X.base) I.ok.mod.kin hk (thn (ha.run pos pins s σ H _ I h) fun us s1 ⟨vs, H1, I1, r, q⟩ => ⟨I1.kIn, run_g F hr hgd hb hd (hx σ) I1 r q⟩) he hpl) hdb)⟩
theorem callG0 (F : FnG X.prog X.w X.K X.mg X.base CX k f fd ps sp) (hr : Room k X.A) (hgd : X.A.guards = some []) (hg : Gl X x) (hm : X.mg x = some (.ref f)) (hk : PySem.W.keepIn X.K (.ref f) = true) (hb : Binds X.K fd ps ds) (hd : Vals dvs ds) (hx : ∀ σ, PassesAt CX X σ (V' σ))
    (hdb : (x == ("__debug__" : Str)) = false) : PE X (.Call (.Name x p) [] [] pos) (tCallSD sp dvs V' tNil) :=
  ⟨fun pins s σ H Q I h => wpAny_Call_Name_kw (ld_glob I hg hm (PySem.W.callWith_K0 I.kIn hk (run_g (us := []) F hr hgd hb hd (hx σ) I .nil h)) hdb)⟩
/-- o.m(..) -/
def tMethG (C : Addr) (m : Str) (sp : Sp) (dvs : List V) (V' : L2.St → XK) (ta : TE) (t : TA) : TE := fun σ H Q => ta σ H fun x H1 => ∃ a dx fs, x = .ref a ∧ H1 a = some (.ins C dx fs) ∧ fs.lookup m = none ∧ t σ H1 fun vs H2 => sp (x :: (vs ++ dvs)) H2 Q (V' σ)
theorem methG {pl : Sem Bool} (he : PE X o ta) (c : Cls X.K C) (hm : Meth X.K C m f) (F : FnG X.prog X.w X.K X.mg X.base CX k f fd ps sp) (hr : Room k X.A) (hgd : X.A.guards = some []) (hb : Binds X.K fd ps ds) (hd : Vals dvs ds) (hx : ∀ σ, PassesAt CX X σ (V' σ)) (ha : PA X (e :: es) t)
    (hst : starEach (e :: es) X.env = (false, eval e X.env) :: starEach es X.env) (hpl : (backTo pos (starEach es X.env)).any (·.1) = false)
    (ht : eval (.Call (.Attribute o m apos) (e :: es) [] pos) X.env = (do
      let ov ← eval o X.env
      standAt apos.atName
      let (f, first) ← holding [ov] (getMethod ov m pl)
      callWith pos f first (backTo pos (starEach (e :: es) X.env)) (backToKw pos (keywordEach [] X.env)))) :
    PE X (.Call (.Attribute o m apos) (e :: es) [] pos) (tMethG C m sp dvs V' ta t) := by
  refine ⟨fun pins s σ H Q I h => PySem.W.methodCall_KW (pl := pl) (thn (he.run pins s σ H _ I h) fun u s1 ⟨x, H1, I1, rx, a, dx, fs, ex, ea, l, q⟩ => ?_) ht⟩
  subst ex
  obtain rfl : u = Value.ref a := rx
  refine getmeth_ok I1 ea c hm l (PySem.W.callWith_K (first := [.ref a]) (h₀ := X.base) I.ok.mod.kin hm.kp (thn (ha.run pos pins s1 σ H1 _ I1 q) fun us s2 ⟨vs, H2, I2, r, q2⟩ => ⟨I2.kIn, ?_⟩) hst hpl)
  exact run_g (us := .ref a :: us) (vs := .ref a :: vs) F hr hgd hb hd (hx σ) I2 (.cons rfl r) q2
theorem methG0 {pl : Sem Bool} (he : PE X o ta) (c : Cls X.K C) (hm : Meth X.K C m f) (F : FnG X.prog X.w X.K X.mg X.base CX k f fd ps sp) (hr : Room k X.A) (hgd : X.A.guards = some []) (hb : Binds X.K fd ps ds) (hd : Vals dvs ds) (hx : ∀ σ, PassesAt CX X σ (V' σ))
    (ht : eval (.Call (.Attribute o m apos) [] [] pos) X.env = (do
      let ov ← eval o X.env
      standAt apos.atName
      let (f, first) ← holding [ov] (getMethod ov m pl)
      callWith pos f first (backTo pos (starEach [] X.env)) (backToKw pos (keywordEach [] X.env)))) :
    PE X (.Call (.Attribute o m apos) [] [] pos) (tMethG C m sp dvs V' ta tNil) := by
  refine ⟨fun pins s σ H Q I h => PySem.W.methodCall_KW (pl := pl) (thn (he.run pins s σ H _ I h) fun u s1 ⟨x, H1, I1, rx, a, dx, fs, ex, ea, l, q⟩ => ?_) ht⟩
  subst ex
  obtain rfl : u = Value.ref a := rx
  exact getmeth_ok I1 ea c hm l (PySem.W.callWith_K0 (first := [.ref a]) I1.kIn hm.kp (run_g (us := [.ref a]) (vs := [.ref a]) F hr hgd hb hd (hx σ) I1 (.cons rfl .nil) q))
/-- C(..) -/
def tMakeG (C : Addr) (sp : Sp) (dvs : List V) (V' : L2.St → XK) (t : TA) : TE := fun σ H Q => t σ H fun vs H1 => ∀ x dx, H1 x = none → H1 dx = none → dx ≠ x →
  sp (.ref x :: (vs ++ dvs)) (upd (upd H1 dx (.own x)) x (.ins C dx [])) (fun v H2 => v = .non ∧ Q (.ref x) H2) (V' σ)
theorem run_mkG {pins : List (Addr × Obj)} {σ : L2.St} {H : Hp} {s : Shared} {Q : VK} {us : List Value} {vs : List V} (M : Mk X.K C f) (F : FnG X.prog X.w X.K X.mg X.base CX k f fd ps sp) (hr : Room (k + 1) X.A) (hgd : X.A.guards = some []) (hb : Binds X.K fd ps ds) (hd : Vals dvs ds)
    (hx : PassesAt CX X σ (V' σ)) (I : Inv X pins σ H s) (r : Vals vs us)
    (h : ∀ x dx, H x = none → H dx = none → dx ≠ x → sp (.ref x :: (vs ++ dvs)) (upd (upd H dx (.own x)) x (.ins C dx [])) (fun v H2 => v = .non ∧ Q (.ref x) H2) (V' σ)) :
    wpAny (model X.prog X.w) X.A (call (.ref C) us) (EP X pins σ Q) X.xe s := by
  have hq := h (s.heap.objs.size + 1) s.heap.objs.size (I.hok.fresh (Nat.le_succ _)) (I.hok.fresh (Nat.le_refl _)) (Nat.ne_of_lt (Nat.lt_succ_self _))
  have J := Inv.made (C := C) I
  have rr : Vals (V.ref (s.heap.objs.size + 1) :: (vs ++ dvs)) (Value.ref (s.heap.objs.size + 1) :: (us ++ ds)) := .cons rfl (r.append hd)
  have hl : (Value.ref (s.heap.objs.size + 1) :: us ++ ds).length = ps.length := (rr.length.symm.trans (F.len _ _ _ _ hq))
  refine wpAny_call (make_map (f := f) I.kIn M.makes M.init (beq_iff_eq.mp M.fn) (codeAny_mono (F.run _ X.stack _ _ ⟨Value.ref (s.heap.objs.size + 1) :: us, []⟩ (Value.ref (s.heap.objs.size + 1) :: (us ++ ds)) _ _ (V' σ) (hr.make C us []) (guards_make hgd)
    (J.env0.make C us []) (hb _ (Value.ref (s.heap.objs.size + 1) :: us) J.kIn hl) rr hq) fun r s' hq' => ?_))
  cases r with
  | error e => exact hx pins _ _ e s' J hq'
  | ok fl => cases fl with
    | ret u =>
      obtain ⟨v, H', I3, rv, ev, q3⟩ := J.after hq'
      subst ev
      exact ⟨rv, ⟨V.ref (s.heap.objs.size + 1), H', I3, rfl, q3⟩⟩
    | _ => exact hq'.elim
theorem makeG (M : Mk X.K C f) (F : FnG X.prog X.w X.K X.mg X.base CX k f fd ps sp) (hr : Room (k + 1) X.A) (hgd : X.A.guards = some []) (hg : Gl X x) (hm : X.mg x = some (.ref C)) (hb : Binds X.K fd ps ds) (hd : Vals dvs ds) (hx : ∀ σ, PassesAt CX X σ (V' σ))
    (ha : PA X (e :: es) t) (hdb : (x == ("__debug__" : Str)) = false) (he : starEach (e :: es) X.env = (false, eval e X.env) :: starEach es X.env) (hpl : (backTo pos (starEach es X.env)).any (·.1) = false) :
    PE X (.Call (.Name x p) (e :: es) [] pos) (tMakeG C sp dvs V' t) :=
  ⟨fun pins s σ H Q I h => wpAny_Call_Name_kw (ld_glob I hg hm (PySem.W.callWith_K (h₀ := X.base) I.ok.mod.kin M.kp (thn (ha.run pos pins s σ H _ I h) fun us s1 ⟨vs, H1, I1, r, q⟩ => ⟨I1.kIn, run_mkG M F hr hgd hb hd (hx σ) I1 r q⟩) he hpl) hdb)⟩
theorem makeG0 (M : Mk X.K C f) (F : FnG X.prog X.w X.K X.mg X.base CX k f fd ps sp) (hr : Room (k + 1) X.A) (hgd : X.A.guards = some []) (hg : Gl X x) (hm : X.mg x = some (.ref C)) (hb : Binds X.K fd ps ds) (hd : Vals dvs ds) (hx : ∀ σ, PassesAt CX X σ (V' σ))
    (hdb : (x == ("__debug__" : Str)) = false) : PE X (.Call (.Name x p) [] [] pos) (tMakeG C sp dvs V' tNil) :=
  ⟨fun pins s σ H Q I h => wpAny_Call_Name_kw (ld_glob I hg hm (PySem.W.callWith_K0 I.kIn M.kp (run_mkG (us := []) M F hr hgd hb hd (hx σ) I .nil h)) hdb)⟩
end
/-! ### the end of a law row -/
theorem law_g {P : Program} {w : World} {K : PySem.W.Frag} {mg mb : Str → Option Value} {CX : CXT} {k : Nat} {fa a : Addr} {fd : FuncData} {x : Str} {sp : Sp} {s₁ : Shared} {vs : List Value} {ns : List Int}
    (KX : K.In s₁.heap) (hns : s₁.heap.Ns mainGlobals mg) (hb : s₁.heap.Ns builtinsNs mb) (hbb : ∀ x : Str, x ≠ "__name__" → mb x = bootBuiltins x) (hlim : s₁.heap.NoLimit) (hg : s₁.gens = #[])
    (ha : s₁.heap.get? a = some { cls := .type "list", data := .seq vs.toArray }) (hi : IntsAre vs ns) (hl : ns.length ≤ sizeLine) (hr : Room k callerA)
    (F : ∀ base : Heap, K.In base → base.Ns mainGlobals mg → FnG P w K mg base CX k fa fd [x] sp) (hbind : ∀ (s : Shared) (u : Value), BindsTo s fd ⟨[u], []⟩ [(x, u)])
    (hsp : ∀ H : Hp, Only H → SqL K H a (ns.map V.int) → sp [.ref a] H (fun v _ => v = .bl true) fun _ _ _ => False)
    (hCX : ∀ H e s', CX [] H s₁ (fun _ _ _ => False) e s' → False) :
    codeAny (model P w) callerA (.call (.ref fa) ⟨[.ref a], []⟩) (fun r s' => r = .ok (.ret (.bool true)) ∧ OldK s₁.heap s'.heap ∧ s'.os = s₁.os ∧ AllBare s'.gens) s₁ := by
  have rels := vals_ints hi
  have nlen := hi.length
  have main : ∀ H : Hp, Only H → SqL K H a (ns.map V.int) → HOk P w H s₁.heap → (∀ b, H b ≠ none → b = a) → (H a ≠ none → K.lookup a = none) →
      codeAny (model P w) callerA (.call (.ref fa) ⟨[.ref a], []⟩) (fun r s' => r = .ok (.ret (.bool true)) ∧ OldK s₁.heap s'.heap ∧ s'.os = s₁.os ∧ AllBare s'.gens) s₁ := by
    intro H hO hS hok hA hK
    have dicts : ∀ {b : Addr} {o : Obj} {es : Array DictEntry} {ep : Nat}, s₁.heap.get? b = some o → o.data = .dict es ep → H b = none := fun {b o es ep} e d => by
      cases q : H b with
      | none => rfl
      | some u =>
        obtain rfl : b = a := hA b (by rw [q]; simp)
        rw [ha] at e; cases e
        have d' : Data.seq vs.toArray _ = Data.dict es ep := d
        cases d'
    have spaces : ∀ {b : Addr} {m : Str → Option Value}, s₁.heap.Ns b m → (hidT s₁.heap H).Ns b m := fun {b m} ⟨o, es, ep, e, d, r⟩ => ⟨o, es, ep, hidT_get e (dicts e d), d, r⟩
    have kin : K.In (hidT s₁.heap H) := fun b o e => hidT_get (KX b o e) (by
      cases q : H b with
      | none => rfl
      | some u =>
        obtain rfl : b = a := hA b (by rw [q]; simp)
        rw [hK (by rw [q]; simp)] at e; cases e)
    have md : Mod K mg (hidT s₁.heap H) := ⟨kin, spaces hns, ⟨mb, spaces hb, hbb⟩, let ⟨mc, h1, h2⟩ := hlim; ⟨mc, spaces h1, h2⟩⟩
    have e0 : Env0 P w K mg (hidT s₁.heap H) callerA [] s₁ H := ⟨rfl, md, fun b o e => of_hidT e, Nat.le_of_eq (hidT_size _ _), trivial, fun b hb => absurd (show b ∈ ([] : List Addr) from hb) (by simp), hok, .of_eq hg⟩
    refine codeAny_mono ((F _ kin (spaces hns)).run callerA [] s₁ H ⟨[.ref a], []⟩ [.ref a] [.ref a] _ _ hr rfl e0 (hbind s₁ (.ref a)) (.cons rfl .nil) (hsp H hO hS)) fun r s' h => ?_
    cases r with
    | error e => exact (hCX H e s' h).elim
    | ok fl => cases fl with
      | ret u =>
        obtain ⟨v, H', os, bare, un, hok', r', q⟩ := h
        obtain rfl : v = .bl true := q
        obtain rfl : u = Value.bool true := r'
        refine ⟨rfl, OldK.of_keep fun b o e => ?_, os, bare⟩
        cases q : H b with
        | none => exact un.keep b o e q (fun z => absurd (show b ∈ ([] : List Addr) from z) (by simp)) (by simp)
        | some u =>
          rcases hO b with z | ⟨ob, xs, z⟩
          · rw [q] at z; cases z
          · obtain ⟨e1, _⟩ := hok b _ z
            obtain ⟨e2, _⟩ := hok' b _ (un.frzs b ob _ z)
            rw [e] at e1; cases e1
            exact e2
      | _ => exact h.elim
  cases hk : K.lookup a with
  | some o =>
    have e := KX a o hk
    rw [ha] at e
    cases e
    refine main (fun _ => none) (fun _ => .inl rfl) (.inr ⟨_, vs.toArray, _, hk, rfl, rfl, rfl, by rw [List.size_toArray, nlen]; exact hl, by simpa using rels⟩) (fun b u z => ?_) (fun b z => absurd rfl z) fun z => absurd rfl z
    have z' : (none : Option HO) = some u := z
    cases z'
  | none =>
    let sc : HO := .frz { cls := .type "list", data := .seq vs.toArray } (.lst (ns.map V.int))
    have there : (fun b => if b = a then some sc else none : Hp) a = some sc := if_pos rfl
    refine main (fun b => if b = a then some sc else none) (fun b => ?_) (.inl (.inr ⟨{ cls := .type "list", data := .seq vs.toArray }, there⟩)) (fun b u z => ?_) (fun b z => ?_) fun _ => hk
    · by_cases e : b = a
      · exact .inr ⟨_, _, if_pos e⟩
      · exact .inl (if_neg e)
    · by_cases e : b = a
      · cases (if_pos e).symm.trans z
        subst e
        exact ⟨ha, by rw [List.length_map]; exact hl, vs, _, rels, ha⟩
      · cases (if_neg e).symm.trans z
    · by_cases e : b = a
      · exact e
      · exact absurd (if_neg e) z
/-- what k_head leaves, from the law's promise -/
theorem walk_g {l : PySem.W.OpenLaw} {n k : Nat} {q : Program} {loose : List Str} {XP : (Str → Option Value) → Heap → Prop} {YP : World → Heap → Prop} {d : DefRec} {K : Params → PySem.W.Frag} {CX : World → CXT} {sp : World → PySem.W.Frag → Sp} {x : Str}
    (hn : l.most = some n) (hn2 : n ≤ sizeLine) (hdf : d.params.defaults = []) (hr : Room k callerA) (hY : ∀ (w : World) (h : Heap), YP w h → (K w.params).In h)
    (F : ∀ (w : World) (mg : Str → Option Value) (fa : Addr) (h : Heap), (K w.params).In h → h.Ns mainGlobals mg → mg d.name = some (.ref fa) →
      ∃ fd : FuncData, (∀ (s : Shared) (u : Value), BindsTo s fd ⟨[u], []⟩ [(x, u)]) ∧
        ∀ base : Heap, (K w.params).In base → base.Ns mainGlobals mg → FnG l.prog w (K w.params) mg base (CX w) k fa fd [x] (sp w (K w.params)))
    (hsp : ∀ (w : World) (K : PySem.W.Frag) (H : Hp) (a : Addr) (ns : List Int), ns.length ≤ n → Only H → SqL K H a (ns.map V.int) → sp w K [.ref a] H (fun v _ => v = .bl true) fun _ _ _ => False)
    (hCX : ∀ (w : World) (H : Hp) (s : Shared) (e : Value) (s' : Shared), CX w [] H s (fun _ _ _ => False) e s' → False) :
    PySem.W.WalkO q loose XP YP l.row.toRowW d [] (fun f vs => PySem.call f vs) := by
  refine Att.attach_call hn hdf fun w s₀ s₁ mg mb fa o pm cd doc a vs ns G Y ho hd hcd hmg hobj hints hlen hg => ?_
  obtain ⟨fd, hb, hF⟩ := F w mg fa _ (hY w _ Y) G.T.g hmg
  exact law_g (hY w _ Y) G.T.g G.T.b G.T.builtins G.T.nolimit hg hobj hints (Nat.le_trans hlen hn2) hr hF hb (fun H hO hS => hsp w _ H a ns hlen hO hS) fun H e s' => hCX w H s₁ e s'
end Fg

end

section
set_option Elab.async false
set_option linter.all false
set_option maxRecDepth 100000
namespace Mz
open PySem PySem.Spec PyProof.Rows L2

/-! ### plain values and the plain store -/
inductive D where
  | non | bl (b : Bool) | int (i : Int) | str (x : Str) | tup (xs : List D) | cl (xs : List D) | loc (n : Nat) | oth

inductive Cell where
  | lst (xs : List D)
  | dct (ep : Nat) (kvs : List (NestedKey × D))
  | ins (C : Str) (fs : List (Str × D))

abbrev Store := List Cell
abbrev Sg := List (Option D)
structure Xc where
  cls : Str
  fs : List (Str × D)

/-- an outcome of an expression -/
inductive O (α : Type) where
  | ok (a : α) (S : Store)
  | ex (x : Xc) (S : Store)
  | no
def O.bind {α β : Type} (o : O α) (k : α → Store → O β) : O β := match o with
  | .ok a S => k a S
  | .ex x S => .ex x S
  | .no => .no
@[simp] theorem O.bind_ok {α β : Type} (a : α) (S : Store) (k : α → Store → O β) : (O.ok a S).bind k = k a S := rfl
@[simp] theorem O.bind_no {α β : Type} (k : α → Store → O β) : (O.no : O α).bind k = .no := rfl
@[simp] theorem O.bind_ex {α β : Type} (x : Xc) (S : Store) (k : α → Store → O β) : (O.ex x S : O α).bind k = .ex x S := rfl

/-! ### keys -/
mutual
def keyD : NestedKey → D
  | .none => .non
  | .num i => .int i
  | .text x => .str x
  | .tup ks => .tup (keysD ks)
def keysD : List NestedKey → List D
  | [] => []
  | k :: ks => keyD k :: keysD ks
end
mutual
def toKey : D → Option NestedKey
  | .non => some .none
  | .int i => some (.num i)
  | .str x => some (.text x)
  | .tup xs => (toKeys xs).map .tup
  | .bl _ => none
  | .cl _ => none
  | .loc _ => none
  | .oth => none
def toKeys : List D → Option (List NestedKey)
  | [] => some []
  | d :: ds => match toKey d, toKeys ds with
    | some k, some ks => some (k :: ks)
    | _, _ => none
end
mutual
theorem keyD_of : ∀ (d : D) (k : NestedKey), toKey d = some k → keyD k = d
  | .non, k, h => by unfold toKey at h; cases h; rfl
  | .int i, k, h => by unfold toKey at h; cases h; rfl
  | .str x, k, h => by unfold toKey at h; cases h; rfl
  | .tup xs, k, h => by
    unfold toKey at h
    cases q : toKeys xs with
    | none => rw [q] at h; cases h
    | some ks => rw [q] at h; cases h; unfold keyD; rw [keysD_of xs ks q]
  | .bl _, k, h => by unfold toKey at h; cases h
  | .cl _, k, h => by unfold toKey at h; cases h
  | .loc _, k, h => by unfold toKey at h; cases h
  | .oth, k, h => by unfold toKey at h; cases h
theorem keysD_of : ∀ (ds : List D) (ks : List NestedKey), toKeys ds = some ks → keysD ks = ds
  | [], ks, h => by unfold toKeys at h; cases h; rfl
  | d :: ds, ks, h => by
    unfold toKeys at h
    cases q : toKey d with
    | none => rw [q] at h; cases h
    | some k =>
      cases q2 : toKeys ds with
      | none => rw [q, q2] at h; cases h
      | some ks' => rw [q, q2] at h; cases h; unfold keysD; rw [keyD_of d k q, keysD_of ds ks' q2]
end
/-- a key for a dict -/
def keyOf (d : D) : Option NestedKey := match toKey d with
  | some k => if k.depth ≤ 8 then some k else none
  | none => none
theorem keyOf_of {d : D} {k : NestedKey} (h : keyOf d = some k) : keyD k = d ∧ k.depth ≤ 8 := by
  unfold keyOf at h
  cases q : toKey d with
  | none => rw [q] at h; cases h
  | some k' =>
    rw [q] at h
    dsimp only at h
    split at h
    · cases h; exact ⟨keyD_of d _ q, by assumption⟩
    · cases h

/-! ### the tie to the layer's heap -/
structure Fw where
  K : PySem.W.Frag
  w : World
abbrev kw (X : Cx) : Fw := ⟨X.K, X.w⟩
def SqC (K : Fw) (H : Hp) (a : Addr) (vs : List V) : Prop :=
  (∃ o, H a = some (.frz o (.lst vs))) ∨
    ∃ (o : Obj) (its : Array Value) (n : Nat), K.K.lookup a = some o ∧ o.cls = .type "list" ∧ o.dict = none ∧ o.data = .seq its n ∧ its.size ≤ sizeLine ∧ Vals vs its.toList
theorem SqC.sq {K : Fw} {H : Hp} {a : Addr} {vs : List V} (h : SqC K H a vs) : SqL K.K H a vs := by
  rcases h with ⟨o, h⟩ | h
  · exact .inl (.inr ⟨o, h⟩)
  · exact .inr h

mutual
inductive RV (K : Fw) (m : List Addr) (H : Hp) : D → V → Prop
  | non : RV K m H .non .non
  | bl (b : Bool) : RV K m H (.bl b) (.bl b)
  | int (i : Int) : RV K m H (.int i) (.int i)
  | str (x : Str) : RV K m H (.str x) (.str x)
  | tup {a : Addr} {vs : List V} {xs : List D} : SqT K.K H a vs → RVs K m H xs vs → RV K m H (.tup xs) (.ref a)
  | cl {a : Addr} {vs : List V} {xs : List D} : SqC K H a vs → RVs K m H xs vs → RV K m H (.cl xs) (.ref a)
  | loc {n : Nat} {a : Addr} : m[n]? = some a → RV K m H (.loc n) (.ref a)
  | oth {a : Addr} : RV K m H .oth (.ref a)
inductive RVs (K : Fw) (m : List Addr) (H : Hp) : List D → List V → Prop
  | nil : RVs K m H [] []
  | cons {d : D} {v : V} {ds : List D} {vs : List V} : RV K m H d v → RVs K m H ds vs → RVs K m H (d :: ds) (v :: vs)
end

section
variable {K : Fw} {m m' : List Addr} {H H' : Hp}
mutual
theorem RV.mono (hm : ∀ (n : Nat) a, m[n]? = some a → m'[n]? = some a) (ht : ∀ a vs, SqT K.K H a vs → SqT K.K H' a vs) (hc : ∀ a vs, SqC K H a vs → SqC K H' a vs) :
    ∀ {d : D} {v : V}, RV K m H d v → RV K m' H' d v
  | _, _, .non => .non
  | _, _, .bl b => .bl b
  | _, _, .int i => .int i
  | _, _, .str x => .str x
  | _, _, .tup h r => .tup (ht _ _ h) (RVs.mono hm ht hc r)
  | _, _, .cl h r => .cl (hc _ _ h) (RVs.mono hm ht hc r)
  | _, _, .loc h => .loc (hm _ _ h)
  | _, _, .oth => .oth
theorem RVs.mono (hm : ∀ (n : Nat) a, m[n]? = some a → m'[n]? = some a) (ht : ∀ a vs, SqT K.K H a vs → SqT K.K H' a vs) (hc : ∀ a vs, SqC K H a vs → SqC K H' a vs) :
    ∀ {ds : List D} {vs : List V}, RVs K m H ds vs → RVs K m' H' ds vs
  | _, _, .nil => .nil
  | _, _, .cons h r => .cons (RV.mono hm ht hc h) (RVs.mono hm ht hc r)
end

theorem RVs.length : ∀ {ds : List D} {vs : List V}, RVs K m H ds vs → ds.length = vs.length
  | _, _, .nil => rfl
  | _, _, .cons _ r => by simp [RVs.length r]
theorem RVs.get : ∀ {ds : List D} {vs : List V} {i : Nat} {d : D}, RVs K m H ds vs → ds[i]? = some d → ∃ v, vs[i]? = some v ∧ RV K m H d v
  | _, _, _, _, .nil, e => by simp at e
  | _, _, 0, _, .cons h _, e => by simp at e; subst e; exact ⟨_, rfl, h⟩
  | _, _, i + 1, d, .cons _ r, e => by
    obtain ⟨v, h1, h2⟩ := RVs.get (i := i) (d := d) r (by simpa using e)
    exact ⟨v, by simpa using h1, h2⟩
theorem RVs.getV : ∀ {ds : List D} {vs : List V} {i : Nat} {v : V}, RVs K m H ds vs → vs[i]? = some v → ∃ d, ds[i]? = some d ∧ RV K m H d v
  | _, _, _, _, .nil, e => by simp at e
  | _, _, 0, _, .cons h _, e => by simp at e; subst e; exact ⟨_, rfl, h⟩
  | _, _, i + 1, d, .cons _ r, e => by
    obtain ⟨v, h1, h2⟩ := RVs.getV (i := i) (v := d) r (by simpa using e)
    exact ⟨v, by simpa using h1, h2⟩
theorem RVs.append : ∀ {ds es : List D} {vs ws : List V}, RVs K m H ds vs → RVs K m H es ws → RVs K m H (ds ++ es) (vs ++ ws)
  | _, _, _, _, .nil, r => r
  | _, _, _, _, .cons h t, r => .cons h (RVs.append t r)
theorem RVs.take : ∀ {ds : List D} {vs : List V} (n : Nat), RVs K m H ds vs → RVs K m H (ds.take n) (vs.take n)
  | _, _, 0, _ => .nil
  | _, _, _ + 1, .nil => .nil
  | _, _, n + 1, .cons h t => .cons h (RVs.take n t)
theorem RVs.drop : ∀ {ds : List D} {vs : List V} (n : Nat), RVs K m H ds vs → RVs K m H (ds.drop n) (vs.drop n)
  | _, _, 0, r => r
  | _, _, _ + 1, .nil => .nil
  | _, _, n + 1, .cons _ t => RVs.drop n t
theorem RVs.set {d : D} {v : V} (h : RV K m H d v) : ∀ {ds : List D} {vs : List V} (n : Nat), RVs K m H ds vs → RVs K m H (ds.set n d) (vs.set n v)
  | _, _, _, .nil => .nil
  | _, _, 0, .cons _ t => .cons h t
  | _, _, n + 1, .cons q t => .cons q (RVs.set h n t)
theorem RVs.reverse : ∀ {ds : List D} {vs : List V}, RVs K m H ds vs → RVs K m H ds.reverse vs.reverse
  | _, _, .nil => .nil
  | _, _, .cons h t => by
    rw [List.reverse_cons, List.reverse_cons]
    exact RVs.append (RVs.reverse t) (.cons h .nil)
theorem RVs.eraseIdx : ∀ {ds : List D} {vs : List V} (n : Nat), RVs K m H ds vs → RVs K m H (ds.eraseIdx n) (vs.eraseIdx n)
  | _, _, _, .nil => .nil
  | _, _, 0, .cons _ t => t
  | _, _, n + 1, .cons q t => .cons q (RVs.eraseIdx n t)
end

/-! ### what a dict and an instance are in the layer's heap -/
abbrev EntV := NestedKey × V × V
def entR (p : EntV) (q : Nd.Ent) : Prop := p.1 = q.1 ∧ RelV p.2.1 q.2.1 ∧ RelV p.2.2 q.2.2
def NdP (w : World) (a : Addr) (ep : Nat) (es : List EntV) (h : Heap) : Prop := es.length ≤ sizeLine ∧ (a == sysModules) = false ∧ ∃ xs, Paired entR es xs ∧ Nd.DV w h a ep xs
/-- a dict of the heap -/
def NdO (w : World) (a : Addr) (ep : Nat) (es : List EntV) : HO := .ext (NdP w a ep es)
def clsOf (K : Fw) (C : Str) (c : Addr) : Prop := PySem.W.nsIn K.K mainGlobals C = some (some (.ref c))
def ER (K : Fw) (m : List Addr) (H : Hp) : List (NestedKey × D) → List EntV → Prop := Paired fun p q => p.1 = q.1 ∧ p.1.depth ≤ 8 ∧ RV K m H (keyD p.1) q.2.1 ∧ RV K m H p.2 q.2.2
def FR (K : Fw) (m : List Addr) (H : Hp) : List (Str × D) → List (Str × V) → Prop := Paired fun p q => p.1 = q.1 ∧ RV K m H p.2 q.2
theorem paired_mono {α β : Type} {F G : α → β → Prop} (i : ∀ a b, F a b → G a b) : ∀ {as : List α} {bs : List β}, Paired F as bs → Paired G as bs
  | _, _, .nil => .nil
  | _, _, .cons h t => .cons (i _ _ h) (paired_mono i t)

/-- what a cell is at its address -/
def CO (K : Fw) (m : List Addr) (H : Hp) (a : Addr) : Cell → Prop
  | .lst xs => ∃ vs, H a = some (.lst vs) ∧ RVs K m H xs vs
  | .dct ep kvs => ∃ es, H a = some (NdO K.w a ep es) ∧ ER K m H kvs es
  | .ins C fs => ∃ c dx vs, clsOf K C c ∧ H a = some (.ins c dx vs) ∧ FR K m H fs vs
def isMut : HO → Prop
  | .lst _ => True
  | .dK _ => True
  | .dT _ => True
  | .set _ _ => True
  | .ins _ _ _ => True
  | .ext _ => True
  | _ => False

structure Sim (K : Fw) (m : List Addr) (S : Store) (H : Hp) : Prop where
  len : m.length = S.length
  inj : ∀ (i j : Nat) a, m[i]? = some a → m[j]? = some a → i = j
  cel : ∀ (n : Nat) a c, m[n]? = some a → S[n]? = some c → CO K m H a c

structure Ext (m : List Addr) (H : Hp) (m' : List Addr) (H' : Hp) : Prop where
  pre : ∀ (n : Nat) a, m[n]? = some a → m'[n]? = some a
  new : ∀ a, a ∈ m' → a ∉ m → H a = none
  kee : ∀ a o, a ∉ m → H a = some o → H' a = some o

section
variable {K : Fw} {m m1 m2 : List Addr} {H H1 H2 : Hp} {S : Store}
theorem Ext.refl : Ext m H m H := ⟨fun _ _ h => h, fun _ h n => absurd h n, fun _ _ _ h => h⟩
theorem mem_pre (h : ∀ (n : Nat) a, m[n]? = some a → m1[n]? = some a) {a : Addr} (x : a ∈ m) : a ∈ m1 := by
  obtain ⟨n, e⟩ := List.mem_iff_getElem?.mp x
  exact List.mem_iff_getElem?.mpr ⟨n, h n a e⟩
theorem Ext.trans (a : Ext m H m1 H1) (b : Ext m1 H1 m2 H2) : Ext m H m2 H2 where
  pre := fun n x h => b.pre n x (a.pre n x h)
  new := fun x h n => by
    by_cases h1 : x ∈ m1
    · exact a.new x h1 n
    · have e := b.new x h h1
      cases q : H x with
      | none => rfl
      | some o => rw [a.kee x o n q] at e; cases e
  kee := fun x o n h => by
    refine b.kee x o ?_ (a.kee x o n h)
    intro h1
    rw [a.new x h1 n] at h
    cases h
theorem CO.mut {a : Addr} {c : Cell} (h : CO K m H a c) : ∃ o, H a = some o ∧ isMut o := by
  cases c with
  | lst xs => obtain ⟨vs, h, _⟩ := h; exact ⟨_, h, trivial⟩
  | dct _ _ => obtain ⟨es, h, _⟩ := h; exact ⟨_, h, trivial⟩
  | ins _ _ => obtain ⟨_, _, _, _, h, _⟩ := h; exact ⟨_, h, trivial⟩
theorem Sim.mut (s : Sim K m S H) {a : Addr} (h : a ∈ m) : ∃ o, H a = some o ∧ isMut o := by
  obtain ⟨n, e⟩ := List.mem_iff_getElem?.mp h
  have hn : n < S.length := by
    rw [← s.len]
    exact (List.getElem?_eq_some_iff.mp e).1
  exact (s.cel n a _ e (List.getElem?_eq_getElem hn)).mut
theorem Ext.sqT (s : Sim K m S H) (e : Ext m H m1 H1) {a : Addr} {vs : List V} (h : SqT K.K H a vs) : SqT K.K H1 a vs := by
  rcases h with (h | ⟨o, h⟩) | h
  · refine .inl (.inl (e.kee a _ (fun z => ?_) h))
    obtain ⟨o, h', mu⟩ := s.mut z
    rw [h] at h'; cases h'; exact mu
  · refine .inl (.inr ⟨o, e.kee a _ (fun z => ?_) h⟩)
    obtain ⟨o, h', mu⟩ := s.mut z
    rw [h] at h'; cases h'; exact mu
  · exact .inr h
theorem Ext.sqC (s : Sim K m S H) (e : Ext m H m1 H1) {a : Addr} {vs : List V} (h : SqC K H a vs) : SqC K H1 a vs := by
  rcases h with ⟨o, h⟩ | h
  · refine .inl ⟨o, e.kee a _ (fun z => ?_) h⟩
    obtain ⟨o, h', mu⟩ := s.mut z
    rw [h] at h'; cases h'; exact mu
  · exact .inr h
/-- what a walk leans on: cells stay cells, objects that are never changed stay -/
structure Ext0 (m : List Addr) (H : Hp) (m' : List Addr) (H' : Hp) : Prop where
  pre : ∀ (n : Nat) a, m[n]? = some a → m'[n]? = some a
  new : ∀ a, a ∈ m' → a ∉ m → ∀ o, H a = some o → ¬ isMut o → False
  kee : ∀ a o, a ∉ m → ¬ isMut o → H a = some o → H' a = some o
theorem Ext.to0 (e : Ext m H m1 H1) : Ext0 m H m1 H1 := ⟨e.pre, fun a h n o q _ => (by rw [e.new a h n] at q; cases q), fun a o n _ h => e.kee a o n h⟩
theorem Ext0.trans (a : Ext0 m H m1 H1) (b : Ext m1 H1 m2 H2) : Ext0 m H m2 H2 where
  pre := fun n x h => b.pre n x (a.pre n x h)
  new := fun x h n o q hm => by
    by_cases h1 : x ∈ m1
    · exact a.new x h1 n o q hm
    · have e := b.new x h h1
      rw [a.kee x o n hm q] at e; cases e
  kee := fun x o n hm h => by
    refine b.kee x o ?_ (a.kee x o n hm h)
    intro h1
    exact a.new x h1 n o h hm
theorem Ext0.sqT (s : Sim K m S H) (e : Ext0 m H m1 H1) {a : Addr} {vs : List V} (h : SqT K.K H a vs) : SqT K.K H1 a vs := by
  rcases h with (h | ⟨o, h⟩) | h
  · refine .inl (.inl (e.kee a _ (fun z => ?_) (fun z => z.elim) h))
    obtain ⟨o, h', mu⟩ := s.mut z
    rw [h] at h'; cases h'; exact mu
  · refine .inl (.inr ⟨o, e.kee a _ (fun z => ?_) (fun z => z.elim) h⟩)
    obtain ⟨o, h', mu⟩ := s.mut z
    rw [h] at h'; cases h'; exact mu
  · exact .inr h
theorem Ext0.sqC (s : Sim K m S H) (e : Ext0 m H m1 H1) {a : Addr} {vs : List V} (h : SqC K H a vs) : SqC K H1 a vs := by
  rcases h with ⟨o, h⟩ | h
  · refine .inl ⟨o, e.kee a _ (fun z => ?_) (fun z => z.elim) h⟩
    obtain ⟨o, h', mu⟩ := s.mut z
    rw [h] at h'; cases h'; exact mu
  · exact .inr h
theorem RV.ext0 (s : Sim K m S H) (e : Ext0 m H m1 H1) {d : D} {v : V} (h : RV K m H d v) : RV K m1 H1 d v :=
  RV.mono e.pre (fun _ _ => Ext0.sqT s e) (fun _ _ => Ext0.sqC s e) h
theorem RV.ext (s : Sim K m S H) (e : Ext m H m1 H1) {d : D} {v : V} (h : RV K m H d v) : RV K m1 H1 d v :=
  RV.mono e.pre (fun _ _ => Ext.sqT s e) (fun _ _ => Ext.sqC s e) h
theorem RVs.ext (s : Sim K m S H) (e : Ext m H m1 H1) {d : List D} {v : List V} (h : RVs K m H d v) : RVs K m1 H1 d v :=
  RVs.mono e.pre (fun _ _ => Ext.sqT s e) (fun _ _ => Ext.sqC s e) h
theorem ER.ext (s : Sim K m S H) (e : Ext m H m1 H1) {d : List (NestedKey × D)} {v : List EntV} (h : ER K m H d v) : ER K m1 H1 d v :=
  paired_mono (fun _ _ r => ⟨r.1, r.2.1, r.2.2.1.ext s e, r.2.2.2.ext s e⟩) h
theorem FR.ext (s : Sim K m S H) (e : Ext m H m1 H1) {d : List (Str × D)} {v : List (Str × V)} (h : FR K m H d v) : FR K m1 H1 d v :=
  paired_mono (fun _ _ r => ⟨r.1, r.2.ext s e⟩) h
/-- a cell stands where its object stands -/
theorem CO.ext (s : Sim K m S H) (e : Ext m H m1 H1) {a : Addr} {c : Cell} (h : CO K m H a c) (k : ∀ o, H a = some o → H1 a = some o) : CO K m1 H1 a c := by
  cases c with
  | lst xs => obtain ⟨vs, h1, r⟩ := h; exact ⟨vs, k _ h1, r.ext s e⟩
  | dct _ _ => obtain ⟨es, h1, r⟩ := h; exact ⟨es, k _ h1, r.ext s e⟩
  | ins _ _ => obtain ⟨c, dx, vs, h0, h1, r⟩ := h; exact ⟨c, dx, vs, h0, k _ h1, r.ext s e⟩

/-- a new object that is no cell -/
theorem ext_new {p : Addr} {o : HO} (h : H p = none) : Ext m H m (upd H p o) :=
  ⟨fun _ _ h => h, fun _ h n => absurd h n, fun a o' _ e => by rw [upd_ne (ne_of_none e h)]; exact e⟩
theorem sim_new {p : Addr} {o : HO} (s : Sim K m S H) (h : H p = none) : Sim K m S (upd H p o) := by
  refine ⟨s.len, s.inj, fun n a c e1 e2 => ?_⟩
  exact (s.cel n a c e1 e2).ext s (ext_new h) fun o' q => by rw [upd_ne (ne_of_none q h)]; exact q
/-- a new cell -/
theorem ext_alloc {p : Addr} {o : HO} (h : H p = none) : Ext m H (m ++ [p]) (upd H p o) := by
  refine ⟨fun n a e => ?_, fun a h1 n => ?_, fun a o' _ e => by rw [upd_ne (ne_of_none e h)]; exact e⟩
  · have hn := (List.getElem?_eq_some_iff.mp e).1
    rw [List.getElem?_append_left hn]; exact e
  · rcases List.mem_append.mp h1 with z | z
    · exact absurd z n
    · have : a = p := by simpa using z
      subst this; exact h
theorem sim_add {p : Addr} {o : HO} {c0 : Cell} (s : Sim K m S H) (h : H p = none) (co : CO K (m ++ [p]) (upd H p o) p c0) : Sim K (m ++ [p]) (S ++ [c0]) (upd H p o) := by
  have ex : Ext m H (m ++ [p]) (upd H p o) := ext_alloc h
  have np : p ∉ m := fun z => by
    obtain ⟨o, e, _⟩ := s.mut z
    rw [h] at e; cases e
  refine ⟨by simp [s.len], fun i j a h1 h2 => ?_, fun n a c e1 e2 => ?_⟩
  · by_cases hi : i < m.length
    · rw [List.getElem?_append_left hi] at h1
      by_cases hj : j < m.length
      · rw [List.getElem?_append_left hj] at h2
        exact s.inj i j a h1 h2
      · rw [List.getElem?_append_right (by omega)] at h2
        obtain ⟨_, e⟩ := List.getElem?_eq_some_iff.mp h2
        have : p = a := by simpa using e
        subst this
        exact absurd (List.mem_of_getElem? h1) np
    · rw [List.getElem?_append_right (by omega)] at h1
      obtain ⟨q, e⟩ := List.getElem?_eq_some_iff.mp h1
      have ea : p = a := by simpa using e
      subst ea
      by_cases hj : j < m.length
      · rw [List.getElem?_append_left hj] at h2
        exact absurd (List.mem_of_getElem? h2) np
      · rw [List.getElem?_append_right (by omega)] at h2
        obtain ⟨q2, _⟩ := List.getElem?_eq_some_iff.mp h2
        simp at q q2
        omega
  · by_cases hn : n < m.length
    · rw [List.getElem?_append_left hn] at e1
      rw [List.getElem?_append_left (by rw [← s.len]; exact hn)] at e2
      exact (s.cel n a c e1 e2).ext s ex fun o' q => by rw [upd_ne (ne_of_none q h)]; exact q
    · rw [List.getElem?_append_right (by omega)] at e1
      rw [List.getElem?_append_right (by rw [← s.len]; omega)] at e2
      obtain ⟨_, e⟩ := List.getElem?_eq_some_iff.mp e1
      obtain ⟨_, e'⟩ := List.getElem?_eq_some_iff.mp e2
      have ea : p = a := by simpa using e
      have ec : c0 = c := by simpa using e'
      subst ea; subst ec
      exact co
theorem sim_alloc {p : Addr} {xs : List D} {vs : List V} (s : Sim K m S H) (h : H p = none) (r : RVs K m H xs vs) : Sim K (m ++ [p]) (S ++ [.lst xs]) (upd H p (.lst vs)) :=
  sim_add s h ⟨vs, upd_same, r.ext s (ext_alloc h)⟩
/-- a cell written -/
theorem ext_write {n : Nat} {a : Addr} {o : HO} (h : m[n]? = some a) : Ext m H m (upd H a o) :=
  ⟨fun _ _ h => h, fun _ h n => absurd h n, fun b o' nb e => by rw [upd_ne (fun z => nb (by rw [z]; exact List.mem_of_getElem? h))]; exact e⟩
theorem sim_put {n : Nat} {a : Addr} {o : HO} {c0 : Cell} (s : Sim K m S H) (h : m[n]? = some a) (co : CO K m (upd H a o) a c0) : Sim K m (S.set n c0) (upd H a o) := by
  have ex : Ext m H m (upd H a o) := ext_write h
  refine ⟨by simp [s.len], s.inj, fun k b c e1 e2 => ?_⟩
  by_cases hk : k = n
  · subst hk
    rw [h] at e1; cases e1
    have hl : k < S.length := by rw [← s.len]; exact (List.getElem?_eq_some_iff.mp h).1
    rw [List.getElem?_set_self hl] at e2; cases e2
    exact co
  · rw [List.getElem?_set_ne (Ne.symm hk)] at e2
    have nb : b ≠ a := fun z => by subst z; exact hk (s.inj _ _ _ e1 h)
    exact (s.cel k b c e1 e2).ext s ex fun o' q => by rw [upd_ne nb]; exact q
theorem sim_write {n : Nat} {a : Addr} {xs : List D} {vs : List V} (s : Sim K m S H) (h : m[n]? = some a) (r : RVs K m H xs vs) : Sim K m (S.set n (.lst xs)) (upd H a (.lst vs)) :=
  sim_put s h ⟨vs, upd_same, r.ext s (ext_write h)⟩
/-- reading a cell -/
theorem Sim.lst {n : Nat} {a : Addr} {xs : List D} (s : Sim K m S H) (h : m[n]? = some a) (e : S[n]? = some (.lst xs)) : ∃ vs, H a = some (.lst vs) ∧ RVs K m H xs vs := s.cel n a _ h e
theorem Sim.dct {n ep : Nat} {a : Addr} {kvs : List (NestedKey × D)} (s : Sim K m S H) (h : m[n]? = some a) (e : S[n]? = some (.dct ep kvs)) : ∃ es, H a = some (NdO K.w a ep es) ∧ ER K m H kvs es := s.cel n a _ h e
theorem Sim.ins {n : Nat} {a : Addr} {C : Str} {fs : List (Str × D)} (s : Sim K m S H) (h : m[n]? = some a) (e : S[n]? = some (.ins C fs)) : ∃ c dx vs, clsOf K C c ∧ H a = some (.ins c dx vs) ∧ FR K m H fs vs := s.cel n a _ h e
end

/-- an exception in flight: its class, its own dict -/
def XR (K : Fw) (m : List Addr) (H : Hp) (x : Xc) (c : Value) (d : Option Addr) : Prop := ∃ C, clsOf K x.cls C ∧ c = .ref C ∧
  ((x.fs = [] ∧ d = none) ∨ ∃ dx vs, x.fs ≠ [] ∧ d = some dx ∧ H dx = some (.xd vs) ∧ FR K m H x.fs vs)
end Mz

end

section
set_option Elab.async false
set_option linter.all false
set_option maxRecDepth 100000
namespace Mz
open PySem PySem.Spec L2

inductive R where
  | nx (g : Sg) (S : Store) | rt (d : D) (S : Store) | bk (g : Sg) (S : Store) | ct (g : Sg) (S : Store) | ex (x : Xc) (g : Sg) (S : Store) | no
abbrev SE := Sg → Store → O D
abbrev SA := Sg → Store → O (List D)
abbrev ST := Sg → Store → O Bool
abbrev SS := Sg → Store → R
abbrev SG := D → Sg → Store → O Sg

/-! ### the ties of readings -/
def RVo (K : Fw) (m : List Addr) (H : Hp) (g : Sg) (σ : St) : Prop :=
  g.length = σ.length ∧ ∀ (i : Nat) d, g[i]? = some (some d) → ∃ v, σ[i]? = some (some v) ∧ RV K m H d v
section
variable {K : Fw} {m m1 : List Addr} {H H1 : Hp} {S : Store} {g : Sg} {σ : St}
theorem RVo.ext (s : Sim K m S H) (e : Ext m H m1 H1) (h : RVo K m H g σ) : RVo K m1 H1 g σ :=
  ⟨h.1, fun i d q => let ⟨v, a, b⟩ := h.2 i d q; ⟨v, a, b.ext s e⟩⟩
theorem RVo.set {d : D} {v : V} (h : RVo K m H g σ) (r : RV K m H d v) (i : Nat) : RVo K m H (g.set i (some d)) (σ.set i (some v)) := by
  refine ⟨by simp [h.1], fun j d' q => ?_⟩
  by_cases hj : j = i
  · subst hj
    have hl : j < g.length := by
      have := (List.getElem?_eq_some_iff.mp q).1
      simpa using this
    rw [List.getElem?_set_self hl] at q
    cases q
    exact ⟨v, by rw [List.getElem?_set_self (by rw [← h.1]; exact hl)], r⟩
  · rw [List.getElem?_set_ne (Ne.symm hj)] at q
    obtain ⟨v', a, b⟩ := h.2 j d' q
    exact ⟨v', by rw [List.getElem?_set_ne (Ne.symm hj)]; exact a, b⟩
theorem RVo.unset (h : RVo K m H g σ) (i : Nat) : RVo K m H (g.set i none) (σ.set i none) := by
  refine ⟨by simp [h.1], fun j d' q => ?_⟩
  by_cases hj : j = i
  · subst hj
    have hl : j < g.length := by
      have := (List.getElem?_eq_some_iff.mp q).1
      simpa using this
    rw [List.getElem?_set_self hl] at q
    cases q
  · rw [List.getElem?_set_ne (Ne.symm hj)] at q
    obtain ⟨v', a, b⟩ := h.2 j d' q
    exact ⟨v', by rw [List.getElem?_set_ne (Ne.symm hj)]; exact a, b⟩
end
def wipeG (g : Sg) : List Nat → Sg
  | [] => g
  | v :: vs => (wipeG g vs).set v none
theorem RVo.wipe {K : Fw} {m : List Addr} {H : Hp} {g : Sg} {σ : St} (h : RVo K m H g σ) : ∀ vs : List Nat, RVo K m H (wipeG g vs) (L2.wipe σ vs)
  | [] => h
  | v :: vs => (RVo.wipe h vs).unset v


/-! ### one post for all -/
def Post {α : Type} (K : Fw) (W : XK) (m : List Addr) (H : Hp) (G : α → List Addr → Hp → Prop) : O α → Prop
  | .ok a S' => ∀ m' H', Ext m H m' H' → Sim K m' S' H' → G a m' H'
  | .ex x S' => ∀ m' H' c d, Ext m H m' H' → Sim K m' S' H' → XR K m' H' x c d → W c d H'
  | .no => False
section
variable {α β : Type} {K : Fw} {W : XK} {m m1 : List Addr} {H H1 : Hp} {S : Store} {G : α → List Addr → Hp → Prop} {G' : β → List Addr → Hp → Prop}
theorem Post.weak (e : Ext m H m1 H1) : ∀ {o : O α}, Post K W m H G o → Post K W m1 H1 G o
  | .ok _ _, h => fun m' H' e' s => h m' H' (e.trans e') s
  | .ex _ _, h => fun m' H' c d e' s x => h m' H' c d (e.trans e') s x
  | .no, h => h
theorem Post.bind {o : O β} {k : β → Store → O α} (h : Post K W m H G (o.bind k)) (f : ∀ a S1, o = .ok a S1 → ∀ m1 H1, Ext m H m1 H1 → Sim K m1 S1 H1 → Post K W m1 H1 G (k a S1) → G' a m1 H1) : Post K W m H G' o := by
  cases o with
  | ok a S1 => exact fun m1 H1 e s => f a S1 rfl m1 H1 e s (Post.weak e h)
  | ex x S1 => exact h
  | no => exact h
theorem Post.mono {G2 : α → List Addr → Hp → Prop} (i : ∀ a m1 H1, G a m1 H1 → G2 a m1 H1) : ∀ {o : O α}, Post K W m H G o → Post K W m H G2 o
  | .ok _ _, h => fun m' H' e s => i _ _ _ (h m' H' e s)
  | .ex _ _, h => h
  | .no, h => h
theorem Post.now {a : α} (h : Post K W m H G (.ok a S)) (hs : Sim K m S H) : G a m H := h m H Ext.refl hs
end
abbrev gE (K : Fw) (Q : VK) : D → List Addr → Hp → Prop := fun d m H => ∀ v, RV K m H d v → Q v H
abbrev gT (Q : Bool → Hp → Prop) : Bool → List Addr → Hp → Prop := fun b _ H => Q b H
abbrev gA (K : Fw) (Q : List V → Hp → Prop) : List D → List Addr → Hp → Prop := fun d m H => ∀ v, RVs K m H d v → Q v H
/-- a target's: is are the slots it may change -/
abbrev gG (K : Fw) (is : List Nat) (σ₀ : St) (Q : St → Hp → Prop) : Sg → List Addr → Hp → Prop := fun g m H => ∀ σ, RVo K m H g σ → (∀ vs, (∀ i ∈ is, i ∈ vs) → L2.wipe σ vs = L2.wipe σ₀ vs) → Q σ H
abbrev PostE (K : Fw) (W : XK) (m : List Addr) (H : Hp) (Q : VK) (o : O D) : Prop := Post K W m H (gE K Q) o
abbrev PostT (K : Fw) (W : XK) (m : List Addr) (H : Hp) (Q : Bool → Hp → Prop) (o : O Bool) : Prop := Post K W m H (gT Q) o
abbrev PostA (K : Fw) (W : XK) (m : List Addr) (H : Hp) (Q : List V → Hp → Prop) (o : O (List D)) : Prop := Post K W m H (gA K Q) o
abbrev PostG (K : Fw) (W : XK) (is : List Nat) (σ₀ : St) (m : List Addr) (H : Hp) (Q : St → Hp → Prop) (o : O Sg) : Prop := Post K W m H (gG K is σ₀ Q) o
def PostS (K : Fw) (W : WX) (m : List Addr) (H : Hp) (D : Ends) : R → Prop
  | .nx g S' => ∀ σ m' H', Ext m H m' H' → Sim K m' S' H' → RVo K m' H' g σ → D.nx σ H'
  | .bk g S' => ∀ σ m' H', Ext m H m' H' → Sim K m' S' H' → RVo K m' H' g σ → D.bk σ H'
  | .ct g S' => ∀ σ m' H', Ext m H m' H' → Sim K m' S' H' → RVo K m' H' g σ → D.ct σ H'
  | .rt d S' => ∀ v m' H', Ext m H m' H' → Sim K m' S' H' → RV K m' H' d v → D.rt v H'
  | .ex x g S' => ∀ σ m' H' c d, Ext m H m' H' → Sim K m' S' H' → RVo K m' H' g σ → XR K m' H' x c d → W c d σ H'
  | .no => False
def tD (K : Fw) (W : WX) (f : SE) : TE := fun σ H Q => ∃ m S g, Sim K m S H ∧ RVo K m H g σ ∧ PostE K (WE W σ) m H Q (f g S)
def tDA (K : Fw) (W : WX) (f : SA) : TA := fun σ H Q => ∃ m S g, Sim K m S H ∧ RVo K m H g σ ∧ PostA K (WE W σ) m H Q (f g S)
def tDT (K : Fw) (W : WX) (f : ST) : TT := fun σ H Q => ∃ m S g, Sim K m S H ∧ RVo K m H g σ ∧ PostT K (WE W σ) m H Q (f g S)
def tDS (K : Fw) (W : WX) (f : SS) : TS := fun D σ H => ∃ m S g, Sim K m S H ∧ RVo K m H g σ ∧ PostS K W m H D (f g S)
def tDG (K : Fw) (W : WX) (is : List Nat) (f : SG) : TG := fun v σ H Q => ∃ m S g d, Sim K m S H ∧ RVo K m H g σ ∧ RV K m H d v ∧ PostG K (WE W σ) is σ m H Q (f d g S)
/-- by values: operations that raise nothing -/
def rD2 (K : Fw) (f : D → D → Store → O D) : R2 := fun x y H Q => ∃ W m S d e, Sim K m S H ∧ RV K m H d x ∧ RV K m H e y ∧ PostE K W m H Q (f d e S)
def rD1 (K : Fw) (f : D → Store → O D) : V → Hp → VK → Prop := fun x H Q => ∃ W m S d, Sim K m S H ∧ RV K m H d x ∧ PostE K W m H Q (f d S)
def rDL (K : Fw) (f : List D → Store → O D) : List V → Hp → VK → Prop := fun xs H Q => ∃ W m S ds, Sim K m S H ∧ RVs K m H ds xs ∧ PostE K W m H Q (f ds S)
def rDM (K : Fw) (f : D → List D → Store → O D) : V → List V → Hp → VK → Prop := fun x xs H Q => ∃ W m S d ds, Sim K m S H ∧ RV K m H d x ∧ RVs K m H ds xs ∧ PostE K W m H Q (f d ds S)

section
variable {K : Fw} {m m1 : List Addr} {H H1 : Hp} {W : WX}
theorem PostS.weak {D : Ends} (e : Ext m H m1 H1) : ∀ {o : R}, PostS K W m H D o → PostS K W m1 H1 D o
  | .nx _ _, h => fun σ m' H' e' s r => h σ m' H' (e.trans e') s r
  | .bk _ _, h => fun σ m' H' e' s r => h σ m' H' (e.trans e') s r
  | .ct _ _, h => fun σ m' H' e' s r => h σ m' H' (e.trans e') s r
  | .rt _ _, h => fun v m' H' e' s r => h v m' H' (e.trans e') s r
  | .ex _ _ _, h => fun σ m' H' c d e' s r x => h σ m' H' c d (e.trans e') s r x
  | .no, h => h
end

/-! ### monotone -/
section
variable {X : Cx}
theorem peI {e : Expr} {t t' : TE} (h : PE X e t) (i : ∀ σ H Q, t' σ H Q → t σ H Q) : PE X e t' := ⟨fun pins s σ H Q I q => h.run pins s σ H Q I (i σ H Q q)⟩
theorem ptI {e : Expr} {t t' : TT} (h : PT X e t) (i : ∀ σ H Q, t' σ H Q → t σ H Q) : PT X e t' := ⟨fun pins s σ H Q I q => h.run pins s σ H Q I (i σ H Q q)⟩
theorem pwI {e : Expr} {t t' : TT} (h : PW X e t) (i : ∀ σ H Q, t' σ H Q → t σ H Q) : PW X e t' := ⟨fun wh pins s σ H Q I q => h.run wh pins s σ H Q I (i σ H Q q)⟩
theorem paI {e : List Expr} {t t' : TA} (h : PA X e t) (i : ∀ σ H Q, t' σ H Q → t σ H Q) : PA X e t' := ⟨fun p pins s σ H Q I q => h.run p pins s σ H Q I (i σ H Q q)⟩
theorem psI {e : Stmt} {t t' : TS} (h : PS X e t) (i : ∀ D σ H, t' D σ H → t D σ H) : PS X e t' := ⟨fun pins s σ H D I q => h.run pins s σ H D I (i D σ H q)⟩
theorem pssI {e : List Stmt} {t t' : TS} (h : PSs X e t) (i : ∀ D σ H, t' D σ H → t D σ H) : PSs X e t' := ⟨fun pins s σ H D I q => h.run pins s σ H D I (i D σ H q)⟩
theorem pgI {e : Expr} {t t' : TG} (h : PG X e t) (i : ∀ v σ H Q, t' v σ H Q → t v σ H Q) : PG X e t' := ⟨fun pins s σ H v u Q I r q => h.run pins s σ H v u Q I r (i v σ H Q q)⟩
theorem opI {f : Value → Value → Sem Value} {r r' : R2} (h : OpR X f r) (i : ∀ x y H Q, r' x y H Q → r x y H Q) : OpR X f r' := by
  intro pins s σ H x y v u Q I r1 r2 q
  exact h pins s σ H x y v u Q I r1 r2 (i x y H Q q)
theorem unI' {f : Value → Sem Value} {r r' : V → Hp → VK → Prop} (h : UnR X f r) (i : ∀ x H Q, r' x H Q → r x H Q) : UnR X f r' := by
  intro pins s σ H x v Q I r1 q
  exact h pins s σ H x v Q I r1 (i x H Q q)
theorem crI {f : Value} {r r' : List V → Hp → VK → Prop} (h : CallR X f r) (i : ∀ x H Q, r' x H Q → r x H Q) : CallR X f r' := by
  intro pins s σ H x v Q I r1 q
  exact h pins s σ H x v Q I r1 (i x H Q q)
theorem ixI {r r' : R2} (h : IxR X r) (i : ∀ x y H Q, r' x y H Q → r x y H Q) : IxR X r' := by
  intro va sl pins s σ H x y v u Q I r1 r2 q
  exact h va sl pins s σ H x y v u Q I r1 r2 (i x y H Q q)
theorem mtI {id : String} {r r' : V → List V → Hp → VK → Prop} (h : MtR X id r) (i : ∀ x xs H Q, r' x xs H Q → r x xs H Q) : MtR X id r' := by
  intro pins s σ H x xs v us Q I r1 r2 q
  exact h pins s σ H x xs v us Q I r1 r2 (i x xs H Q q)
theorem slI {r r' : V → Option Int → Option Int → Hp → VK → Prop} (h : SlR X r) (i : ∀ x a b H Q, r' x a b H Q → r x a b H Q) : SlR X r' := by
  intro pins s σ H x v vl vu lo hi sl Q I rx hs pl pu q
  exact h pins s σ H x v vl vu lo hi sl Q I rx hs pl pu (i x lo hi H Q q)
end
end Mz

end

section
set_option Elab.async false
set_option linter.all false
set_option maxRecDepth 100000
namespace Mz
open PySem PySem.Spec L2

/-! ### data read off the store -/
def toPy (S : Store) : Nat → D → Option PyData
  | 0, _ => none
  | _ + 1, .non => some .none
  | _ + 1, .bl b => some (.bool b)
  | _ + 1, .int i => some (.int i)
  | _ + 1, .str x => some (.str x)
  | n + 1, .tup xs => (xs.mapM (toPy S n)).map .tuple
  | n + 1, .cl xs => (xs.mapM (toPy S n)).map .list
  | n + 1, .loc k => match S[k]? with
    | some (.lst xs) => (xs.mapM (toPy S n)).map .list
    | _ => none
  | _ + 1, .oth => none
section
variable {K : Fw} {m : List Addr} {S : Store} {H : Hp}
theorem mapM_dp (n : Nat) (ih : ∀ d v p, toPy S n d = some p → RV K m H d v → Dp K.K H v p) : ∀ (xs : List D) (vs : List V) (ps : List PyData), xs.mapM (toPy S n) = some ps → RVs K m H xs vs → DpAll K.K H vs ps := by
  intro xs
  induction xs with
  | nil =>
    intro vs ps e r
    cases r
    simp at e
    subst e
    exact .nil
  | cons x xs ihx =>
    intro vs ps e r
    cases r with
    | cons r1 r2 =>
      simp only [List.mapM_cons] at e
      cases e1 : toPy S n x with
      | none => rw [e1] at e; cases e
      | some p =>
        rw [e1] at e
        cases e2 : xs.mapM (toPy S n) with
        | none => rw [e2] at e; cases e
        | some q =>
          rw [e2] at e
          cases e
          exact .cons (ih _ _ _ e1 r1) (ihx _ _ e2 r2)
theorem toPy_dp (hs : Sim K m S H) : ∀ (n : Nat) (d : D) (v : V) (p : PyData), toPy S n d = some p → RV K m H d v → Dp K.K H v p := by
  intro n
  induction n with
  | zero => intro d v p e; cases e
  | succ n ih =>
    intro d v p e r
    cases r with
    | non => cases e; exact .non
    | bl b => cases e; exact .bl b
    | int i => cases e; exact .int i
    | str x => cases e; exact .str x
    | oth => cases e
    | tup h r =>
      rename_i a vs xs
      have e : (xs.mapM (toPy S n)).map PyData.tuple = some p := e
      cases q : xs.mapM (toPy S n) with
      | none => rw [q] at e; cases e
      | some ps => rw [q] at e; cases e; exact .tup h (mapM_dp n ih xs vs ps q r)
    | cl h r =>
      rename_i a vs xs
      have e : (xs.mapM (toPy S n)).map PyData.list = some p := e
      cases q : xs.mapM (toPy S n) with
      | none => rw [q] at e; cases e
      | some ps => rw [q] at e; cases e; exact .lst h.sq (mapM_dp n ih xs vs ps q r)
    | loc h =>
      rename_i k a
      have e : (match S[k]? with | some (.lst xs) => (xs.mapM (toPy S n)).map PyData.list | _ => none) = some p := e
      cases c : S[k]? with
      | none => rw [c] at e; cases e
      | some c' =>
        rw [c] at e
        cases c' with
        | lst xs =>
          have e : (xs.mapM (toPy S n)).map PyData.list = some p := e
          obtain ⟨vs, h1, r⟩ := hs.lst h c
          cases q : xs.mapM (toPy S n) with
          | none => rw [q] at e; cases e
          | some ps => rw [q] at e; cases e; exact .lst (SqL.of h1) (mapM_dp n ih xs vs ps q r)
        | dct _ _ => cases e
        | ins _ _ => cases e
end

def alloc (xs : List D) (S : Store) : O D := .ok (.loc S.length) (S ++ [.lst xs])
def listAt (S : Store) (d : D) : Option (List D) := match d with
  | .cl xs => some xs
  | .loc n => match S[n]? with
    | some (.lst xs) => some xs
    | _ => none
  | _ => none
theorem listAt_sq {K : Fw} {m : List Addr} {S : Store} {H : Hp} {d : D} {v : V} {xs : List D} (hs : Sim K m S H) (r : RV K m H d v) (e : listAt S d = some xs) : ∃ a vs, v = .ref a ∧ SqL K.K H a vs ∧ RVs K m H xs vs := by
  cases r with
  | cl h r => cases e; exact ⟨_, _, rfl, h.sq, r⟩
  | loc h =>
    rename_i k a
    have e : (match S[k]? with | some (.lst xs) => some xs | _ => none) = some xs := e
    cases c : S[k]? with
    | none => rw [c] at e; cases e
    | some c' =>
      rw [c] at e
      cases c' with
      | lst ys => cases e; obtain ⟨vs, h1, r⟩ := hs.lst h c; exact ⟨_, _, rfl, SqL.of h1, r⟩
      | dct _ _ => cases e
      | ins _ _ => cases e
  | non => cases e
  | bl b => cases e
  | int b => cases e
  | str b => cases e
  | oth => cases e
  | tup h r => cases e
/-- a list that may be written -/
def lstAt (S : Store) (d : D) : Option (Nat × List D) := match d with
  | .loc n => match S[n]? with
    | some (.lst xs) => some (n, xs)
    | _ => none
  | _ => none
theorem lstAt_eq {S : Store} {d : D} {n : Nat} {xs : List D} (e : lstAt S d = some (n, xs)) : d = .loc n ∧ S[n]? = some (.lst xs) := by
  cases d with
  | loc k =>
    have e : (match S[k]? with | some (.lst xs) => some (k, xs) | _ => none) = some (n, xs) := e
    cases c : S[k]? with
    | none => rw [c] at e; cases e
    | some c' =>
      rw [c] at e
      cases c' with
      | lst ys => cases e; exact ⟨rfl, c⟩
      | dct _ _ => cases e
      | ins _ _ => cases e
  | non => cases e
  | bl b => cases e
  | int b => cases e
  | str b => cases e
  | oth => cases e
  | tup h => cases e
  | cl h => cases e
theorem lstAt_at {K : Fw} {m : List Addr} {S : Store} {H : Hp} {d : D} {v : V} {n : Nat} {xs : List D} (hs : Sim K m S H) (r : RV K m H d v) (e : lstAt S d = some (n, xs)) : ∃ a vs, v = .ref a ∧ m[n]? = some a ∧ H a = some (.lst vs) ∧ RVs K m H xs vs := by
  obtain ⟨rfl, c⟩ := lstAt_eq e
  cases r with
  | loc h => obtain ⟨vs, h1, r⟩ := hs.lst h c; exact ⟨_, vs, rfl, h, h1, r⟩
/-- a sequence that is read: list or tuple -/
def seqAt (S : Store) (d : D) : Option (List D) := match d with
  | .tup xs => some xs
  | d => listAt S d
theorem seqAt_sq {K : Fw} {m : List Addr} {S : Store} {H : Hp} {d : D} {v : V} {xs : List D} (hs : Sim K m S H) (r : RV K m H d v) (e : seqAt S d = some xs) : ∃ a vs, v = .ref a ∧ (SqL K.K H a vs ∨ SqT K.K H a vs) ∧ RVs K m H xs vs := by
  cases d with
  | tup ys => cases e; cases r with | tup h r => exact ⟨_, _, rfl, .inr h, r⟩
  | cl ys => obtain ⟨a, vs, h1, h2, h3⟩ := listAt_sq hs r e; exact ⟨a, vs, h1, .inl h2, h3⟩
  | loc ys => obtain ⟨a, vs, h1, h2, h3⟩ := listAt_sq hs r e; exact ⟨a, vs, h1, .inl h2, h3⟩
  | non => cases e
  | bl b => cases e
  | int b => cases e
  | str b => cases e
  | oth => cases e

theorem Post.elim {α : Type} {K : Fw} {W : XK} {m : List Addr} {H : Hp} {G : α → List Addr → Hp → Prop} {C : Prop} (h : Post K W m H G .no) : C := False.elim h
section
variable {K : Fw} {W : XK} {m : List Addr} {H : Hp} {S : Store} {Q : VK}
/-- the ends -/
theorem PostE.here {d : D} {v : V} (h : PostE K W m H Q (.ok d S)) (hs : Sim K m S H) (r : RV K m H d v) : Q v H := h m H Ext.refl hs v r
theorem PostE.newT {xs : List D} {vs : List V} (h : PostE K W m H Q (.ok (.tup xs) S)) (hs : Sim K m S H) (r : RVs K m H xs vs) {p : Addr} (hp : H p = none) : Q (.ref p) (upd H p (.tup vs)) :=
  h m _ (ext_new hp) (sim_new hs hp) _ (.tup (.inl (.inl upd_same)) (r.ext hs (ext_new hp)))
theorem PostE.newL {xs : List D} {vs : List V} (h : PostE K W m H Q (alloc xs S)) (hs : Sim K m S H) (r : RVs K m H xs vs) {p : Addr} (hp : H p = none) : Q (.ref p) (upd H p (.lst vs)) := by
  refine h (m ++ [p]) _ (ext_alloc hp) (sim_alloc hs hp r) _ (.loc ?_)
  rw [← hs.len, List.getElem?_append_right (Nat.le_refl _)]
  simp
theorem PostE.wr {d : D} {n : Nat} {a : Addr} {xs : List D} {vs : List V} {v : V} (h : PostE K W m H Q (.ok d (S.set n (.lst xs)))) (hs : Sim K m S H) (hm : m[n]? = some a) (r : RVs K m H xs vs) (rd : RV K m H d v) : Q v (upd H a (.lst vs)) :=
  h m _ (ext_write hm) (sim_write hs hm r) _ (rd.ext hs (ext_write hm))
end

/-! ### operators -/
inductive Bop where
  | add | sub | mul | fdiv | mod | pow
  deriving DecidableEq
def Bop.op : Bop → Operator
  | .add => .Add | .sub => .Sub | .mul => .Mult | .fdiv => .FloorDiv | .mod => .Mod | .pow => .Pow
def mulOk (i j : Int) : Bool := (decide (-(2 ^ 64) < i) && decide (i < 2 ^ 64)) || (decide (-(2 ^ 64) < j) && decide (j < 2 ^ 64)) || decide (i.natAbs.log2 + j.natAbs.log2 < 1000000)
def divOk (j : Int) : Bool := decide (0 < j) && decide (j.natAbs.log2 < 9000)
def powOk (i j : Int) : Bool := decide (0 ≤ j) && decide (j ≤ 1000000) && decide (i.natAbs < 2 ^ 64)
/-- a text so many times -/
def repS (a : Str) (k : Nat) : Str := ⟨(List.replicate k a.cps).foldl (· ++ ·) #[]⟩
def semBop (p : Bop) (d e : D) (S : Store) : O D := match p with
  | .add => match d, e with
    | .int i, .int j => .ok (.int (i + j)) S
    | .str x, .str y => if x.length + y.length ≤ sizeLine then .ok (.str (x ++ y)) S else .no
    | .tup xs, .tup ys => if xs.length + ys.length ≤ sizeLine then .ok (.tup (xs ++ ys)) S else .no
    | d, e => match lstAt S d, lstAt S e with
      | some (_, xs), some (_, ys) => if xs.length + ys.length ≤ sizeLine then alloc (xs ++ ys) S else .no
      | _, _ => .no
  | .sub => match d, e with
    | .int i, .int j => .ok (.int (i - j)) S
    | _, _ => .no
  | .mul => match d, e with
    | .int i, .int j => if mulOk i j = true then .ok (.int (i * j)) S else .no
    | .str a, .int k => if (decide (-(2 ^ 63) ≤ k) && decide (k < 2 ^ 63) && decide (a.length * k.toNat ≤ sizeLine)) = true then .ok (.str (repS a k.toNat)) S else .no
    | d, .int k => match lstAt S d with
      | some (_, xs) => if (decide (-(2 ^ 63) ≤ k) && decide (k < 2 ^ 63) && decide (xs.length * k.toNat ≤ sizeLine)) = true then alloc (List.replicate k.toNat xs).flatten S else .no
      | _ => .no
    | _, _ => .no
  | .fdiv => match d, e with
    | .int i, .int j => if divOk j = true then .ok (.int (i / j)) S else .no
    | _, _ => .no
  | .mod => match d, e with
    | .int i, .int j => if 0 < j then .ok (.int (i % j)) S else .no
    | _, _ => .no
  | .pow => match d, e with
    | .int i, .int j => if powOk i j = true then .ok (.int (i ^ j.toNat)) S else .no
    | _, _ => .no

theorem RVs.rep {K : Fw} {m : List Addr} {H : Hp} {xs : List D} {vs : List V} (r : RVs K m H xs vs) : ∀ k : Nat, RVs K m H (List.replicate k xs).flatten (List.replicate k vs).flatten
  | 0 => .nil
  | k + 1 => by
    rw [List.replicate_succ, List.replicate_succ, List.flatten_cons, List.flatten_cons]
    exact r.append (RVs.rep r k)

section
variable {X : Cx}
theorem ob_add : OpR X (binaryOp .Add) (rD2 (kw X) (semBop .add)) := by
  refine opI (op_add.or (op_add_str.or (op_catA.or op_cat))) fun x y H Q ⟨W, m, S, d, e, hs, rd, re, hp⟩ => ?_
  unfold semBop at hp
  dsimp only at hp
  split at hp
  · cases rd; cases re; exact .inl ⟨_, _, rfl, rfl, hp.here hs (.int _)⟩
  · cases rd; cases re
    split at hp
    · exact .inr (.inl ⟨_, _, rfl, rfl, by assumption, hp.here hs (.str _)⟩)
    · exact hp.elim
  · cases rd with | tup h1 r1 =>
    cases re with | tup h2 r2 =>
    split at hp
    · rename_i hz
      refine .inr (.inr (.inl ⟨_, _, _, _, rfl, rfl, h1, h2, by rw [← r1.length, ← r2.length]; exact hz, fun e0 => ?_, fun _ e1 => ?_, fun _ _ p hn => hp.newT hs (r1.append r2) hn⟩))
      · subst e0
        cases r1
        exact hp.here hs (.tup h2 r2)
      · subst e1
        cases r2
        rw [List.append_nil] at hp
        exact hp.here hs (.tup h1 r1)
    · exact hp.elim
  · split at hp
    · rename_i h1 h2
      obtain ⟨a, vs, rfl, _, e1, r1⟩ := lstAt_at hs rd h1
      obtain ⟨b, ws, rfl, _, e2, r2⟩ := lstAt_at hs re h2
      split at hp
      · rename_i hz
        exact .inr (.inr (.inr ⟨a, b, vs, ws, rfl, rfl, e1, e2, by rw [← r1.length, ← r2.length]; exact hz, fun p hn => hp.newL hs (r1.append r2) hn⟩))
      · exact hp.elim
    · exact hp.elim
theorem ob_sub : OpR X (binaryOp .Sub) (rD2 (kw X) (semBop .sub)) := by
  refine opI op_sub fun x y H Q ⟨W, m, S, d, e, hs, rd, re, hp⟩ => ?_
  unfold semBop at hp
  dsimp only at hp
  split at hp
  · cases rd; cases re; exact ⟨_, _, rfl, rfl, hp.here hs (.int _)⟩
  · exact hp.elim
theorem op_mulS : OpR X (binaryOp .Mult) (fun x y H Q => ∃ a k, x = V.str a ∧ y = V.int k ∧ -(2 ^ 63) ≤ k ∧ k < 2 ^ 63 ∧ a.length * k.toNat ≤ sizeLine ∧ Q (.str (repS a k.toNat)) H) := by
  intro pins s σ H x y v u Q I rx ry h
  obtain ⟨a, k, rfl, rfl, h1, h2, hz, q⟩ := h
  obtain ⟨t, rfl⟩ := rx
  obtain ⟨t2, rfl⟩ := ry
  have hs : (sizeLine : Int) < 2 ^ 62 := by rw [sizeLine_eq]; decide
  refine PySem.P.mul_str (by rw [decide_eq_false (by omega), decide_eq_false (by omega)]; rfl) (fun n1 _ => ?_) (fun n1 _ => ?_) ?_
  · intro hgt
    have k0 : 0 < k := by omega
    have := (Int.ediv_lt_iff_lt_mul k0).mp hgt
    have e : (a.length : Int) * k = ((a.length * k.toNat : Nat) : Int) := by
      rw [Int.natCast_mul, Int.toNat_of_nonneg (by omega)]
    rw [e] at this
    omega
  · show decide (a.length * k.toNat > sizeLine) = false
    exact decide_eq_false (by omega)
  · split
    · rename_i hn
      have e : k.toNat = 0 := by omega
      rw [e] at q
      exact ⟨by decide, ⟨.str (repS a 0), H, I.tok _, ⟨s.toks, rfl⟩, q⟩⟩
    · rename_i hn
      split
      · rename_i h3
        rw [Bool.or_eq_true] at h3
        have e : repS a k.toNat = a := by
          rcases h3 with h3 | h3
          · have e1 : k = 1 := eq_of_beq h3
            subst e1
            unfold repS
            cases a
            simp
          · have e0 : a.length = 0 := eq_of_beq h3
            have e1 : a.cps = #[] := Array.eq_empty_of_size_eq_zero e0
            unfold repS
            rw [e1]
            obtain ⟨c⟩ := a
            have e1 : c = #[] := e1
            subst e1
            congr 1
            induction k.toNat with
            | zero => rfl
            | succ n ih => rw [List.replicate_succ, List.foldl_cons]; exact ih
        rw [e] at q
        exact ⟨.str a, H, I, ⟨t, rfl⟩, q⟩
      · refine ⟨?_, ⟨.str (repS a k.toNat), H, I.tok _, ⟨s.toks, rfl⟩, q⟩⟩
        exact PySem.fits_reps (by show decide (a.length * k.toNat > sizeLine) = false; exact decide_eq_false (by omega))
theorem ob_mul : OpR X (binaryOp .Mult) (rD2 (kw X) (semBop .mul)) := by
  refine opI (op_mul.or (op_mulW.or (op_mulS.or op_rep))) fun x y H Q ⟨W, m, S, d, e, hs, rd, re, hp⟩ => ?_
  unfold semBop at hp
  dsimp only at hp
  split at hp
  · rename_i i j
    cases rd; cases re
    split at hp
    · rename_i hz
      simp only [mulOk, Bool.or_eq_true, Bool.and_eq_true, decide_eq_true_eq] at hz
      rcases hz with (⟨h1, h2⟩ | ⟨h1, h2⟩) | h
      · exact .inl ⟨_, _, rfl, rfl, .inl ⟨h1, h2⟩, hp.here hs (.int _)⟩
      · exact .inl ⟨_, _, rfl, rfl, .inr ⟨h1, h2⟩, hp.here hs (.int _)⟩
      · exact .inr (.inl ⟨_, _, rfl, rfl, h, hp.here hs (.int _)⟩)
    · exact hp.elim
  · cases rd; cases re
    split at hp
    · rename_i hz
      simp only [Bool.and_eq_true, decide_eq_true_eq] at hz
      exact .inr (.inr (.inl ⟨_, _, rfl, rfl, hz.1.1, hz.1.2, hz.2, hp.here hs (.str _)⟩))
    · exact hp.elim
  · split at hp
    · rename_i h1
      obtain ⟨a, vs, rfl, _, e1, r1⟩ := lstAt_at hs rd h1
      cases re
      split at hp
      · rename_i hz
        simp only [Bool.and_eq_true, decide_eq_true_eq] at hz
        exact .inr (.inr (.inr ⟨a, _, vs, rfl, rfl, e1, hz.1.1, hz.1.2, by rw [← r1.length]; exact hz.2, fun p hn => hp.newL hs (r1.rep _) hn⟩))
      · exact hp.elim
    · exact hp.elim
  · exact hp.elim
theorem ob_fdiv : OpR X (binaryOp .FloorDiv) (rD2 (kw X) (semBop .fdiv)) := by
  refine opI op_fdivW fun x y H Q ⟨W, m, S, d, e, hs, rd, re, hp⟩ => ?_
  unfold semBop at hp
  dsimp only at hp
  split at hp
  · cases rd; cases re
    split at hp
    · rename_i hz
      simp only [divOk, Bool.and_eq_true, decide_eq_true_eq] at hz
      exact ⟨_, _, rfl, rfl, hz, hp.here hs (.int _)⟩
    · exact hp.elim
  · exact hp.elim
theorem ob_mod : OpR X (binaryOp .Mod) (rD2 (kw X) (semBop .mod)) := by
  refine opI op_mod fun x y H Q ⟨W, m, S, d, e, hs, rd, re, hp⟩ => ?_
  unfold semBop at hp
  dsimp only at hp
  split at hp
  · cases rd; cases re
    split at hp
    · rename_i hz
      exact ⟨_, _, rfl, rfl, hz, hp.here hs (.int _)⟩
    · exact hp.elim
  · exact hp.elim
theorem ob_pow : OpR X (binaryOp .Pow) (rD2 (kw X) (semBop .pow)) := by
  refine opI op_pow fun x y H Q ⟨W, m, S, d, e, hs, rd, re, hp⟩ => ?_
  unfold semBop at hp
  dsimp only at hp
  split at hp
  · cases rd; cases re
    split at hp
    · rename_i hz
      simp only [powOk, Bool.and_eq_true, decide_eq_true_eq] at hz
      exact ⟨_, _, rfl, rfl, ⟨hz.1.1, hz.1.2, hz.2⟩, hp.here hs (.int _)⟩
    · exact hp.elim
  · exact hp.elim
theorem ob : ∀ p : Bop, OpR X (binaryOp p.op) (rD2 (kw X) (semBop p))
  | .add => ob_add | .sub => ob_sub | .mul => ob_mul | .fdiv => ob_fdiv | .mod => ob_mod | .pow => ob_pow
end

/-! ### comparisons -/
inductive Cop where
  | eq | ne | lt | le | gt | ge | is | isnot | in_ | notin
  deriving DecidableEq
def Cop.op : Cop → CmpOp
  | .eq => .Eq | .ne => .NotEq | .lt => .Lt | .le => .LtE | .gt => .Gt | .ge => .GtE | .is => .Is | .isnot => .IsNot | .in_ => .In | .notin => .NotIn
/-- == of data -/
def eqD (d e : D) (S : Store) : Option Bool := match d, e with
  | .int i, .int j => some (decide (i = j))
  | .str x, .str y => some (decide (x = y))
  | .bl x, .bl y => some (decide (x = y))
  | .non, .non => some true
  | d, e => match toPy S 70 d, toPy S 70 e with
    | some p, some q => if (SeqAt.shaped p && SeqAt.shaped q) = true then some (PyData.eqv p q) else none
    | _, _ => none
def isNon : D → Bool
  | .non => true
  | _ => false
def flatD : D → Bool
  | .non => true | .bl _ => true | .int _ => true | .str _ => true
  | _ => false
def eqF : D → D → Bool
  | .non, .non => true
  | .bl a, .bl b => a == b
  | .bl a, .int b => (if a then 1 else 0) == b
  | .int a, .bl b => a == (if b then 1 else 0)
  | .int a, .int b => a == b
  | .str a, .str b => a == b
  | _, _ => false
/-- x in y -/
def inD (d e : D) (S : Store) : Option Bool := match d, e with
  | .str x, .str y => some (!(Builtin.Str.occurrences y x 0 y.length 1).isEmpty)
  | d, e => match seqAt S e with
    | some ys => if (flatD d && ys.all flatD) = true then some (ys.any fun y => eqF y d) else match toPy S 70 d, toPy S 70 e with
      | some p, some (.list qs) => if (SeqAt.shaped p && SeqAt.shaped (.list qs)) = true then some (qs.any fun z => PyData.eqv z p) else none
      | _, _ => none
    | none => none
def ltD (d e : D) : Option Bool := match d, e with
  | .int i, .int j => some (decide (i < j))
  | .str x, .str y => some (decide (x.cps.toList < y.cps.toList))
  | _, _ => none
def semCop (p : Cop) (d e : D) (S : Store) : O D := match p with
  | .eq => match eqD d e S with | some b => .ok (.bl b) S | none => .no
  | .ne => match eqD d e S with | some b => .ok (.bl (!b)) S | none => .no
  | .lt => match ltD d e with | some b => .ok (.bl b) S | none => .no
  | .le => match ltD e d with | some b => .ok (.bl (!b)) S | none => .no
  | .gt => match ltD e d with | some b => .ok (.bl b) S | none => .no
  | .ge => match ltD d e with | some b => .ok (.bl (!b)) S | none => .no
  | .is => match d, e with
    | d, .non => .ok (.bl (isNon d)) S
    | .bl a, .bl b => .ok (.bl (decide (a = b))) S
    | _, _ => .no
  | .isnot => match d, e with
    | d, .non => .ok (.bl (!isNon d)) S
    | .bl a, .bl b => .ok (.bl (!decide (a = b))) S
    | _, _ => .no
  | .in_ => match inD d e S with | some b => .ok (.bl b) S | none => .no
  | .notin => match inD d e S with | some b => .ok (.bl (!b)) S | none => .no
section
variable {K : Fw} {m : List Addr} {H : Hp} {S : Store}
theorem eqD_r {d e : D} {x y : V} {b : Bool} (hs : Sim K m S H) (rd : RV K m H d x) (re : RV K m H e y) (h : eqD d e S = some b) :
    (scal x y = true ∧ decide (x = y) = b) ∨ ∃ p q, Dp K.K H x p ∧ Dp K.K H y q ∧ SeqAt.shaped p = true ∧ SeqAt.shaped q = true ∧ PyData.eqv p q = b := by
  unfold eqD at h
  split at h
  · cases rd; cases re; cases h; exact .inl ⟨rfl, by simp⟩
  · cases rd; cases re; cases h; exact .inl ⟨rfl, by simp⟩
  · cases rd; cases re; cases h; exact .inl ⟨rfl, by simp⟩
  · cases rd; cases re; cases h; exact .inl ⟨rfl, by simp⟩
  · split at h
    · rename_i h1 h2
      split at h
      · rename_i hz
        simp only [Bool.and_eq_true] at hz
        exact .inr ⟨_, _, toPy_dp hs _ _ _ _ h1 rd, toPy_dp hs _ _ _ _ h2 re, hz.1, hz.2, Option.some.inj h⟩
      · cases h
    · cases h
theorem flat_r {d : D} {x : V} (r : RV K m H d x) (f : flatD d = true) : flatV x = true := by
  cases r <;> first | rfl | cases f
theorem flats_r : ∀ {ds : List D} {xs : List V}, RVs K m H ds xs → ds.all flatD = true → xs.all flatV = true
  | _, _, .nil, _ => rfl
  | _, _, .cons h t, f => by
    simp only [List.all_cons, Bool.and_eq_true] at f ⊢
    exact ⟨flat_r h f.1, flats_r t f.2⟩
theorem eqF_r {d e : D} {x y : V} (r : RV K m H d x) (r' : RV K m H e y) (f : flatD d = true) (f' : flatD e = true) : eqV x y = eqF d e := by
  cases r <;> cases r' <;> first | rfl | cases f | cases f'
theorem any_r {d : D} {x : V} (r : RV K m H d x) (f : flatD d = true) : ∀ {ds : List D} {xs : List V}, RVs K m H ds xs → ds.all flatD = true → (xs.any fun y => eqV y x) = ds.any fun y => eqF y d
  | _, _, .nil, _ => rfl
  | _, _, .cons h t, g => by
    simp only [List.all_cons, Bool.and_eq_true] at g
    rw [List.any_cons, List.any_cons, eqF_r h r g.1 f, any_r r f t g.2]
theorem inD_r {d e : D} {x y : V} {b : Bool} (hs : Sim K m S H) (rd : RV K m H d x) (re : RV K m H e y) (h : inD d e S = some b) :
    (∃ i j, x = .str i ∧ y = .str j ∧ (!(Builtin.Str.occurrences j i 0 j.length 1).isEmpty) = b) ∨
    (∃ p xs, y = .ref p ∧ (SqL K.K H p xs ∨ SqT K.K H p xs) ∧ flatV x = true ∧ xs.all flatV = true ∧ inV x xs = b) ∨
    ∃ p ds, Dp K.K H x p ∧ Dp K.K H y (.list ds) ∧ SeqAt.shaped p = true ∧ SeqAt.shaped (.list ds) = true ∧ (ds.any fun z => PyData.eqv z p) = b := by
  unfold inD at h
  split at h
  · cases rd; cases re; exact .inl ⟨_, _, rfl, rfl, Option.some.inj h⟩
  · split at h
    · rename_i h1
      split at h
      · rename_i hz
        simp only [Bool.and_eq_true] at hz
        obtain ⟨a, vs, rfl, sq, r⟩ := seqAt_sq hs re h1
        refine .inr (.inl ⟨a, vs, rfl, sq, flat_r rd hz.1, flats_r r hz.2, ?_⟩)
        unfold inV
        rw [any_r rd hz.1 r hz.2]
        exact Option.some.inj h
      · split at h
        · rename_i h2 h3
          split at h
          · rename_i hz
            simp only [Bool.and_eq_true] at hz
            exact .inr (.inr ⟨_, _, toPy_dp hs _ _ _ _ h2 rd, toPy_dp hs _ _ _ _ h3 re, hz.1, hz.2, Option.some.inj h⟩)
          · cases h
        · cases h
    · cases h
theorem isNon_r {d : D} {x : V} (r : RV K m H d x) : decide (x = .non) = isNon d := by
  cases r <;> first | rfl | simp [isNon]
end
section
variable {X : Cx} {k : Nat}
theorem oc_eq (hr : Room k X.A) : OpR X (compareOp .Eq) (rD2 (kw X) (semCop .eq)) := by
  refine opI (op_eq.or (op_eqD hr.units)) fun x y H Q ⟨W, m, S, d, e, hs, rd, re, hp⟩ => ?_
  unfold semCop at hp
  dsimp only at hp
  split at hp
  · rename_i h
    have q := hp.here hs (.bl _)
    rcases eqD_r hs rd re h with ⟨h1, h2⟩ | ⟨p, p', h1, h2, h3, h4, h5⟩
    · exact .inl ⟨h1, by rw [h2]; exact q⟩
    · exact .inr ⟨p, p', h1, h2, h3, h4, by rw [h5]; exact q⟩
  · exact hp.elim
theorem oc_ne (hr : Room k X.A) : OpR X (compareOp .NotEq) (rD2 (kw X) (semCop .ne)) := by
  refine opI (op_ne.or (op_neD hr.units)) fun x y H Q ⟨W, m, S, d, e, hs, rd, re, hp⟩ => ?_
  unfold semCop at hp
  dsimp only at hp
  split at hp
  · rename_i h
    have q := hp.here hs (.bl _)
    rcases eqD_r hs rd re h with ⟨h1, h2⟩ | ⟨p, p', h1, h2, h3, h4, h5⟩
    · exact .inl ⟨h1, by rw [h2]; exact q⟩
    · exact .inr ⟨p, p', h1, h2, h3, h4, by rw [h5]; exact q⟩
  · exact hp.elim
theorem ltD_r {K : Fw} {m : List Addr} {H : Hp} {d e : D} {x y : V} {b : Bool} (rd : RV K m H d x) (re : RV K m H e y) (h : ltD d e = some b) :
    (∃ i j, x = .int i ∧ y = .int j ∧ decide (i < j) = b) ∨ ∃ i j : Str, x = .str i ∧ y = .str j ∧ decide (i.cps.toList < j.cps.toList) = b := by
  unfold ltD at h
  split at h
  · cases rd; cases re; exact .inl ⟨_, _, rfl, rfl, Option.some.inj h⟩
  · cases rd; cases re; exact .inr ⟨_, _, rfl, rfl, Option.some.inj h⟩
  · cases h
theorem nlt {i j : Int} : decide (j ≤ i) = !decide (i < j) := by
  by_cases h : i < j
  · rw [decide_eq_true h, decide_eq_false (by omega)]; rfl
  · rw [decide_eq_false h, decide_eq_true (by omega)]; rfl
theorem oc_lt : OpR X (compareOp .Lt) (rD2 (kw X) (semCop .lt)) := by
  refine opI (op_lt.or op_lt_str) fun x y H Q ⟨W, m, S, d, e, hs, rd, re, hp⟩ => ?_
  unfold semCop at hp
  dsimp only at hp
  split at hp
  · rename_i h
    have q := hp.here hs (.bl _)
    rcases ltD_r rd re h with ⟨i, j, rfl, rfl, h⟩ | ⟨i, j, rfl, rfl, h⟩
    · exact .inl ⟨_, _, rfl, rfl, by dsimp only; rw [h]; exact q⟩
    · exact .inr ⟨_, _, rfl, rfl, by rw [h]; exact q⟩
  · exact hp.elim
theorem oc_le : OpR X (compareOp .LtE) (rD2 (kw X) (semCop .le)) := by
  refine opI (op_le.or op_le_str) fun x y H Q ⟨W, m, S, d, e, hs, rd, re, hp⟩ => ?_
  unfold semCop at hp
  dsimp only at hp
  split at hp
  · rename_i h
    have q := hp.here hs (.bl _)
    rcases ltD_r re rd h with ⟨i, j, rfl, rfl, h⟩ | ⟨i, j, rfl, rfl, h⟩
    · exact .inl ⟨_, _, rfl, rfl, by dsimp only; rw [nlt, h]; exact q⟩
    · exact .inr ⟨_, _, rfl, rfl, by rw [h]; exact q⟩
  · exact hp.elim
theorem oc_gt : OpR X (compareOp .Gt) (rD2 (kw X) (semCop .gt)) := by
  refine opI (op_gt.or op_gt_str) fun x y H Q ⟨W, m, S, d, e, hs, rd, re, hp⟩ => ?_
  unfold semCop at hp
  dsimp only at hp
  split at hp
  · rename_i h
    have q := hp.here hs (.bl _)
    rcases ltD_r re rd h with ⟨i, j, rfl, rfl, h⟩ | ⟨i, j, rfl, rfl, h⟩
    · exact .inl ⟨_, _, rfl, rfl, by dsimp only; rw [h]; exact q⟩
    · exact .inr ⟨_, _, rfl, rfl, by rw [h]; exact q⟩
  · exact hp.elim
theorem oc_ge : OpR X (compareOp .GtE) (rD2 (kw X) (semCop .ge)) := by
  refine opI (op_ge.or op_ge_str) fun x y H Q ⟨W, m, S, d, e, hs, rd, re, hp⟩ => ?_
  unfold semCop at hp
  dsimp only at hp
  split at hp
  · rename_i h
    have q := hp.here hs (.bl _)
    rcases ltD_r rd re h with ⟨i, j, rfl, rfl, h⟩ | ⟨i, j, rfl, rfl, h⟩
    · exact .inl ⟨_, _, rfl, rfl, by dsimp only; rw [nlt, h]; exact q⟩
    · exact .inr ⟨_, _, rfl, rfl, by rw [h]; exact q⟩
  · exact hp.elim
theorem oc_is : OpR X (compareOp .Is) (rD2 (kw X) (semCop .is)) := by
  refine opI (op_isN.or op_isBl) fun x y H Q ⟨W, m, S, d, e, hs, rd, re, hp⟩ => ?_
  unfold semCop at hp
  dsimp only at hp
  split at hp
  · have q := hp.here hs (.bl _)
    cases re
    exact .inl ⟨rfl, by rw [isNon_r rd]; exact q⟩
  · have q := hp.here hs (.bl _)
    cases rd; cases re
    exact .inr ⟨_, _, rfl, rfl, q⟩
  · exact hp.elim
theorem oc_isnot : OpR X (compareOp .IsNot) (rD2 (kw X) (semCop .isnot)) := by
  refine opI (op_notN.or op_notBl) fun x y H Q ⟨W, m, S, d, e, hs, rd, re, hp⟩ => ?_
  unfold semCop at hp
  dsimp only at hp
  split at hp
  · have q := hp.here hs (.bl _)
    cases re
    exact .inl ⟨rfl, by rw [isNon_r rd]; exact q⟩
  · have q := hp.here hs (.bl _)
    cases rd; cases re
    exact .inr ⟨_, _, rfl, rfl, q⟩
  · exact hp.elim
theorem room65 {A : Around} (hr : Room k A) : A.units + 65 < cLine := by have := hr.un; omega
theorem oc_in (hr : Room k X.A) : OpR X (compareOp .In) (rD2 (kw X) (semCop .in_)) := by
  refine opI (op_in_str.or (op_in_seq.or (op_inD (room65 hr)))) fun x y H Q ⟨W, m, S, d, e, hs, rd, re, hp⟩ => ?_
  unfold semCop at hp
  dsimp only at hp
  split at hp
  · rename_i h
    have q := hp.here hs (.bl _)
    rcases inD_r hs rd re h with ⟨i, j, rfl, rfl, h⟩ | ⟨p, xs, rfl, h1, h2, h3, h⟩ | ⟨p, ds, h1, h2, h3, h4, h⟩
    · exact .inl ⟨_, _, rfl, rfl, by rw [h]; exact q⟩
    · exact .inr (.inl ⟨_, _, rfl, h1, h2, h3, by show Q (.bl (inV x xs)) H; rw [h]; exact q⟩)
    · exact .inr (.inr ⟨_, _, h1, h2, h3, h4, by rw [h]; exact q⟩)
  · exact hp.elim
theorem oc_notin (hr : Room k X.A) : OpR X (compareOp .NotIn) (rD2 (kw X) (semCop .notin)) := by
  refine opI (op_notIn_str.or (op_notIn_seq.or (op_notInD (room65 hr)))) fun x y H Q ⟨W, m, S, d, e, hs, rd, re, hp⟩ => ?_
  unfold semCop at hp
  dsimp only at hp
  split at hp
  · rename_i h
    have q := hp.here hs (.bl _)
    rcases inD_r hs rd re h with ⟨i, j, rfl, rfl, h⟩ | ⟨p, xs, rfl, h1, h2, h3, h⟩ | ⟨p, ds, h1, h2, h3, h4, h⟩
    · exact .inl ⟨_, _, rfl, rfl, by rw [h]; exact q⟩
    · exact .inr (.inl ⟨_, _, rfl, h1, h2, h3, by show Q (.bl (!inV x xs)) H; rw [h]; exact q⟩)
    · exact .inr (.inr ⟨_, _, h1, h2, h3, h4, by rw [h]; exact q⟩)
  · exact hp.elim
theorem oc (hr : Room k X.A) : ∀ p : Cop, OpR X (compareOp p.op) (rD2 (kw X) (semCop p))
  | .eq => oc_eq hr | .ne => oc_ne hr | .lt => oc_lt | .le => oc_le | .gt => oc_gt | .ge => oc_ge | .is => oc_is | .isnot => oc_isnot | .in_ => oc_in hr | .notin => oc_notin hr
end
end Mz

end

section
set_option Elab.async false
set_option linter.all false
set_option maxRecDepth 100000
namespace Mz
open PySem PySem.Spec L2

/-! ### items and slices -/
def semItem (d e : D) (S : Store) : O D := match e with
  | .int i => match d with
    | .str z => if z.length ≤ sizeLine then (match atI z.cps.toList i with | some c => .ok (.str ⟨#[c]⟩) S | none => .no) else .no
    | d => match seqAt S d with
      | some xs => match atI xs i with
        | some x => .ok x S
        | none => .no
      | none => .no
  | _ => .no
theorem RVs.atI {K : Fw} {m : List Addr} {H : Hp} {ds : List D} {vs : List V} {i : Int} {d : D} (r : RVs K m H ds vs) (e : L2.atI ds i = some d) : ∃ v, L2.atI vs i = some v ∧ RV K m H d v := by
  unfold L2.atI at e ⊢
  rw [← r.length]
  cases h : ixN ds.length i with
  | none => rw [h] at e; cases e
  | some j =>
    rw [h] at e
    exact r.get e
def cutD (xs : List D) (lo hi : Option Int) : List D := (xs.drop (HT.sIx xs.length 0 lo)).take (HT.sIx xs.length xs.length hi - HT.sIx xs.length 0 lo)
theorem RVs.cut {K : Fw} {m : List Addr} {H : Hp} {ds : List D} {vs : List V} (r : RVs K m H ds vs) (lo hi : Option Int) : RVs K m H (cutD ds lo hi) (cutV vs lo hi) := by
  unfold cutD cutV
  rw [← r.length]
  exact (r.drop _).take _
def semSlice (d : D) (lo hi : Option Int) (S : Store) : O D := match d with
  | .str z => if z.length ≤ sizeLine then .ok (.str (cutS z lo hi)) S else .no
  | .tup xs => .ok (.tup (cutD xs lo hi)) S
  | d => match listAt S d with
    | some xs => alloc (cutD xs lo hi) S
    | none => .no
def rDSl (K : Fw) (f : D → Option Int → Option Int → Store → O D) : V → Option Int → Option Int → Hp → VK → Prop := fun x lo hi H Q => ∃ W m S d, Sim K m S H ∧ RV K m H d x ∧ PostE K W m H Q (f d lo hi S)
section
variable {X : Cx}
theorem oi_item : IxR X (rD2 (kw X) semItem) := by
  refine ixI ix_seq fun x y H Q ⟨W, m, S, d, e, hs, rd, re, hp⟩ => ?_
  unfold semItem at hp
  split at hp
  · cases re
    split at hp
    · cases rd
      split at hp
      · rename_i hz
        split at hp
        · rename_i ha
          exact .inr (.inr ⟨_, _, _, rfl, rfl, hz, ha, hp.here hs (.str _)⟩)
        · exact hp.elim
      · exact hp.elim
    · split at hp
      · rename_i h1
        split at hp
        · rename_i h2
          obtain ⟨a, vs, rfl, sq, r⟩ := seqAt_sq hs rd h1
          obtain ⟨v, h3, rv⟩ := r.atI h2
          rcases sq with sq | sq
          · exact .inl ⟨_, _, _, _, rfl, rfl, sq, h3, hp.here hs rv⟩
          · exact .inr (.inl ⟨_, _, _, _, rfl, rfl, sq, h3, hp.here hs rv⟩)
        · exact hp.elim
      · exact hp.elim
  · exact hp.elim
theorem cutV_whole {xs : List V} {lo hi : Option Int} (h : HT.sIx xs.length 0 lo = 0 ∧ HT.sIx xs.length xs.length hi = xs.length) : cutV xs lo hi = xs := by
  unfold cutV
  rw [h.1, h.2]
  simp
theorem cutD_whole {xs : List D} {lo hi : Option Int} (h : HT.sIx xs.length 0 lo = 0 ∧ HT.sIx xs.length xs.length hi = xs.length) : cutD xs lo hi = xs := by
  unfold cutD
  rw [h.1, h.2]
  simp
theorem os_slice : SlR X (rDSl (kw X) semSlice) := by
  refine slI (sl_str.or (sl_tupA.or sl_list)) fun x lo hi H Q ⟨W, m, S, d, hs, rd, hp⟩ => ?_
  unfold semSlice at hp
  split at hp
  · cases rd
    split at hp
    · rename_i hz
      exact .inl ⟨_, rfl, hz, hp.here hs (.str _)⟩
    · exact hp.elim
  · cases rd with | tup h r =>
    refine .inr (.inl ⟨_, _, rfl, h, fun hw => ?_, fun hw p hn => hp.newT hs (r.cut lo hi) hn⟩)
    rw [← r.length] at hw
    rw [cutD_whole hw] at hp
    exact hp.here hs (.tup h r)
  · split at hp
    · rename_i h1
      obtain ⟨a, vs, rfl, sq, r⟩ := listAt_sq hs rd h1
      exact .inr (.inr ⟨a, vs, rfl, sq, fun p hn => hp.newL hs (r.cut lo hi) hn⟩)
    · exact hp.elim
end

/-! ### builtins -/
def asStr : D → Option Str
  | .str x => some x
  | _ => none
def asInt : D → Option Int
  | .int x => some x
  | _ => none
def asBl : D → Option Bool
  | .bl x => some x
  | _ => none
section
variable {K : Fw} {m : List Addr} {H : Hp}
theorem mapM_cons_some {α β : Type} {f : α → Option β} {x : α} {xs : List α} {ys : List β} (h : (x :: xs).mapM f = some ys) : ∃ y r, f x = some y ∧ xs.mapM f = some r ∧ ys = y :: r := by
  simp only [List.mapM_cons] at h
  cases e1 : f x with
  | none => rw [e1] at h; cases h
  | some y =>
    rw [e1] at h
    cases e2 : xs.mapM f with
    | none => rw [e2] at h; cases h
    | some r => rw [e2] at h; cases h; exact ⟨y, r, rfl, rfl, rfl⟩
theorem strs_r : ∀ {ds : List D} {vs : List V} {ys : List Str}, RVs K m H ds vs → ds.mapM asStr = some ys → vs = ys.map V.str
  | _, _, _, .nil, e => by simp at e; subst e; rfl
  | _, _, _, .cons h t, e => by
    obtain ⟨y, r, e1, e2, rfl⟩ := mapM_cons_some e
    rw [strs_r t e2]
    cases h <;> cases e1
    rfl
theorem ints_r : ∀ {ds : List D} {vs : List V} {ys : List Int}, RVs K m H ds vs → ds.mapM asInt = some ys → vs = ys.map V.int
  | _, _, _, .nil, e => by simp at e; subst e; rfl
  | _, _, _, .cons h t, e => by
    obtain ⟨y, r, e1, e2, rfl⟩ := mapM_cons_some e
    rw [ints_r t e2]
    cases h <;> cases e1
    rfl
theorem bls_r : ∀ {ds : List D} {vs : List V} {ys : List Bool}, RVs K m H ds vs → ds.mapM asBl = some ys → vs = ys.map V.bl
  | _, _, _, .nil, e => by simp at e; subst e; rfl
  | _, _, _, .cons h t, e => by
    obtain ⟨y, r, e1, e2, rfl⟩ := mapM_cons_some e
    rw [bls_r t e2]
    cases h <;> cases e1
    rfl
theorem rvs_strs : ∀ ys : List Str, RVs K m H (ys.map D.str) (ys.map V.str)
  | [] => .nil
  | y :: ys => .cons (.str y) (rvs_strs ys)
theorem RVs.one {d : D} {vs : List V} (r : RVs K m H [d] vs) : ∃ v, vs = [v] ∧ RV K m H d v := by
  cases r with | cons h t => cases t; exact ⟨_, rfl, h⟩
theorem RVs.two {d e : D} {vs : List V} (r : RVs K m H [d, e] vs) : ∃ v w, vs = [v, w] ∧ RV K m H d v ∧ RV K m H e w := by
  cases r with | cons h t => cases t with | cons h2 t => cases t; exact ⟨_, _, rfl, h, h2⟩
end
inductive Blt where
  | len | abs | max2 | min2 | int1 | str1 | ord1 | list1 | tuple1 | all1 | any1 | sum1
  deriving DecidableEq
def Blt.name : Blt → Str
  | .len => "len" | .abs => "abs" | .max2 => "max" | .min2 => "min" | .int1 => "int" | .str1 => "str" | .ord1 => "ord" | .list1 => "list" | .tuple1 => "tuple" | .all1 => "all" | .any1 => "any" | .sum1 => "sum"
/-- the value of the name -/
def Blt.val : Blt → Value
  | .len => .builtin "len" | .abs => .builtin "abs" | .max2 => .builtin "max" | .min2 => .builtin "min" | .int1 => .type "int" | .str1 => .type "str" | .ord1 => .builtin "ord" | .list1 => .type "list" | .tuple1 => .type "tuple"
  | .all1 => .builtin "all" | .any1 => .builtin "any" | .sum1 => .builtin "sum"
def semBlt (p : Blt) (ds : List D) (S : Store) : O D := match p with
  | .len => match ds with
    | [.str z] => if z.length ≤ sizeLine then .ok (.int z.length) S else .no
    | [d] => match seqAt S d with
      | some xs => .ok (.int xs.length) S
      | none => .no
    | _ => .no
  | .abs => match ds with
    | [.int i] => .ok (.int (if i < 0 then -i else i)) S
    | _ => .no
  | .max2 => match ds with
    | [.int i, .int j] => .ok (.int (if j > i then j else i)) S
    | _ => .no
  | .min2 => match ds with
    | [.int i, .int j] => .ok (.int (if j < i then j else i)) S
    | _ => .no
  | .int1 => match ds with
    | [.int i] => .ok (.int i) S
    | [.bl b] => .ok (.int (if b then 1 else 0)) S
    | [.str a] => if a.length ≤ 640 then (match PySem.intText? a with | some n => .ok (.int n) S | none => .no) else .no
    | _ => .no
  | .str1 => match ds with
    | [.int i] => if i.natAbs.log2 < 1920 then .ok (.str (toString i)) S else .no
    | [.str a] => .ok (.str a) S
    | _ => .no
  | .ord1 => match ds with
    | [.str x] => if x.length = 1 then .ok (.int (x.cps.getD 0 0 : Nat)) S else .no
    | _ => .no
  | .list1 => match ds with
    | [d] => match seqAt S d with
      | some xs => alloc xs S
      | none => .no
    | _ => .no
  | .tuple1 => match ds with
    | [.tup xs] => .ok (.tup xs) S
    | [d] => match listAt S d with
      | some xs => .ok (.tup xs) S
      | none => .no
    | _ => .no
  | .all1 => match ds with
    | [d] => match listAt S d with
      | some xs => match xs.mapM asBl with
        | some bs => .ok (.bl (bs.all id)) S
        | none => .no
      | none => .no
    | _ => .no
  | .any1 => match ds with
    | [d] => match listAt S d with
      | some xs => match xs.mapM asBl with
        | some bs => .ok (.bl (bs.any id)) S
        | none => .no
      | none => .no
    | _ => .no
  | .sum1 => match ds with
    | [d] => match listAt S d with
      | some xs => match xs.mapM asInt with
        | some bs => .ok (.int bs.sum) S
        | none => .no
      | none => .no
    | _ => .no
section
variable {X : Cx}
theorem blt_len : CallR X (.builtin "len") (rDL (kw X) (semBlt .len)) := by
  refine crI (call_len_str.or call_len_seq) fun xs H Q ⟨W, m, S, ds, hs, rs, hp⟩ => ?_
  unfold semBlt at hp
  dsimp only at hp
  split at hp
  · obtain ⟨v, rfl, r⟩ := rs.one
    cases r
    split at hp
    · rename_i hz
      exact .inl ⟨_, rfl, hz, hp.here hs (.int _)⟩
    · exact hp.elim
  · obtain ⟨v, rfl, r⟩ := rs.one
    split at hp
    · rename_i h1
      obtain ⟨a, vs, rfl, sq, r'⟩ := seqAt_sq hs r h1
      exact .inr ⟨a, vs, rfl, sq, by rw [← r'.length]; exact hp.here hs (.int _)⟩
    · exact hp.elim
  · exact hp.elim
theorem blt_abs : CallR X (.builtin "abs") (rDL (kw X) (semBlt .abs)) := by
  refine crI call_abs fun xs H Q ⟨W, m, S, ds, hs, rs, hp⟩ => ?_
  unfold semBlt at hp
  dsimp only at hp
  split at hp
  · obtain ⟨v, rfl, r⟩ := rs.one
    cases r
    exact ⟨_, rfl, hp.here hs (.int _)⟩
  · exact hp.elim
theorem blt_max2 (hc : X.calm = true) : CallR X (.builtin "max") (rDL (kw X) (semBlt .max2)) := by
  refine crI (call_max2 hc) fun xs H Q ⟨W, m, S, ds, hs, rs, hp⟩ => ?_
  unfold semBlt at hp
  dsimp only at hp
  split at hp
  · obtain ⟨v, w, rfl, r, r'⟩ := rs.two
    cases r; cases r'
    exact ⟨_, _, rfl, hp.here hs (.int _)⟩
  · exact hp.elim
theorem blt_min2 (hc : X.calm = true) : CallR X (.builtin "min") (rDL (kw X) (semBlt .min2)) := by
  refine crI (call_min2 hc) fun xs H Q ⟨W, m, S, ds, hs, rs, hp⟩ => ?_
  unfold semBlt at hp
  dsimp only at hp
  split at hp
  · obtain ⟨v, w, rfl, r, r'⟩ := rs.two
    cases r; cases r'
    exact ⟨_, _, rfl, hp.here hs (.int _)⟩
  · exact hp.elim
theorem blt_int1 : CallR X (.type "int") (rDL (kw X) (semBlt .int1)) := by
  refine crI (call_int1.or call_int_str) fun xs H Q ⟨W, m, S, ds, hs, rs, hp⟩ => ?_
  unfold semBlt at hp
  dsimp only at hp
  split at hp
  · obtain ⟨v, rfl, r⟩ := rs.one
    cases r
    exact .inl (.inl ⟨_, rfl, hp.here hs (.int _)⟩)
  · obtain ⟨v, rfl, r⟩ := rs.one
    cases r
    exact .inl (.inr ⟨_, rfl, hp.here hs (.int _)⟩)
  · obtain ⟨v, rfl, r⟩ := rs.one
    cases r
    split at hp
    · rename_i hz
      split at hp
      · rename_i hn
        exact .inr ⟨_, _, rfl, hn, hz, hp.here hs (.int _)⟩
      · exact hp.elim
    · exact hp.elim
  · exact hp.elim
theorem blt_str1 : CallR X (.type "str") (rDL (kw X) (semBlt .str1)) := by
  refine crI (call_str_int.or SkE.call_str_str) fun xs H Q ⟨W, m, S, ds, hs, rs, hp⟩ => ?_
  unfold semBlt at hp
  dsimp only at hp
  split at hp
  · obtain ⟨v, rfl, r⟩ := rs.one
    cases r
    split at hp
    · rename_i hz
      exact .inl ⟨_, rfl, hz, hp.here hs (.str _)⟩
    · exact hp.elim
  · obtain ⟨v, rfl, r⟩ := rs.one
    cases r
    exact .inr ⟨_, rfl, hp.here hs (.str _)⟩
  · exact hp.elim
theorem blt_ord1 : CallR X (.builtin "ord") (rDL (kw X) (semBlt .ord1)) := by
  refine crI call_ord fun xs H Q ⟨W, m, S, ds, hs, rs, hp⟩ => ?_
  unfold semBlt at hp
  dsimp only at hp
  split at hp
  · obtain ⟨v, rfl, r⟩ := rs.one
    cases r
    split at hp
    · rename_i hz
      exact ⟨_, rfl, hz, hp.here hs (.int _)⟩
    · exact hp.elim
  · exact hp.elim
theorem blt_list1 : CallR X (.type "list") (rDL (kw X) (semBlt .list1)) := by
  refine crI call_list_of fun xs H Q ⟨W, m, S, ds, hs, rs, hp⟩ => ?_
  unfold semBlt at hp
  dsimp only at hp
  split at hp
  · obtain ⟨v, rfl, r⟩ := rs.one
    split at hp
    · rename_i h1
      obtain ⟨a, vs, rfl, sq, r'⟩ := seqAt_sq hs r h1
      exact ⟨a, vs, rfl, sq, fun l hn => hp.newL hs r' hn⟩
    · exact hp.elim
  · exact hp.elim
theorem blt_tuple1 : CallR X (.type "tuple") (rDL (kw X) (semBlt .tuple1)) := by
  refine crI call_tuple_of fun xs H Q ⟨W, m, S, ds, hs, rs, hp⟩ => ?_
  unfold semBlt at hp
  dsimp only at hp
  split at hp
  · obtain ⟨v, rfl, r⟩ := rs.one
    cases r with | tup h r => exact ⟨_, _, rfl, .inr ⟨h, hp.here hs (.tup h r)⟩⟩
  · obtain ⟨v, rfl, r⟩ := rs.one
    split at hp
    · rename_i h1
      obtain ⟨a, vs, rfl, sq, r'⟩ := listAt_sq hs r h1
      exact ⟨a, vs, rfl, .inl ⟨sq, fun l hn => hp.newT hs r' hn⟩⟩
    · exact hp.elim
  · exact hp.elim
theorem blt_all1 (hc : X.calm = true) : CallR X (.builtin "all") (rDL (kw X) (semBlt .all1)) := by
  refine crI (cr_all hc) fun xs H Q ⟨W, m, S, ds, hs, rs, hp⟩ => ?_
  unfold semBlt at hp
  dsimp only at hp
  split at hp
  · obtain ⟨v, rfl, r⟩ := rs.one
    split at hp
    · rename_i h1
      obtain ⟨a, vs, rfl, sq, r'⟩ := listAt_sq hs r h1
      split at hp
      · rename_i h2
        exact ⟨a, _, rfl, by rw [← bls_r r' h2]; exact sq, hp.here hs (.bl _)⟩
      · exact hp.elim
    · exact hp.elim
  · exact hp.elim
theorem blt_any1 (hc : X.calm = true) : CallR X (.builtin "any") (rDL (kw X) (semBlt .any1)) := by
  refine crI (cr_any hc) fun xs H Q ⟨W, m, S, ds, hs, rs, hp⟩ => ?_
  unfold semBlt at hp
  dsimp only at hp
  split at hp
  · obtain ⟨v, rfl, r⟩ := rs.one
    split at hp
    · rename_i h1
      obtain ⟨a, vs, rfl, sq, r'⟩ := listAt_sq hs r h1
      split at hp
      · rename_i h2
        exact ⟨a, _, rfl, by rw [← bls_r r' h2]; exact sq, hp.here hs (.bl _)⟩
      · exact hp.elim
    · exact hp.elim
  · exact hp.elim
theorem blt_sum1 (hc : X.calm = true) : CallR X (.builtin "sum") (rDL (kw X) (semBlt .sum1)) := by
  refine crI (cr_sum hc) fun xs H Q ⟨W, m, S, ds, hs, rs, hp⟩ => ?_
  unfold semBlt at hp
  dsimp only at hp
  split at hp
  · obtain ⟨v, rfl, r⟩ := rs.one
    split at hp
    · rename_i h1
      obtain ⟨a, vs, rfl, sq, r'⟩ := listAt_sq hs r h1
      split at hp
      · rename_i h2
        exact ⟨a, _, rfl, by rw [← ints_r r' h2]; exact sq, hp.here hs (.int _)⟩
      · exact hp.elim
    · exact hp.elim
  · exact hp.elim
theorem blt_ok (hc : X.calm = true) : ∀ p : Blt, CallR X p.val (rDL (kw X) (semBlt p))
  | .len => blt_len | .abs => blt_abs | .max2 => blt_max2 hc | .min2 => blt_min2 hc | .int1 => blt_int1 | .str1 => blt_str1 | .ord1 => blt_ord1 | .list1 => blt_list1 | .tuple1 => blt_tuple1
  | .all1 => blt_all1 hc | .any1 => blt_any1 hc | .sum1 => blt_sum1 hc
end

/-! ### methods of built-in types -/
inductive Mth where
  | append | extend | pop0 | pop1 | reverse | join | split1 | partition | find1 | find2 | insert | clear | rstripC | index1
  deriving DecidableEq
def Mth.ty : Mth → String
  | .append => "list" | .extend => "list" | .pop0 => "list" | .pop1 => "list" | .reverse => "list" | .join => "str" | .split1 => "str" | .partition => "str" | .find1 => "str" | .find2 => "str" | .insert => "list" | .clear => "list" | .rstripC => "str" | .index1 => "list"
def Mth.name : Mth → Str
  | .append => "append" | .extend => "extend" | .pop0 => "pop" | .pop1 => "pop" | .reverse => "reverse" | .join => "join" | .split1 => "split" | .partition => "partition" | .find1 => "find" | .find2 => "find" | .insert => "insert" | .clear => "clear" | .rstripC => "rstrip" | .index1 => "index"
def Mth.id : Mth → String
  | .append => "list.append" | .extend => "list.extend" | .pop0 => "list.pop" | .pop1 => "list.pop" | .reverse => "list.reverse" | .join => "str.join" | .split1 => "str.split" | .partition => "str.partition" | .find1 => "str.find" | .find2 => "str.find" | .insert => "list.insert" | .clear => "list.clear" | .rstripC => "str.rstrip" | .index1 => "list.index"
def tyOk (p : Mth) (d : D) (S : Store) : Bool := match d with
  | .str _ => p.ty == "str"
  | d => p.ty == "list" && (listAt S d).isSome
def semMth (p : Mth) (o : D) (ds : List D) (S : Store) : O D := match p with
  | .append => match lstAt S o, ds with
    | some (n, xs), [y] => if xs.length < sizeLine then .ok .non (S.set n (.lst (xs ++ [y]))) else .no
    | _, _ => .no
  | .extend => match lstAt S o, ds with
    | some (n, xs), [.tup ys] => if xs.length + ys.length ≤ sizeLine then .ok .non (S.set n (.lst (xs ++ ys))) else .no
    | some (n, xs), [y] => match lstAt S y with
      | some (_, ys) => if xs.length + ys.length ≤ sizeLine then .ok .non (S.set n (.lst (xs ++ ys))) else .no
      | none => .no
    | _, _ => .no
  | .pop0 => match lstAt S o, ds with
    | some (n, xs), [] => match xs[xs.length - 1]? with
      | some y => .ok y (S.set n (.lst xs.dropLast))
      | none => .no
    | _, _ => .no
  | .pop1 => match lstAt S o, ds with
    | some (n, xs), [.int i] => match ixN xs.length i with
      | some k => match xs[k]? with
        | some y => if (decide (-(2 ^ 63) ≤ i) && decide (i < 2 ^ 63)) = true then .ok y (S.set n (.lst (xs.eraseIdx k))) else .no
        | none => .no
      | none => .no
    | _, _ => .no
  | .reverse => match lstAt S o, ds with
    | some (n, xs), [] => .ok .non (S.set n (.lst xs.reverse))
    | _, _ => .no
  | .join => match o, ds with
    | .str a, [d] => match seqAt S d with
      | some xs => match xs.mapM asStr with
        | some ys => if (ys.map (·.length)).sum + ys.length * a.length ≤ 16777216 then .ok (.str (Txt.join a ys)) S else .no
        | none => .no
      | none => .no
    | _, _ => .no
  | .split1 => match o, ds with
    | .str a, [.str b] => if (decide (b.length ≠ 0) && decide (a.length + 2 ≤ sizeLine)) = true then alloc ((Txt.split a b).map .str) S else .no
    | _, _ => .no
  | .partition => match o, ds with
    | .str a, [.str b] => if (decide (b.length ≠ 0) && decide (a.length ≤ sizeLine)) = true then .ok (.tup [.str (Txt.partition a b).1, .str (Txt.partition a b).2.1, .str (Txt.partition a b).2.2]) S else .no
    | _, _ => .no
  | .find1 => match o, ds with
    | .str a, [.str b] => .ok (.int (Txt.find a b)) S
    | _, _ => .no
  | .find2 => match o, ds with
    | .str a, [.str b, .int i] => .ok (.int (Txt.find3 a b i)) S
    | _, _ => .no
  | .insert => match lstAt S o, ds with
    | some (n, xs), [.int i, y] => if (decide (xs.length < sizeLine) && decide (0 ≤ i) && decide (i < 2 ^ 63)) = true then .ok .non (S.set n (.lst (xs.take i.toNat ++ [y] ++ xs.drop i.toNat))) else .no
    | _, _ => .no
  | .clear => match lstAt S o, ds with
    | some (n, _), [] => .ok .non (S.set n (.lst []))
    | _, _ => .no
  | .rstripC => match o, ds with
    | .str a, [.str b] => if a.length ≤ sizeLine then .ok (.str (Txt.rstripChars a b)) S else .no
    | _, _ => .no
  | .index1 => match ds with
    | [y] => match toPy S 70 o, toPy S 70 y with
      | some (.list qs), some q => if (SeqAt.shaped (.list qs) && SeqAt.shaped q) = true then (match qs.findIdx? fun z => PyData.eqv z q with | some j => .ok (.int (j : Nat)) S | none => .no) else .no
      | _, _ => .no
    | _ => .no
theorem RVs.dropLast {K : Fw} {m : List Addr} {H : Hp} {ds : List D} {vs : List V} (r : RVs K m H ds vs) : RVs K m H ds.dropLast vs.dropLast := by
  rw [List.dropLast_eq_take, List.dropLast_eq_take, r.length]
  exact r.take _
section
open PyProof.Rows
/-- xs.extend of a tuple -/
theorem ext_tup {p q : Addr} {as bs : Array Value} {ka kb : Nat} {dd : Option Addr} {sl : Array (Option Value)} (hl : Builtin.List.listTooLong (as.size + bs.size) = false) (ha : as.size ≤ sizeLine) (hb : as.size + bs.size ≤ sizeLine + 1) :
    Meets (Builtin.«list.extend» ⟨[.ref p, .ref q], []⟩) (fun _ Rs t => t.heap.get? p = some ⟨.type "list", none, .seq as ka, #[]⟩ ∧ t.heap.get? q = some ⟨.type "tuple", dd, .seq bs kb, sl⟩ ∧
      Rs (.ok (.ret .none)) { t with heap := t.heap.update p (Obj.mapSeq (· ++ bs)) }) := by
  refine .of_wp fun P W A Rs t h => ?_
  have g1 := AutoSeq1.idx_int
  have g2 := AutoSeq1.sub_tuple_tuple
  have g3 := AutoSeq1.sub_list_list
  have g4 := AutoSeq1.sub_tuple_list
  have g5 := AutoSeq1.sub_list_tuple
  have g6 : ¬ ((!as.isEmpty && Builtin.List.listTooLong (as.size + bs.size)) = true) := by rw [hl, Bool.and_false]; exact Bool.false_ne_true
  have g7 : (as ++ bs).size ≤ sizeLine + 1 := by rw [Array.size_append]; exact hb
  obtain ⟨h1, h2, h3, h4, h5⟩ := t
  obtain ⟨e1, e2, q⟩ := h
  wp_walk using (wpAny_updateSeq e1 rfl (hz := ha) (_hz' := g7)), AutoSeq1.wpAny_loadPart' e1, AutoSeq1.wpAny_loadPart' e2
  exact ⟨_, rfl, q⟩
def rExtT (K : PySem.W.Frag) : V → List V → Hp → VK → Prop := fun x vs H Q => ∃ (l b : Addr) (xs zs : List V), H l = some (.lst xs) ∧ x = .ref l ∧ vs = [.ref b] ∧ SqT K H b zs ∧ xs.length + zs.length ≤ sizeLine ∧ Q .non (upd H l (.lst (xs ++ zs)))
theorem mt_extT {X : Cx} : MtM X "list.extend" (rExtT X.K) := by
  rintro pins s σ H x vs v us Q I rx rv ⟨l, b, xs, zs, hH, rfl, rfl, hB, hz, q⟩
  cases rx
  obtain ⟨u, rfl, ru⟩ := rv.one
  cases ru
  obtain ⟨z, its, n, r, hl, e⟩ := I.lstM hH
  obtain ⟨its2, r2, ⟨⟨_, dd, _, sl⟩, e2, hc, n2, hd⟩, _⟩ := I.tuple hB
  have hl2 := r2.length
  cases hc
  cases hd
  have sz : its.toArray.size + its2.toArray.size ≤ sizeLine := by simp only [List.size_toArray]; omega
  refine call_meets F.slot_list_extend ⟨_, e, rfl⟩ F.entry_list_extend (F.args_list_extend_2 _ _) (ext_tup (dd := dd) (sl := sl) (ka := n) (kb := n2) (notLongL sz) (by simp only [List.size_toArray]; omega) (Nat.le_succ_of_le sz)) ⟨e, e2, ?_⟩
  exact ⟨.non, _, I.lset (its' := its ++ its2) hH e (by simp) (r.append r2) (by rw [List.length_append]; omega), rfl, q⟩
end
section
variable {X : Cx}
theorem mm_append : MtR X "list.append" (rDM (kw X) (semMth .append)) := by
  refine mtI mt_append fun x xs H Q ⟨W, m, S, d, ds, hs, rd, rs, hp⟩ => ?_
  unfold semMth at hp
  dsimp only at hp
  split at hp
  · rename_i h1
    obtain ⟨a, vs, rfl, hm, e1, r1⟩ := lstAt_at hs rd h1
    obtain ⟨w, rfl, rw'⟩ := rs.one
    split at hp
    · rename_i hz
      exact ⟨a, vs, w, rfl, rfl, e1, by rw [← r1.length]; exact hz, hp.wr hs hm (r1.append (.cons rw' .nil)) .non⟩
    · exact hp.elim
  · exact hp.elim
theorem mm_extend : MtR X "list.extend" (rDM (kw X) (semMth .extend)) := by
  refine mtI (MtR.or mt_extT mt_extend) fun x xs H Q ⟨W, m, S, d, ds, hs, rd, rs, hp⟩ => ?_
  unfold semMth at hp
  dsimp only at hp
  split at hp
  · rename_i h1
    obtain ⟨a, vs, rfl, hm, e1, r1⟩ := lstAt_at hs rd h1
    obtain ⟨w, rfl, rw'⟩ := rs.one
    cases rw' with
    | @tup b ws zs hb rz =>
      split at hp
      · rename_i hz
        exact .inl ⟨a, b, vs, ws, e1, rfl, rfl, hb, by rw [← r1.length, ← rz.length]; exact hz, hp.wr hs hm (r1.append rz) .non⟩
      · exact hp.elim
  · rename_i h1
    rename_i h1 _
    obtain ⟨a, vs, rfl, hm, e1, r1⟩ := lstAt_at hs rd h1
    obtain ⟨w, rfl, rw'⟩ := rs.one
    refine .inr ?_
    split at hp
    · rename_i h2
      obtain ⟨b, ws, rfl, hm2, e2, r2⟩ := lstAt_at hs rw' h2
      split at hp
      · rename_i hz
        exact ⟨a, b, vs, ws, rfl, rfl, e1, e2, by rw [← r1.length, ← r2.length]; exact hz, hp.wr hs hm (r1.append r2) .non⟩
      · exact hp.elim
    · exact hp.elim
  · exact hp.elim
theorem mm_pop0 : MtR X "list.pop" (rDM (kw X) (semMth .pop0)) := by
  refine mtI mt_pop fun x xs H Q ⟨W, m, S, d, ds, hs, rd, rs, hp⟩ => ?_
  unfold semMth at hp
  dsimp only at hp
  split at hp
  · rename_i h1
    obtain ⟨a, vs, rfl, hm, e1, r1⟩ := lstAt_at hs rd h1
    cases rs
    split at hp
    · rename_i h2
      obtain ⟨y, e2, ry⟩ := r1.get h2
      exact ⟨a, vs, y, rfl, rfl, e1, by rw [← r1.length]; exact e2, hp.wr hs hm r1.dropLast ry⟩
    · exact hp.elim
  · exact hp.elim
theorem mm_pop1 : MtR X "list.pop" (rDM (kw X) (semMth .pop1)) := by
  refine mtI mt_popAt fun x xs H Q ⟨W, m, S, d, ds, hs, rd, rs, hp⟩ => ?_
  unfold semMth at hp
  dsimp only at hp
  split at hp
  · rename_i h1
    obtain ⟨a, vs, rfl, hm, e1, r1⟩ := lstAt_at hs rd h1
    obtain ⟨w, rfl, rw'⟩ := rs.one
    cases rw'
    split at hp
    · rename_i hk
      split at hp
      · rename_i h2
        obtain ⟨y, e2, ry⟩ := r1.get h2
        split at hp
        · rename_i hz
          simp only [Bool.and_eq_true, decide_eq_true_eq] at hz
          exact ⟨a, vs, _, _, y, rfl, rfl, e1, hz.1, hz.2, by rw [← r1.length]; exact (ixN_seq hk).1, e2, hp.wr hs hm (r1.eraseIdx _) ry⟩
        · exact hp.elim
      · exact hp.elim
    · exact hp.elim
  · exact hp.elim
theorem mm_reverse : MtR X "list.reverse" (rDM (kw X) (semMth .reverse)) := by
  refine mtI mt_reverse fun x xs H Q ⟨W, m, S, d, ds, hs, rd, rs, hp⟩ => ?_
  unfold semMth at hp
  dsimp only at hp
  split at hp
  · rename_i h1
    obtain ⟨a, vs, rfl, hm, e1, r1⟩ := lstAt_at hs rd h1
    cases rs
    exact ⟨a, vs, rfl, rfl, e1, hp.wr hs hm r1.reverse .non⟩
  · exact hp.elim
theorem mm_join : MtR X "str.join" (rDM (kw X) (semMth .join)) := by
  refine mtI mt_join fun x xs H Q ⟨W, m, S, d, ds, hs, rd, rs, hp⟩ => ?_
  unfold semMth at hp
  dsimp only at hp
  split at hp
  · cases rd
    obtain ⟨w, rfl, rw'⟩ := rs.one
    split at hp
    · rename_i h1
      obtain ⟨a, vs, rfl, sq, r'⟩ := seqAt_sq hs rw' h1
      split at hp
      · rename_i h2
        split at hp
        · rename_i hz
          have e := strs_r r' h2
          subst e
          exact ⟨_, a, _, rfl, rfl, sq, hz, hp.here hs (.str _)⟩
        · exact hp.elim
      · exact hp.elim
    · exact hp.elim
  · exact hp.elim
theorem mm_split1 : MtR X "str.split" (rDM (kw X) (semMth .split1)) := by
  refine mtI mt_split fun x xs H Q ⟨W, m, S, d, ds, hs, rd, rs, hp⟩ => ?_
  unfold semMth at hp
  dsimp only at hp
  split at hp
  · cases rd
    obtain ⟨w, rfl, rw'⟩ := rs.one
    cases rw'
    split at hp
    · rename_i hz
      simp only [Bool.and_eq_true, decide_eq_true_eq] at hz
      exact ⟨_, _, rfl, rfl, beq_eq_false_iff_ne.mpr hz.1, hz.2, fun p hn => hp.newL hs (rvs_strs _) hn⟩
    · exact hp.elim
  · exact hp.elim
theorem mm_partition : MtR X "str.partition" (rDM (kw X) (semMth .partition)) := by
  refine mtI mt_partition fun x xs H Q ⟨W, m, S, d, ds, hs, rd, rs, hp⟩ => ?_
  unfold semMth at hp
  dsimp only at hp
  split at hp
  · cases rd
    obtain ⟨w, rfl, rw'⟩ := rs.one
    cases rw'
    split at hp
    · rename_i hz
      simp only [Bool.and_eq_true, decide_eq_true_eq] at hz
      exact ⟨_, _, rfl, rfl, beq_eq_false_iff_ne.mpr hz.1, hz.2, fun p hn => hp.newT hs (.cons (.str _) (.cons (.str _) (.cons (.str _) .nil))) hn⟩
    · exact hp.elim
  · exact hp.elim
theorem mm_find1 : MtR X "str.find" (rDM (kw X) (semMth .find1)) := by
  refine mtI mt_find fun x xs H Q ⟨W, m, S, d, ds, hs, rd, rs, hp⟩ => ?_
  unfold semMth at hp
  dsimp only at hp
  split at hp
  · cases rd
    obtain ⟨w, rfl, rw'⟩ := rs.one
    cases rw'
    exact ⟨_, _, rfl, rfl, hp.here hs (.int _)⟩
  · exact hp.elim
theorem mm_find2 : MtR X "str.find" (rDM (kw X) (semMth .find2)) := by
  refine mtI mt_find3 fun x xs H Q ⟨W, m, S, d, ds, hs, rd, rs, hp⟩ => ?_
  unfold semMth at hp
  dsimp only at hp
  split at hp
  · cases rd
    obtain ⟨v, w, rfl, rv', rw'⟩ := rs.two
    cases rv'; cases rw'
    exact ⟨_, _, _, rfl, rfl, hp.here hs (.int _)⟩
  · exact hp.elim
theorem mm_insert : MtR X "list.insert" (rDM (kw X) (semMth .insert)) := by
  refine mtI mt_insert fun x xs H Q ⟨W, m, S, d, ds, hs, rd, rs, hp⟩ => ?_
  unfold semMth at hp
  dsimp only at hp
  split at hp
  · rename_i h1
    obtain ⟨a, vs, rfl, hm, e1, r1⟩ := lstAt_at hs rd h1
    obtain ⟨v, w, rfl, rv', rw'⟩ := rs.two
    cases rv'
    split at hp
    · rename_i hz
      simp only [Bool.and_eq_true, decide_eq_true_eq] at hz
      exact ⟨a, vs, _, w, rfl, rfl, e1, by rw [← r1.length]; exact hz.1.1, hz.1.2, hz.2, hp.wr hs hm (((r1.take _).append (.cons rw' .nil)).append (r1.drop _)) .non⟩
    · exact hp.elim
  · exact hp.elim
theorem mm_clear : MtR X "list.clear" (rDM (kw X) (semMth .clear)) := by
  refine mtI mt_clear fun x xs H Q ⟨W, m, S, d, ds, hs, rd, rs, hp⟩ => ?_
  unfold semMth at hp
  dsimp only at hp
  split at hp
  · rename_i h1
    obtain ⟨a, vs, rfl, hm, e1, r1⟩ := lstAt_at hs rd h1
    cases rs
    exact ⟨a, vs, rfl, rfl, e1, hp.wr hs hm .nil .non⟩
  · exact hp.elim
theorem mm_rstripC : MtR X "str.rstrip" (rDM (kw X) (semMth .rstripC)) := by
  refine mtI mt_rstripChars fun x xs H Q ⟨W, m, S, d, ds, hs, rd, rs, hp⟩ => ?_
  unfold semMth at hp
  dsimp only at hp
  split at hp
  · cases rd
    obtain ⟨w, rfl, rw'⟩ := rs.one
    cases rw'
    split at hp
    · rename_i hz
      exact ⟨_, _, rfl, rfl, hz, hp.here hs (.str _)⟩
    · exact hp.elim
  · exact hp.elim
theorem mm_index1 {k : Nat} (hr : Room k X.A) : MtR X "list.index" (rDM (kw X) (semMth .index1)) := by
  refine mtI (mt_indexD (room65 hr)) fun x xs H Q ⟨W, m, S, d, ds, hs, rd, rs, hp⟩ => ?_
  unfold semMth at hp
  dsimp only at hp
  split at hp
  · obtain ⟨w, rfl, rw'⟩ := rs.one
    split at hp
    · rename_i h1 h2
      have p1 := toPy_dp hs 70 _ _ _ h1 rd
      have p2 := toPy_dp hs 70 _ _ _ h2 rw'
      split at hp
      · rename_i hz
        rw [Bool.and_eq_true] at hz
        split at hp
        · rename_i j hj
          obtain ⟨hj1, hj2, hj3⟩ := List.findIdx?_eq_some_iff_getElem.mp hj
          have px := p1
          cases p1
          exact ⟨_, w, _, _, j, _, rfl, rfl, px, p2, hz.1, hz.2, List.getElem?_eq_getElem hj1, hj2, fun m' z' hm hz' => by
            obtain ⟨hl, e⟩ := List.getElem?_eq_some_iff.mp hz'
            rw [← e]
            simpa using hj3 m' hm, hp.here hs (.int _)⟩
        · exact hp.elim
      · exact hp.elim
    · exact hp.elim
  · exact hp.elim
theorem mm_ok {k : Nat} (hr : Room k X.A) : ∀ p : Mth, MtR X p.id (rDM (kw X) (semMth p))
  | .append => mm_append | .extend => mm_extend | .pop0 => mm_pop0 | .pop1 => mm_pop1 | .reverse => mm_reverse | .join => mm_join | .split1 => mm_split1 | .partition => mm_partition | .find1 => mm_find1 | .find2 => mm_find2 | .insert => mm_insert | .clear => mm_clear | .rstripC => mm_rstripC | .index1 => mm_index1 hr
theorem ty_r {K : Fw} {m : List Addr} {S : Store} {H : Hp} {p : Mth} {d : D} {v : V} (hs : Sim K m S H) (r : RV K m H d v) (h : tyOk p d S = true) : tyV K.K p.ty v H := by
  unfold tyOk at h
  split at h
  · cases r
    exact eq_of_beq h
  · simp only [Bool.and_eq_true] at h
    obtain ⟨xs, e⟩ := Option.isSome_iff_exists.mp h.2
    obtain ⟨a, vs, rfl, sq, _⟩ := listAt_sq hs r e
    exact .inl ⟨eq_of_beq h.1, vs, sq⟩
/-! ### isinstance -/
inductive Ity where
  | int | bool | str | tuple | list
  deriving DecidableEq
def Ity.nm : Ity → String
  | .int => "int" | .bool => "bool" | .str => "str" | .tuple => "tuple" | .list => "list"
def tyNm (S : Store) : D → Option String
  | .non => some "NoneType" | .bl _ => some "bool" | .int _ => some "int" | .str _ => some "str" | .tup _ => some "tuple"
  | .loc n => match S[n]? with
    | some (.lst _) => some "list"
    | _ => none
  | _ => none
def semIsi (p : Ity) (d : D) (S : Store) : O D := match tyNm S d with
  | some t => match kitB t p.nm with
    | some b => .ok (.bl b) S
    | none => .no
  | none => .no
theorem tyNm_r {K : Fw} {m : List Addr} {S : Store} {H : Hp} {d : D} {v : V} {t : String} (hs : Sim K m S H) (r : RV K m H d v) (h : tyNm S d = some t) : TyX K.K H v (.type t) := by
  cases r with
  | non => cases h; exact .base .non
  | bl b => cases h; exact .base (.bl _)
  | int i => cases h; exact .base (.int _)
  | str x => cases h; exact .base (.str _)
  | tup h1 _ =>
    cases h
    rcases h1 with (h1 | ⟨o, h1⟩) | ⟨o, its, n, h1, h2, _⟩
    · exact .base (.tup h1)
    · exact .fTuple h1
    · exact .kTuple h1 h2
  | cl _ _ => cases h
  | oth => cases h
  | @loc n a hm =>
    unfold tyNm at h
    dsimp only at h
    split at h
    · rename_i xs e
      cases h
      obtain ⟨a', vs, e1, _, e2, _⟩ := lstAt_at hs (RV.loc hm) (show lstAt S (.loc n) = some (n, xs) by
        show (match S[n]? with | some (.lst xs) => some (n, xs) | _ => none) = _
        rw [e])
      cases e1
      exact .base (.lst e2)
    · cases h
/-- what the method's place is -/
structure MthAt (p : Mth) : Prop where
  pa : PlainAttrs p.ty
  slot : Slot p.ty p.name p.id
  ty : typeOf (.builtin p.id) = pure (.type "method_descriptor")
theorem mth_at : ∀ p : Mth, MthAt p
  | .append => ⟨F.plainAttrs_list, F.slot_list_append, F.type_list_append⟩
  | .extend => ⟨F.plainAttrs_list, F.slot_list_extend, F.type_list_extend⟩
  | .pop0 => ⟨F.plainAttrs_list, F.slot_list_pop, F.type_list_pop⟩
  | .pop1 => ⟨F.plainAttrs_list, F.slot_list_pop, F.type_list_pop⟩
  | .reverse => ⟨F.plainAttrs_list, F.slot_list_reverse, F.type_list_reverse⟩
  | .join => ⟨F.plainAttrs_str, F.slot_str_join, F.type_str_join⟩
  | .split1 => ⟨F.plainAttrs_str, F.slot_str_split, F.type_str_split⟩
  | .partition => ⟨F.plainAttrs_str, F.slot_str_partition, F.type_str_partition⟩
  | .find1 => ⟨F.plainAttrs_str, F.slot_str_find, F.type_str_find⟩
  | .find2 => ⟨F.plainAttrs_str, F.slot_str_find, F.type_str_find⟩
  | .insert => ⟨F.plainAttrs_list, F.slot_list_insert, F.type_list_insert⟩
  | .clear => ⟨F.plainAttrs_list, F.slot_list_clear, F.type_list_clear⟩
  | .rstripC => ⟨F.plainAttrs_str, F.slot_str_rstrip, F.type_str_rstrip⟩
  | .index1 => ⟨F.plainAttrs_list, F.slot_list_index, F.type_list_index⟩
theorem blt_boot : ∀ p : Blt, bootBuiltins p.name = some p.val
  | .len => by decide +kernel | .abs => by decide +kernel | .max2 => by decide +kernel | .min2 => by decide +kernel | .int1 => by decide +kernel | .str1 => by decide +kernel | .ord1 => by decide +kernel
  | .list1 => by decide +kernel | .tuple1 => by decide +kernel | .all1 => by decide +kernel | .any1 => by decide +kernel | .sum1 => by decide +kernel
end
end Mz

end

section
set_option Elab.async false
set_option linter.all false
set_option maxRecDepth 100000
namespace Mz
open PySem PySem.Spec L2

def bindR {α : Type} (g : Sg) (o : O α) (k : α → Store → R) : R := match o with
  | .ok a S => k a S
  | .ex x S => .ex x g S
  | .no => .no
@[simp] theorem bindR_ok {α : Type} (g : Sg) (a : α) (S : Store) (k : α → Store → R) : bindR g (O.ok a S) k = k a S := rfl
/-- a statement's step: what is read gives, or raises at the slots that stand -/
theorem PostS.bind {K : Fw} {W : WX} {m : List Addr} {H : Hp} {S : Store} {α : Type} {D : Ends} {g : Sg} {σ : L2.St} {o : O α} {k : α → Store → R} {G' : α → List Addr → Hp → Prop} (hs : Sim K m S H) (hr : RVo K m H g σ) (h : PostS K W m H D (bindR g o k))
    (f : ∀ a S1, o = .ok a S1 → ∀ m1 H1, Ext m H m1 H1 → Sim K m1 S1 H1 → PostS K W m1 H1 D (k a S1) → G' a m1 H1) : Post K (WE W σ) m H G' o := by
  cases o with
  | ok a S1 => exact fun m1 H1 e s => f a S1 rfl m1 H1 e s (PostS.weak e h)
  | ex x S1 => exact fun m1 H1 c d e s x => h σ m1 H1 c d e s (hr.ext hs e) x
  | no => exact h

/-! ### expressions -/
def eVar (i : Nat) : SE := fun g S => match g[i]? with
  | some (some d) => .ok d S
  | _ => .no
def eCst (d : D) : SE := fun _ S => .ok d S
def eBin (f : D → D → Store → O D) (a b : SE) : SE := fun g S => (a g S).bind fun x S => (b g S).bind fun y S => f x y S
def eUn (f : D → Store → O D) (a : SE) : SE := fun g S => (a g S).bind f
def aNil : SA := fun _ S => .ok [] S
def aCons (a : SE) (r : SA) : SA := fun g S => (a g S).bind fun x S => (r g S).bind fun xs S => .ok (x :: xs) S
def eL (f : List D → Store → O D) (a : SA) : SE := fun g S => (a g S).bind f
def eM (p : Mth) (o : SE) (a : SA) : SE := fun g S => (o g S).bind fun d S => if tyOk p d S = true then (a g S).bind fun ds S => semMth p d ds S else .no
def truD (S : Store) : D → Option Bool
  | .non => some false
  | .bl b => some b
  | .int i => some (i != 0)
  | .str y => if y.length ≤ sizeLine then some ((y.length : Int) != 0) else none
  | d => (seqAt S d).map fun xs => !xs.isEmpty
def eTru (a : SE) : ST := fun g S => (a g S).bind fun d S => match truD S d with
  | some b => .ok b S
  | none => .no
def tAndS (a b : ST) : ST := fun g S => (a g S).bind fun c S => if c = true then b g S else .ok false S
def tOrS (a b : ST) : ST := fun g S => (a g S).bind fun c S => if c = true then .ok true S else b g S
def tNotS (a : ST) : ST := fun g S => (a g S).bind fun c S => .ok (!c) S
def tIfS' (t a b : ST) : ST := fun g S => (t g S).bind fun c S => if c = true then a g S else b g S
def eAnd (a b : SE) : SE := fun g S => (a g S).bind fun d S => match truD S d with
  | some true => b g S
  | some false => .ok d S
  | none => .no
def eOr (a b : SE) : SE := fun g S => (a g S).bind fun d S => match truD S d with
  | some false => b g S
  | some true => .ok d S
  | none => .no
def eNot (a : SE) : SE := fun g S => (a g S).bind fun d S => match truD S d with
  | some b => .ok (.bl (!b)) S
  | none => .no
def eIf (t : ST) (a b : SE) : SE := fun g S => (t g S).bind fun c S => if c = true then a g S else b g S
def eTup (a : SA) : SE := fun g S => (a g S).bind fun xs S => if xs.length ≤ sizeLine then .ok (.tup xs) S else .no
def eLst (a : SA) : SE := fun g S => (a g S).bind fun xs S => if xs.length ≤ sizeLine then alloc xs S else .no
def eNeg (a : SE) : SE := fun g S => (a g S).bind fun d S => match d with
  | .int i => .ok (.int (-i)) S
  | _ => .no
abbrev SO := Sg → Store → O (Option Int)
def oNone : SO := fun _ S => .ok none S
def oSome (a : SE) : SO := fun g S => (a g S).bind fun d S => match d with
  | .int i => .ok (some i) S
  | _ => .no
def eSli (a : SE) (lo hi : SO) : SE := fun g S => (a g S).bind fun d S => (lo g S).bind fun l S => (hi g S).bind fun h S => semSlice d l h S
def eRev (a : SE) : SE := fun g S => (a g S).bind fun d S => match listAt S d with
  | some xs => alloc xs.reverse S
  | none => .no
def eChain (p q : Cop) (a b c : SE) : SE := fun g S => (a g S).bind fun x S => (b g S).bind fun y S => (semCop p x y S).bind fun z S => match z with
  | .bl true => (c g S).bind fun w S => semCop q y w S
  | .bl false => .ok (.bl false) S
  | _ => .no
def fmtD (d : D) (S : Store) : O D := match d with
  | .str y => if y.length ≤ sizeLine then .ok (.str y) S else .no
  | .int i => if i.natAbs.log2 < 1920 then .ok (.str (toString i)) S else .no
  | _ => .no
/-- f'..': the texts one behind the other -/
def glueL : List D → Str → Option Str
  | [], acc => some acc
  | .str y :: r, acc => if (acc ++ y).length ≤ sizeLine then glueL r (acc ++ y) else none
  | _ :: _, _ => none
def jNil : Str → SE := fun acc _ S => .ok (.str acc) S
def jCons (a : SE) (r : Str → SE) : Str → SE := fun acc g S => (a g S).bind fun d S => match d with
  | .str y => if (acc ++ y).length ≤ sizeLine then r (acc ++ y) g S else .no
  | _ => .no

theorem tru_r {K : Fw} {m : List Addr} {S : Store} {H : Hp} {d : D} {v : V} {b : Bool} (hs : Sim K m S H) (r : RV K m H d v) (h : truD S d = some b) : TruV K.K v H b := by
  unfold truD at h
  split at h
  · cases r; exact (Option.some.inj h).symm
  · cases r; exact (Option.some.inj h).symm
  · cases r; exact (Option.some.inj h).symm
  · cases r
    split at h
    · rename_i hz
      exact ⟨hz, (Option.some.inj h).symm⟩
    · cases h
  · rename_i h1 h2 h3 h4
    cases e : seqAt S d with
    | none => rw [e] at h; cases h
    | some xs =>
      rw [e] at h
      obtain ⟨a, vs, rfl, sq, r'⟩ := seqAt_sq hs r e
      have hb : b = !vs.isEmpty := by
        rw [← Option.some.inj h]
        cases r' <;> rfl
      rcases sq with sq | sq
      · exact .inl ⟨vs, sq, hb⟩
      · exact .inr (.inl ⟨vs, sq, hb⟩)


section
variable {X : Cx} {W : WX} {a b c : Expr} {fa fb fc : SE} {pos : Pos}
theorem me_var {i : Nat} {x : Str} (hN : X.N[i]? = some x) (hv : Vis X.env.scope x) (hd : (x == ("__debug__" : Str)) = false) (hcd : (x == ("__classdict__" : Str)) = false) : PE X (.Name x pos) (tD (kw X) W (eVar i)) := by
  refine peI (pe_var hN hv hd hcd) fun σ H Q ⟨m, S, g, hs, hr, hp⟩ => ?_
  unfold eVar at hp
  split at hp
  · rename_i d h
    obtain ⟨v, e, r⟩ := hr.2 i d h
    exact ⟨v, e, hp.here hs r⟩
  · exact hp.elim
theorem me_cst {d : D} {v : V} {e : Expr} (h : PE X e (tC v)) (r : ∀ m H, RV (kw X) m H d v) : PE X e (tD (kw X) W (eCst d)) :=
  peI h fun σ H Q ⟨m, S, g, hs, hr, hp⟩ => PostE.here hp hs (r m H)
theorem two_r {r : R2} {f : D → D → Store → O D} (h : r = rD2 (kw X) f) {σ : L2.St} {H : Hp} {Q : VK} (q : tD (kw X) W (eBin f fa fb) σ H Q) : tOp r (tD (kw X) W fa) (tD (kw X) W fb) σ H Q := by
  subst h
  obtain ⟨m, S, g, hs, hr, hp⟩ := q
  exact ⟨m, S, g, hs, hr, hp.bind fun x S1 _ m1 H1 x1 s1 hp v1 r1 => ⟨m1, S1, g, s1, hr.ext hs x1, hp.bind fun y S2 _ m2 H2 x2 s2 hp v2 r2 => ⟨_, m2, S2, x, y, s2, r1.ext s1 x2, r2, hp⟩⟩⟩
theorem me_bin {op : Operator} {f : D → D → Store → O D} (ho : OpR X (binaryOp op) (rD2 (kw X) f)) (ha : PE X a (tD (kw X) W fa)) (hb : PE X b (tD (kw X) W fb)) : PE X (.BinOp a op b pos) (tD (kw X) W (eBin f fa fb)) :=
  peI (pe_op ho ha hb) fun σ H Q q => two_r rfl q
theorem me_cmp {op : CmpOp} {f : D → D → Store → O D} (ho : OpR X (compareOp op) (rD2 (kw X) f)) (ha : PE X a (tD (kw X) W fa)) (hb : PE X b (tD (kw X) W fb)) (hm : behindInMarks op b = false) : PE X (.Compare a [op] [b] pos) (tD (kw X) W (eBin f fa fb)) :=
  peI (pe_cmpR ho ha hb hm) fun σ H Q q => two_r rfl q
/-- from a truth's post to a bool value's -/
theorem tru_post {K : Fw} {W : XK} {m : List Addr} {H : Hp} {Q : Bool → Hp → Prop} {o : O D} (hbl : ∀ d S', o = .ok d S' → ∃ b, d = .bl b) (hp : PostT K W m H Q (o.bind fun d S => match truD S d with | some b => .ok b S | none => .no)) : PostE K W m H (fun v H' => ∃ k, v = .bl k ∧ Q k H') o := by
  cases o with
  | ok d S' =>
    obtain ⟨b, rfl⟩ := hbl d S' rfl
    intro m1 H1 e s v r
    cases r
    exact ⟨b, rfl, hp m1 H1 e s⟩
  | ex x S' => exact hp
  | no => exact hp
theorem bin_bl {f : D → D → Store → O D} (hbl : ∀ x y S d S', f x y S = .ok d S' → ∃ b, d = .bl b) {g : Sg} {S : Store} : ∀ d S', eBin f fa fb g S = .ok d S' → ∃ b, d = .bl b := by
  intro d S' e
  unfold eBin at e
  cases e1 : fa g S with
  | ok x S1 =>
    rw [e1, O.bind_ok] at e
    cases e2 : fb g S1 with
    | ok y S2 => rw [e2, O.bind_ok] at e; exact hbl _ _ _ _ _ e
    | ex _ _ => rw [e2] at e; cases e
    | no => rw [e2] at e; cases e
  | ex _ _ => rw [e1] at e; cases e
  | no => rw [e1] at e; cases e
theorem mt_cmp' {op : CmpOp} {f : D → D → Store → O D} (hbl : ∀ x y S d S', f x y S = .ok d S' → ∃ b, d = .bl b) (ho : OpR X (compareOp op) (rD2 (kw X) f)) (ha : PE X a (tD (kw X) W fa)) (hb : PE X b (tD (kw X) W fb)) (hm : behindInMarks op b = false) : PT X (.Compare a [op] [b] pos) (tDT (kw X) W (eTru (eBin f fa fb))) := by
  refine ptI (pt_cmpR ho ha hb hm) fun σ H Q ⟨m, S, g, hs, hr, hp⟩ => ?_
  exact two_r rfl ⟨m, S, g, hs, hr, tru_post (bin_bl hbl) hp⟩
theorem semCop_bl (p : Cop) : ∀ x y S d S', semCop p x y S = .ok d S' → ∃ b, d = .bl b := by
  intro x y S d S' h
  unfold semCop at h
  split at h <;> (split at h <;> first | (cases h; exact ⟨_, rfl⟩) | cases h)
theorem me_truth (ha : PE X a (tD (kw X) W fa)) (he : ∀ whole, isTrue a X.env whole = (do let v ← whole; standAt a.pos; holding [v] (truthy v))) : PT X a (tDT (kw X) W (eTru fa)) := by
  refine ptI (pt_truth ha he) fun σ H Q ⟨m, S, g, hs, hr, hp⟩ => ⟨m, S, g, hs, hr, hp.bind fun d S1 _ m1 H1 x1 s1 hp v r1 => ?_⟩
  split at hp
  · rename_i b h
    exact ⟨b, tru_r s1 r1 h, hp.now s1⟩
  · exact hp.elim
theorem me_notV (ha : PE X a (tD (kw X) W fa)) : PE X (.UnaryOp .Not a pos) (tD (kw X) W (eNot fa)) := by
  refine peI (pe_notT ha) fun σ H Q ⟨m, S, g, hs, hr, hp⟩ => ⟨m, S, g, hs, hr, hp.bind fun d S1 _ m1 H1 x1 s1 hp v r1 => ?_⟩
  split at hp
  · rename_i b h
    exact ⟨b, tru_r s1 r1 h, PostE.here hp s1 (.bl _)⟩
  · exact hp.elim
theorem me_neg (ha : PE X a (tD (kw X) W fa)) : PE X (.UnaryOp .USub a pos) (tD (kw X) W (eNeg fa)) := by
  refine peI (pe_un un_neg ha) fun σ H Q ⟨m, S, g, hs, hr, hp⟩ => ⟨m, S, g, hs, hr, hp.bind fun d S1 _ m1 H1 x1 s1 hp v r1 => ?_⟩
  split at hp
  · cases r1
    exact ⟨_, rfl, PostE.here hp s1 (.int _)⟩
  · exact hp.elim
variable {ta tb : ST} {rest : List Expr}
theorem tdt_and {σ : L2.St} {H : Hp} {Q : Bool → Hp → Prop} (h : tDT (kw X) W (tAndS ta tb) σ H Q) : tAnd (tDT (kw X) W ta) (tDT (kw X) W tb) σ H Q := by
  obtain ⟨m, S, g, hs, hr, hp⟩ := h
  refine ⟨m, S, g, hs, hr, hp.bind fun c S1 _ m1 H1 x1 s1 hp => ?_⟩
  cases c with
  | true => rw [if_pos rfl] at hp; exact iteT ⟨m1, S1, g, s1, hr.ext hs x1, hp⟩
  | false => rw [if_neg Bool.false_ne_true] at hp; exact iteF (hp.now s1)
theorem tdt_or {σ : L2.St} {H : Hp} {Q : Bool → Hp → Prop} (h : tDT (kw X) W (tOrS ta tb) σ H Q) : tOr (tDT (kw X) W ta) (tDT (kw X) W tb) σ H Q := by
  obtain ⟨m, S, g, hs, hr, hp⟩ := h
  refine ⟨m, S, g, hs, hr, hp.bind fun c S1 _ m1 H1 x1 s1 hp => ?_⟩
  cases c with
  | true => rw [if_pos rfl] at hp; exact iteT (hp.now s1)
  | false => rw [if_neg Bool.false_ne_true] at hp; exact iteF ⟨m1, S1, g, s1, hr.ext hs x1, hp⟩
theorem mw_and (ha : PT X a (tDT (kw X) W ta)) (hb : PW X (.BoolOp .And (b :: rest) pos) (tDT (kw X) W tb)) : PW X (.BoolOp .And (a :: b :: rest) pos) (tDT (kw X) W (tAndS ta tb)) := pwI (pw_and ha hb) fun _ _ _ h => tdt_and h
theorem mw_or (ha : PT X a (tDT (kw X) W ta)) (hb : PW X (.BoolOp .Or (b :: rest) pos) (tDT (kw X) W tb)) : PW X (.BoolOp .Or (a :: b :: rest) pos) (tDT (kw X) W (tOrS ta tb)) := pwI (pw_or ha hb) fun _ _ _ h => tdt_or h
theorem mt_not (ha : PT X a (tDT (kw X) W ta)) : PT X (.UnaryOp .Not a pos) (tDT (kw X) W (tNotS ta)) :=
  ptI (pt_not ha) fun σ H Q ⟨m, S, g, hs, hr, hp⟩ => ⟨m, S, g, hs, hr, hp.bind fun c S1 _ m1 H1 x1 s1 hp => hp.now s1⟩
theorem me_and (ha : PE X a (tD (kw X) W fa)) (hb : PE X (.BoolOp .And (b :: rest) pos) (tD (kw X) W fb)) : PE X (.BoolOp .And (a :: b :: rest) pos) (tD (kw X) W (eAnd fa fb)) := by
  refine peI (pe_andT ha hb) fun σ H Q ⟨m, S, g, hs, hr, hp⟩ => ⟨m, S, g, hs, hr, hp.bind fun d S1 _ m1 H1 x1 s1 hp v r1 => ?_⟩
  split at hp
  · rename_i h
    exact ⟨true, tru_r s1 r1 h, iteT ⟨m1, S1, g, s1, hr.ext hs x1, hp⟩⟩
  · rename_i h
    exact ⟨false, tru_r s1 r1 h, iteF (PostE.here hp s1 r1)⟩
  · exact hp.elim
theorem me_or (ha : PE X a (tD (kw X) W fa)) (hb : PE X (.BoolOp .Or (b :: rest) pos) (tD (kw X) W fb)) : PE X (.BoolOp .Or (a :: b :: rest) pos) (tD (kw X) W (eOr fa fb)) := by
  refine peI (pe_orT ha hb) fun σ H Q ⟨m, S, g, hs, hr, hp⟩ => ⟨m, S, g, hs, hr, hp.bind fun d S1 _ m1 H1 x1 s1 hp v r1 => ?_⟩
  split at hp
  · rename_i h
    exact ⟨false, tru_r s1 r1 h, iteF ⟨m1, S1, g, s1, hr.ext hs x1, hp⟩⟩
  · rename_i h
    exact ⟨true, tru_r s1 r1 h, iteT (PostE.here hp s1 r1)⟩
  · exact hp.elim
theorem me_if (hc : PT X c (tDT (kw X) W ta)) (ha : PE X a (tD (kw X) W fa)) (hb : PE X b (tD (kw X) W fb)) : PE X (.IfExp c a b pos) (tD (kw X) W (eIf ta fa fb)) := by
  refine peI (pe_ifExp hc ha hb) fun σ H Q ⟨m, S, g, hs, hr, hp⟩ => ⟨m, S, g, hs, hr, hp.bind fun d S1 _ m1 H1 x1 s1 hp => ?_⟩
  cases d with
  | true => rw [if_pos rfl] at hp; exact iteT ⟨m1, S1, g, s1, hr.ext hs x1, hp⟩
  | false => rw [if_neg Bool.false_ne_true] at hp; exact iteF ⟨m1, S1, g, s1, hr.ext hs x1, hp⟩
theorem ma_nil : PA X [] (tDA (kw X) W aNil) := paI pa_nil fun σ H Q ⟨m, S, g, hs, hr, hp⟩ => hp.now hs [] .nil
theorem ma_cons {es : List Expr} {fr : SA} (ha : PE X a (tD (kw X) W fa)) (hr : PA X es (tDA (kw X) W fr)) (hst : starEach (a :: es) X.env = (false, eval a X.env) :: starEach es X.env) : PA X (a :: es) (tDA (kw X) W (aCons fa fr)) := by
  refine paI (pa_cons ha hr hst) fun σ H Q ⟨m, S, g, hs, hr, hp⟩ => ?_
  exact ⟨m, S, g, hs, hr, hp.bind fun x S1 _ m1 H1 x1 s1 hp v1 r1 => ⟨m1, S1, g, s1, hr.ext hs x1, hp.bind fun xs S2 _ m2 H2 x2 s2 hp v2 r2 => hp.now s2 _ (.cons (r1.ext s1 x2) r2)⟩⟩
variable {es : List Expr} {fr : SA}
theorem me_tup {k : Nat} (h : PA X es (tDA (kw X) W fr)) : PE X (.Tuple es k pos) (tD (kw X) W (eTup fr)) := by
  refine peI (pe_tup h) fun σ H Q ⟨m, S, g, hs, hr, hp⟩ => ⟨m, S, g, hs, hr, hp.bind fun xs S1 _ m1 H1 x1 s1 hp vs r1 => ?_⟩
  split at hp
  · rename_i hz
    exact ⟨by rw [← r1.length]; exact hz, fun p hn => PostE.newT hp s1 r1 hn⟩
  · exact hp.elim
theorem me_lst (h : PA X es (tDA (kw X) W fr)) : PE X (.List es pos) (tD (kw X) W (eLst fr)) := by
  refine peI (pe_lst h) fun σ H Q ⟨m, S, g, hs, hr, hp⟩ => ⟨m, S, g, hs, hr, hp.bind fun xs S1 _ m1 H1 x1 s1 hp vs r1 => ?_⟩
  split at hp
  · rename_i hz
    exact ⟨by rw [← r1.length]; exact hz, fun p hn => PostE.newL hp s1 r1 hn⟩
  · exact hp.elim
theorem me_item (ha : PE X a (tD (kw X) W fa)) (hb : PE X b (tD (kw X) W fb)) (hs : PlainIx b) : PE X (.Subscript a b pos) (tD (kw X) W (eBin semItem fa fb)) :=
  peI (pe_ix oi_item ha hb hs) fun σ H Q q => two_r rfl q
/-- optional parts -/
def tDO (K : Fw) (W : WX) (f : SO) : TO := fun σ H Q => ∃ m S g, Sim K m S H ∧ RVo K m H g σ ∧ Post K (WE W σ) m H (fun o _ H' => Q o H') (f g S)
theorem poI {X : Cx} {e : Option Expr} {t t' : TO} (h : PO X e t) (i : ∀ σ H Q, t' σ H Q → t σ H Q) : PO X e t' := ⟨fun pins s σ H Q I q => h.run pins s σ H Q I (i σ H Q q)⟩
theorem mo_none : PO X none (tDO (kw X) W oNone) := poI po_none fun σ H Q ⟨m, S, g, hs, hr, hp⟩ => hp.now hs
theorem mo_some (ha : PE X a (tD (kw X) W fa)) : PO X (some a) (tDO (kw X) W (oSome fa)) := by
  refine poI (po_some ha) fun σ H Q ⟨m, S, g, hs, hr, hp⟩ => ⟨m, S, g, hs, hr, hp.bind fun d S1 _ m1 H1 x1 s1 hp v r1 => ?_⟩
  cases d with
  | int i => cases r1; exact ⟨i, rfl, hp.now s1⟩
  | _ => exact hp.elim
theorem me_sli {lo hi : Option Expr} {fl fh : SO} {p2 : Pos} (ha : PE X a (tD (kw X) W fa)) (hl : PO X lo (tDO (kw X) W fl)) (hh : PO X hi (tDO (kw X) W fh)) : PE X (.Subscript a (.Slice lo hi none p2) pos) (tD (kw X) W (eSli fa fl fh)) := by
  refine peI (pe_slice os_slice ha hl hh) fun σ H Q ⟨m, S, g, hs, hr, hp⟩ => ?_
  exact ⟨m, S, g, hs, hr, hp.bind fun x S1 _ m1 H1 x1 s1 hp v1 r1 => ⟨m1, S1, g, s1, hr.ext hs x1, hp.bind fun y S2 _ m2 H2 x2 s2 hp => ⟨m2, S2, g, s2, hr.ext hs (x1.trans x2), hp.bind fun z S3 _ m3 H3 x3 s3 hp => ⟨_, m3, S3, x, s3, r1.ext s1 (x2.trans x3), hp⟩⟩⟩⟩
theorem me_rev {k : Nat} {p1 p2 p3 : Pos} (ha : PE X a (tD (kw X) W fa)) : PE X (.Subscript a (.Slice none none (some (.UnaryOp .USub (.Constant (.int 1) k p1) p2)) p3) pos) (tD (kw X) W (eRev fa)) := by
  refine peI (pe_revL ha) fun σ H Q ⟨m, S, g, hs, hr, hp⟩ => ⟨m, S, g, hs, hr, hp.bind fun d S1 _ m1 H1 x1 s1 hp v r1 => ?_⟩
  split at hp
  · rename_i h
    obtain ⟨p, vs, rfl, sq, r⟩ := listAt_sq s1 r1 h
    exact ⟨p, vs, rfl, sq, fun q hn => PostE.newL hp s1 r.reverse hn⟩
  · exact hp.elim
theorem me_chain {p q : Cop} {k : Nat} (hr : Room k X.A) (ha : PE X a (tD (kw X) W fa)) (hb : PE X b (tD (kw X) W fb)) (hc : PE X c (tD (kw X) W fc)) (h : PE X (.Compare a [p.op, q.op] [b, c] pos) (tChain (rD2 (kw X) (semCop p)) (rD2 (kw X) (semCop q)) (tD (kw X) W fa) (tD (kw X) W fb) (tD (kw X) W fc))) :
    PE X (.Compare a [p.op, q.op] [b, c] pos) (tD (kw X) W (eChain p q fa fb fc)) := by
  refine peI h fun σ H Q ⟨m, S, g, hs, hr, hp⟩ => ?_
  refine ⟨m, S, g, hs, hr, hp.bind fun x S1 _ m1 H1 x1 s1 hp v1 r1 => ⟨m1, S1, g, s1, hr.ext hs x1, hp.bind fun y S2 _ m2 H2 x2 s2 hp v2 r2 => ⟨_, m2, S2, x, y, s2, r1.ext s1 x2, r2, hp.bind fun z S3 _ m3 H3 x3 s3 hp v3 r3 => ?_⟩⟩⟩
  split at hp
  · cases r3
    exact ⟨true, rfl, iteT ⟨m3, S3, g, s3, hr.ext hs ((x1.trans x2).trans x3), hp.bind fun w S4 _ m4 H4 x4 s4 hp v4 r4 => ⟨_, m4, S4, y, w, s4, r2.ext s2 (x3.trans x4), r4, hp⟩⟩⟩
  · cases r3
    exact ⟨false, rfl, iteF (PostE.here hp s3 (.bl _))⟩
  · exact hp.elim
theorem me_blt {p : Blt} {e : Expr} {q : Pos} (h : PE X (.Call (.Name p.name q) (e :: es) [] pos) (tCB (rDL (kw X) (semBlt p)) (tDA (kw X) W fr))) :
    PE X (.Call (.Name p.name q) (e :: es) [] pos) (tD (kw X) W (eL (semBlt p) fr)) :=
  peI h fun σ H Q ⟨m, S, g, hs, hr, hp⟩ => ⟨m, S, g, hs, hr, hp.bind fun x S1 _ m1 H1 x1 s1 hp v1 r1 => ⟨_, m1, S1, x, s1, r1, hp⟩⟩
theorem me_mth {p : Mth} {o : Expr} {fo : SE} {e : Expr} {q : Pos} (h : PE X (.Call (.Attribute o p.name q) (e :: es) [] pos) (tBM X.K p.ty (rDM (kw X) (semMth p)) (tD (kw X) W fo) (tDA (kw X) W fr))) :
    PE X (.Call (.Attribute o p.name q) (e :: es) [] pos) (tD (kw X) W (eM p fo fr)) := by
  refine peI h fun σ H Q ⟨m, S, g, hs, hr, hp⟩ => ⟨m, S, g, hs, hr, hp.bind fun x S1 _ m1 H1 x1 s1 hp v1 r1 => ?_⟩
  split at hp
  · rename_i ht
    exact ⟨ty_r s1 r1 ht, m1, S1, g, s1, hr.ext hs x1, hp.bind fun y S2 _ m2 H2 x2 s2 hp v2 r2 => ⟨_, m2, S2, x, y, s2, r1.ext s1 x2, r2, hp⟩⟩
  · exact hp.elim
theorem me_mth0 {p : Mth} {o : Expr} {fo : SE} {q : Pos} (h : PE X (.Call (.Attribute o p.name q) [] [] pos) (tBM0 X.K p.ty (rDM (kw X) (semMth p)) (tD (kw X) W fo))) :
    PE X (.Call (.Attribute o p.name q) [] [] pos) (tD (kw X) W (eM p fo aNil)) := by
  refine peI h fun σ H Q ⟨m, S, g, hs, hr, hp⟩ => ⟨m, S, g, hs, hr, hp.bind fun x S1 _ m1 H1 x1 s1 hp v1 r1 => ?_⟩
  split at hp
  · rename_i ht
    exact ⟨ty_r s1 r1 ht, _, m1, S1, x, [], s1, r1, .nil, hp⟩
  · exact hp.elim
/-- a def's promise -/
def spD (K : Fw) (n : Nat) (f : List D → Store → O D) : Sp := fun vs H Q E => vs.length = n ∧ ∃ m S ds, Sim K m S H ∧ RVs K m H ds vs ∧ PostE K E m H Q (f ds S)
theorem me_call {f : List D → Store → O D} {x : Str} {q : Pos} (h : PE X (.Call (.Name x q) es [] pos) (tCallSD (spD (kw X) es.length f) [] (WE W) (tDA (kw X) W fr))) (hl : ∀ g S ds S', fr g S = .ok ds S' → ds.length = es.length) :
    PE X (.Call (.Name x q) es [] pos) (tD (kw X) W (eL f fr)) := by
  refine peI h fun σ H Q ⟨m, S, g, hs, hr, hp⟩ => ⟨m, S, g, hs, hr, hp.bind fun ds S1 e1 m1 H1 x1 s1 hp v1 r1 => ?_⟩
  show spD (kw X) es.length f (v1 ++ []) H1 Q (WE W σ)
  rw [List.append_nil]
  exact ⟨by rw [← r1.length]; exact hl _ _ _ _ e1, m1, S1, ds, s1, r1, hp⟩
theorem me_fmt (ha : PE X a (tD (kw X) W fa)) : PE X (.FormattedValue a (-1) none pos) (tD (kw X) W (eUn fmtD fa)) := by
  refine peI (pe_fmt ha) fun σ H Q ⟨m, S, g, hs, hr, hp⟩ => ⟨m, S, g, hs, hr, hp.bind fun x S1 _ m1 H1 x1 s1 hp v1 r1 => ?_⟩
  unfold fmtD at hp
  split at hp
  · cases r1
    split at hp
    · rename_i hz
      exact .inl ⟨_, rfl, hz, PostE.here hp s1 (.str _)⟩
    · exact hp.elim
  · cases r1
    split at hp
    · rename_i hz
      exact .inr ⟨_, rfl, hz, PostE.here hp s1 (.str _)⟩
    · exact hp.elim
  · exact hp.elim
theorem me_isi {p : Ity} {q q2 : Pos} {a : Expr} {fa : SE} {z : Str} (hg : Gl X "isinstance") (hm : X.mg "isinstance" = none) (ha : PE X a (tD (kw X) W fa)) (hz : PE X (.Name z q2) (tC (.ty p.nm))) (s1 : starEach [a, .Name z q2] X.env = (false, eval a X.env) :: starEach [.Name z q2] X.env) :
    PE X (.Call (.Name "isinstance" q) [a, .Name z q2] [] pos) (tD (kw X) W (eUn (semIsi p) fa)) := by
  refine peI (pe_callB call_isi hg hm (by decide +kernel) (pa_cons ha (pa_cons hz pa_nil) s1) (by decide +kernel) (by decide +kernel) s1 (by rfl)) fun σ H Q ⟨m, S, g, hs, hr, hp⟩ => ⟨m, S, g, hs, hr, hp.bind fun x S1 _ m1 H1 x1 s1 hp v1 r1 => ?_⟩
  unfold semIsi at hp
  split at hp
  · rename_i t ht
    split at hp
    · rename_i b hb
      exact ⟨_, _, _, _, b, rfl, .ty _, tyNm_r s1 r1 ht, kit_ty hb, PostE.here hp s1 (.bl _)⟩
    · exact hp.elim
  · exact hp.elim
theorem js_nil {acc : Str} {σ : L2.St} {H : Hp} {Q : VK} (h : tD (kw X) W (jNil acc) σ H Q) : tJs [] acc σ H fun out H1 => Q (.str out) H1 := by
  obtain ⟨m, S, g, hs, hr, hp⟩ := h
  exact PostE.here hp hs (.str _)
theorem js_cons {ts : List TE} {fr : Str → SE} (ih : ∀ acc σ H Q, tD (kw X) W (fr acc) σ H Q → tJs ts acc σ H fun out H1 => Q (.str out) H1) {acc : Str} {σ : L2.St} {H : Hp} {Q : VK} (h : tD (kw X) W (jCons fa fr acc) σ H Q) :
    tJs (tD (kw X) W fa :: ts) acc σ H fun out H1 => Q (.str out) H1 := by
  obtain ⟨m, S, g, hs, hr, hp⟩ := h
  refine ⟨m, S, g, hs, hr, hp.bind fun x S1 _ m1 H1 x1 s1 hp v1 r1 => ?_⟩
  split at hp
  · cases r1
    split at hp
    · rename_i hz
      exact ⟨_, rfl, hz, ih _ _ _ _ ⟨m1, S1, g, s1, hr.ext hs x1, hp⟩⟩
    · exact hp.elim
  · exact hp.elim
end
end Mz

end

section
set_option Elab.async false
set_option linter.all false
set_option maxRecDepth 100000
namespace Mz
open PySem PySem.Spec L2

/-! ### targets -/
abbrev SGs := List D → Sg → Store → O Sg
def gVar (i : Nat) : SG := fun d g S => .ok (g.set i (some d)) S
def gsNil : SGs := fun ds g S => match ds with
  | [] => .ok g S
  | _ => .no
def gsCons (a : SG) (r : SGs) : SGs := fun ds g S => match ds with
  | d :: ds => (a d g S).bind fun g S => r ds g S
  | [] => .no
def gTupD (r : SGs) : SG := fun d g S => match d with
  | .tup xs => r xs g S
  | _ => .no
def setAt (o i v : D) (S : Store) : O Unit := match lstAt S o, i with
  | some (n, xs), .int k => match ixN xs.length k with
    | some j => .ok () (S.set n (.lst (xs.set j v)))
    | none => .no
  | _, _ => .no
def gSubD (o i : SE) : SG := fun d g S => (o g S).bind fun x S => (i g S).bind fun y S => (setAt x y d S).bind fun _ S => .ok g S
def tDGs (K : Fw) (W : WX) (is : List Nat) (f : SGs) : TGs := fun vs σ H Q => ∃ m S g ds, Sim K m S H ∧ RVo K m H g σ ∧ RVs K m H ds vs ∧ PostG K (WE W σ) is σ m H Q (f ds g S)
theorem wipe_set {σ : L2.St} {i : Nat} {x : Option V} : ∀ {vs : List Nat}, i ∈ vs → L2.wipe (σ.set i x) vs = L2.wipe σ vs
  | [], h => by cases h
  | v :: vs, h => by
    by_cases hv : i ∈ vs
    · unfold L2.wipe
      rw [wipe_set hv]
    · have e : i = v := by
        rcases List.mem_cons.mp h with e | e
        · exact e
        · exact absurd e hv
      subst e
      unfold L2.wipe
      have comm : ∀ (ws : List Nat), i ∉ ws → L2.wipe (σ.set i x) ws = (L2.wipe σ ws).set i x := by
        intro ws
        induction ws with
        | nil => intro _; rfl
        | cons w ws ih =>
          intro hn
          have h1 : i ≠ w := fun z => hn (by rw [z]; exact List.mem_cons_self)
          have h2 : i ∉ ws := fun z => hn (List.mem_cons_of_mem _ z)
          unfold L2.wipe
          rw [ih h2, List.set_comm _ _ h1]
      rw [comm vs hv, List.set_set]
section
variable {X : Cx} {W : WX} {pos : Pos}
theorem mg_var {i : Nat} {x : Str} (hN : X.N.Nodup) (hi : X.N[i]? = some x) (hx : Loc X.env.scope x) (hf : X.fn x = true ∨ X.env.scope.names.lookup x = some .local) : PG X (.Name x pos) (tDG (kw X) W [i] (gVar i)) := by
  refine pgI (pg_name hN hi hx hf) fun v σ H Q ⟨m, S, g, d, hs, hr, rd, hp⟩ => ?_
  exact hp.now hs _ (hr.set rd i) fun vs hv => wipe_set (hv i (by simp))
theorem pgsI {es : List Expr} {t t' : TGs} (h : PGs X es t) (i : ∀ v σ H Q, t' v σ H Q → t v σ H Q) : PGs X es t' := ⟨fun pins s σ H v u Q I r q => h.run pins s σ H v u Q I r (i v σ H Q q)⟩
theorem mgs_nil : PGs X [] (tDGs (kw X) W [] gsNil) := by
  refine pgsI pgs_nil fun vs σ H Q ⟨m, S, g, ds, hs, hr, rs, hp⟩ => ?_
  cases rs with
  | nil => exact ⟨rfl, hp.now hs _ hr fun _ _ => rfl⟩
  | cons _ _ => exact hp.elim
/-- a target that raises nothing -/
def calmG (f : SG) : Prop := ∀ d g S x S', f d g S ≠ .ex x S'
def calmGs (f : SGs) : Prop := ∀ d g S x S', f d g S ≠ .ex x S'
theorem mgs_cons {e : Expr} {es : List Expr} {is js : List Nat} {f : SG} {r : SGs} (c2 : calmGs r) (h1 : PG X e (tDG (kw X) W is f)) (h2 : PGs X es (tDGs (kw X) W js r))
    (hs : (assignEach (e :: es) X.env).map (·.2) = assign e X.env :: (assignEach es X.env).map (·.2)) : PGs X (e :: es) (tDGs (kw X) W (is ++ js) (gsCons f r)) := by
  refine pgsI (pgs_cons h1 h2 hs) fun vs σ H Q ⟨m, S, g, ds, hs, hr, rs, hp⟩ => ?_
  cases rs with
  | nil => exact hp.elim
  | @cons d v ds vs rd rr =>
    have hp : PostG (kw X) (WE W σ) (is ++ js) σ m H Q ((f d g S).bind fun g S => r ds g S) := hp
    refine ⟨v, vs, rfl, m, S, g, d, hs, hr, rd, hp.bind fun g1 S1 e1 m1 H1 x1 s1 hp σ1 r1 w1 => ?_⟩
    refine ⟨m1, S1, g1, ds, s1, r1, rr.ext hs x1, ?_⟩
    cases e2 : r ds g1 S1 with
    | ok g2 S2 =>
      rw [e2] at hp
      intro m2 H2 x2 s2 σ2 r2 w2
      exact hp m2 H2 x2 s2 σ2 r2 fun vs hv => (w2 vs fun i hi => hv i (List.mem_append_right _ hi)).trans (w1 vs fun i hi => hv i (List.mem_append_left _ hi))
    | ex x S2 => exact absurd e2 (c2 _ _ _ _ _)
    | no => rw [e2] at hp; exact hp.elim
theorem mg_tup {es : List Expr} {k : Nat} {is : List Nat} {r : SGs} (c2 : calmGs r) (hc : X.calm = true) (h : PGs X es (tDGs (kw X) W is r)) (hl : ∀ ds g S g' S', r ds g S = .ok g' S' → ds.length = es.length)
    (hn : (assignEach es X.env).length = es.length) (hst : (assignEach es X.env).findIdx? (·.1) = none) : PG X (.Tuple es k pos) (tDG (kw X) W is (gTupD r)) := by
  refine pgI (pg_tup hc h hn hst) fun v σ H Q ⟨m, S, g, d, hs, hr, rd, hp⟩ => ?_
  cases rd with
  | @tup a vs xs hq rs =>
    refine ⟨a, vs, rfl, hq, ?_, m, S, g, xs, hs, hr, rs, hp⟩
    have hp : PostG (kw X) (WE W σ) is σ m H Q (r xs g S) := hp
    cases e : r xs g S with
    | ok g' S' => rw [← rs.length]; exact hl _ _ _ _ _ e
    | ex _ _ => exact absurd e (c2 _ _ _ _ _)
    | no => rw [e] at hp; exact hp.elim
  | _ => exact hp.elim
theorem set_r {K : Fw} {m : List Addr} {H : Hp} {S : Store} {o i v : D} {ov iv vv : V} {S' : Store} {Q : Hp → Prop} (hs : Sim K m S H) (ro : RV K m H o ov) (ri : RV K m H i iv) (rv : RV K m H v vv) (h : setAt o i v S = .ok () S')
    (q : ∀ H', Ext m H m H' → Sim K m S' H' → Q H') : rSetL ov iv vv H Q := by
  unfold setAt at h
  split at h
  · rename_i h1
    obtain ⟨a, vs, rfl, hm, e1, r1⟩ := lstAt_at hs ro h1
    cases ri
    split at h
    · rename_i h2
      cases h
      exact ⟨a, vs, _, _, rfl, rfl, e1, by rw [← r1.length]; exact h2, q _ (ext_write hm) (sim_write hs hm (r1.set rv _))⟩
    · cases h
  · cases h
theorem mg_sub {o i : Expr} {fo fi : SE} (ho : PE X o (tD (kw X) W fo)) (hi : PE X i (tD (kw X) W fi))
    (ha : ∀ v, assign (.Subscript o i pos) X.env v = (do
      let ov ← holding [v] (eval o X.env)
      let iv ← holding [v, ov] (eval i X.env)
      standAt pos
      holding [v, ov, iv] (setItem ov iv v)
      release [v, ov, iv] [])) : PG X (.Subscript o i pos) (tDG (kw X) W [] (gSubD fo fi)) := by
  refine pgI (pg_sub ho hi set_list ha) fun v σ H Q ⟨m, S, g, d, hs, hr, rd, hp⟩ => ?_
  refine ⟨m, S, g, hs, hr, hp.bind fun x S1 e1 m1 H1 x1 s1 hp v1 r1 => ⟨m1, S1, g, s1, hr.ext hs x1, hp.bind fun y S2 e2 m2 H2 x2 s2 hp v2 r2 => ?_⟩⟩
  cases e3 : setAt x y d S2 with
  | ok u S3 =>
    rw [e3] at hp
    refine set_r s2 (r1.ext s1 x2) r2 (rd.ext hs (x1.trans x2)) e3 fun H' x3 s3 => ?_
    exact hp m2 H' x3 s3 σ ((hr.ext hs (x1.trans x2)).ext s2 x3) fun _ _ => rfl
  | ex x S3 =>
    exfalso
    unfold setAt at e3
    split at e3
    · split at e3 <;> cases e3
    · cases e3
  | no => rw [e3] at hp; exact hp.elim
end

/-! ### what is walked -/
inductive IK where
  | lst (n : Nat) | vals (xs : List D) | enum (n : Nat) | zip (a b : Nat)
/-- at turn i: it yields, stops, or is stuck -/
def istep (ik : IK) (i : Nat) (S : Store) : Option (Option D) := match ik with
  | .lst n => match S[n]? with
    | some (.lst xs) => some xs[i]?
    | _ => none
  | .vals xs => some xs[i]?
  | .enum n => match S[n]? with
    | some (.lst xs) => some (xs[i]?.map fun x => .tup [.int (i : Nat), x])
    | _ => none
  | .zip a b => match S[a]?, S[b]? with
    | some (.lst xs), some (.lst ys) => match xs[i]?, ys[i]? with
      | some x, some y => some (some (.tup [x, y]))
      | _, _ => some none
    | _, _ => none
def ibound (ik : IK) (S : Store) : Nat := match ik with
  | .lst n => match S[n]? with
    | some (.lst xs) => xs.length + 1
    | _ => 0
  | .vals xs => xs.length + 1
  | .enum n => match S[n]? with
    | some (.lst xs) => xs.length + 1
    | _ => 0
  | .zip a b => match S[a]? with
    | some (.lst xs) => xs.length + 1
    | _ => 0
abbrev SI := Sg → Store → O IK
def signs (x : Str) : List D := x.cps.toList.map fun c => .str ⟨#[c]⟩
def iVal (a : SE) : SI := fun g S => (a g S).bind fun d S => match d with
  | .tup xs => .ok (.vals xs) S
  | .cl xs => .ok (.vals xs) S
  | .str x => .ok (.vals (signs x)) S
  | .loc n => match S[n]? with
    | some (.lst _) => .ok (.lst n) S
    | _ => .no
  | _ => .no
def intsFrom (lo : Int) (n : Nat) : List D := (List.range n).map fun i => .int (lo + (i : Nat))
def rngOk (i : Int) : Bool := decide (-(2 ^ 62) ≤ i) && decide (i < 2 ^ 62)
def intsBy (lo c : Int) (n : Nat) : List D := (List.range n).map fun i => .int (lo + (i : Nat) * c)
def rng3Ok (i j c : Int) : Bool := decide (c ≠ 0) && decide (c.natAbs < 1073741824) && Builtin.Range.small i j c && decide (0 ≤ Builtin.Range.rangeSize i j c)
def iRng (a : SA) : SI := fun g S => (a g S).bind fun ds S => match ds with
  | [.int j] => if rngOk j = true then .ok (.vals (intsFrom 0 j.toNat)) S else .no
  | [.int i, .int j] => if (rngOk i && rngOk j) = true then .ok (.vals (intsFrom i (j - i).toNat)) S else .no
  | [.int i, .int j, .int c] => if rng3Ok i j c = true then .ok (.vals (intsBy i c (Builtin.Range.rangeSize i j c).toNat)) S else .no
  | _ => .no
def iEnumD (a : SA) : SI := fun g S => (a g S).bind fun ds S => match ds with
  | [.loc n] => match S[n]? with
    | some (.lst _) => .ok (.enum n) S
    | _ => .no
  | _ => .no
def iZipD (a : SA) : SI := fun g S => (a g S).bind fun ds S => match ds with
  | [.loc n, .loc k] => match S[n]?, S[k]? with
    | some (.lst _), some (.lst _) => .ok (.zip n k) S
    | _, _ => .no
  | _ => .no
structure ItOk (K : Fw) (m0 : List Addr) (H0 : Hp) (ik : IK) (J : It) : Prop where
  go : ∀ m S H i d, Ext0 m0 H0 m H → Sim K m S H → istep ik i S = some (some d) → J.go i H ∧ ∀ x H', J.yld i H x H' → Ext m H m H' ∧ Sim K m S H' ∧ RV K m H' d x
  stop : ∀ m S H i, Ext0 m0 H0 m H → Sim K m S H → istep ik i S = some none → J.stop i H
abbrev gI (K : Fw) (Rr : It → Hp → Prop) : IK → List Addr → Hp → Prop := fun ik m H => ∀ J, ItOk K m H ik J → Rr J H
def tDI (K : Fw) (W : WX) (f : SI) : TI := fun σ H Rr => ∃ m S g, Sim K m S H ∧ RVo K m H g σ ∧ Post K (WE W σ) m H (gI K Rr) (f g S)
section
variable {X : Cx} {tg : Expr}
theorem piI {e : Expr} {t t' : TI} (h : PI X tg e t) (i : ∀ σ H Q, t' σ H Q → t σ H Q) : PI X tg e t' := ⟨fun pins s σ H Q I q => h.run pins s σ H Q I (i σ H Q q)⟩
theorem piOr {e : Expr} {t t' : TI} (h : PI X tg e t) (h' : PI X tg e t') : PI X tg e (fun σ H Q => t σ H Q ∨ t' σ H Q) := ⟨fun pins s σ H Q I q => q.elim (h.run pins s σ H Q I) (h'.run pins s σ H Q I)⟩
variable {K : Fw} {m0 : List Addr} {H0 : Hp} {S0 : Store}
theorem it_lst {n : Nat} {a : Addr} (hm : m0[n]? = some a) : ItOk K m0 H0 (.lst n) (Itl K.K a) := by
  refine ⟨fun m S H i d e s h => ?_, fun m S H i e s h => ?_⟩
  · have h : (match S[n]? with | some (.lst xs) => some xs[i]? | _ => none) = some (some d) := h
    cases c : S[n]? with
    | none => rw [c] at h; cases h
    | some c' =>
      rw [c] at h
      cases c' with
      | lst xs =>
        have h : xs[i]? = some d := Option.some.inj h
        obtain ⟨vs, h1, r⟩ := s.lst (e.pre n a hm) c
        obtain ⟨v, h2, rv⟩ := r.get h
        refine ⟨⟨vs, v, SqL.of h1, h2⟩, fun x H' ⟨e', hx⟩ => ?_⟩
        subst e'
        have := hx vs (SqL.of h1)
        rw [h2] at this
        cases this
        exact ⟨Ext.refl, s, rv⟩
      | dct _ _ => cases h
      | ins _ _ => cases h
  · have h : (match S[n]? with | some (.lst xs) => some xs[i]? | _ => none) = some none := h
    cases c : S[n]? with
    | none => rw [c] at h; cases h
    | some c' =>
      rw [c] at h
      cases c' with
      | lst xs =>
        have h : xs[i]? = none := Option.some.inj h
        obtain ⟨vs, h1, r⟩ := s.lst (e.pre n a hm) c
        exact ⟨vs, SqL.of h1, by rw [← r.length]; exact List.getElem?_eq_none_iff.mp h⟩
      | dct _ _ => cases h
      | ins _ _ => cases h
theorem it_tup {a : Addr} {xs : List D} {vs : List V} (s0 : Sim K m0 S0 H0) (hq : SqT K.K H0 a vs) (r : RVs K m0 H0 xs vs) : ItOk K m0 H0 (.vals xs) (Itt K.K a) := by
  refine ⟨fun m S H i d e s h => ?_, fun m S H i e s h => ?_⟩
  · have h : xs[i]? = some d := Option.some.inj h
    obtain ⟨v, h2, rv⟩ := r.get h
    refine ⟨⟨vs, v, Ext0.sqT s0 e hq, h2⟩, fun x H' ⟨e', hx⟩ => ?_⟩
    subst e'
    have := hx vs (Ext0.sqT s0 e hq)
    rw [h2] at this
    cases this
    exact ⟨Ext.refl, s, rv.ext0 s0 e⟩
  · have h : xs[i]? = none := Option.some.inj h
    exact ⟨vs, Ext0.sqT s0 e hq, by rw [← r.length]; exact List.getElem?_eq_none_iff.mp h⟩
theorem it_cl {a : Addr} {xs : List D} {vs : List V} (s0 : Sim K m0 S0 H0) (hq : SqC K H0 a vs) (r : RVs K m0 H0 xs vs) : ItOk K m0 H0 (.vals xs) (Itl K.K a) := by
  refine ⟨fun m S H i d e s h => ?_, fun m S H i e s h => ?_⟩
  · have h : xs[i]? = some d := Option.some.inj h
    obtain ⟨v, h2, rv⟩ := r.get h
    refine ⟨⟨vs, v, (Ext0.sqC s0 e hq).sq, h2⟩, fun x H' ⟨e', hx⟩ => ?_⟩
    subst e'
    have := hx vs (Ext0.sqC s0 e hq).sq
    rw [h2] at this
    cases this
    exact ⟨Ext.refl, s, rv.ext0 s0 e⟩
  · have h : xs[i]? = none := Option.some.inj h
    exact ⟨vs, (Ext0.sqC s0 e hq).sq, by rw [← r.length]; exact List.getElem?_eq_none_iff.mp h⟩
theorem it_str {x : Str} : ItOk K m0 H0 (.vals (signs x)) (Its x) := by
  refine ⟨fun m S H i d e s h => ?_, fun m S H i e s h => ?_⟩
  · have h : (signs x)[i]? = some d := Option.some.inj h
    unfold signs at h
    rw [List.getElem?_map] at h
    cases c : x.cps.toList[i]? with
    | none => rw [c] at h; cases h
    | some z =>
      rw [c] at h
      cases h
      have hi := (List.getElem?_eq_some_iff.mp c).1
      refine ⟨show i < x.cps.size by simpa using hi, fun v H' ⟨e', z', hz, hv⟩ => ?_⟩
      subst e'
      have : x.cps[i]? = some z := by simpa using c
      rw [this] at hz
      cases hz
      subst hv
      exact ⟨Ext.refl, s, .str _⟩
  · have h : (signs x)[i]? = none := Option.some.inj h
    have := List.getElem?_eq_none_iff.mp h
    unfold signs at this
    show x.cps.size ≤ i
    simpa using this
theorem it_rng {lo : Int} {n : Nat} : ItOk K m0 H0 (.vals (intsFrom lo n)) (Itr lo n) := by
  refine ⟨fun m S H i d e s h => ?_, fun m S H i e s h => ?_⟩
  · have h : (intsFrom lo n)[i]? = some d := Option.some.inj h
    unfold intsFrom at h
    have hi : i < n := by
      have := (List.getElem?_eq_some_iff.mp h).1
      simpa using this
    rw [List.getElem?_map, List.getElem?_range hi] at h
    cases h
    refine ⟨hi, fun v H' ⟨e', hv⟩ => ?_⟩
    subst e'
    subst hv
    exact ⟨Ext.refl, s, .int _⟩
  · have h : (intsFrom lo n)[i]? = none := Option.some.inj h
    have := List.getElem?_eq_none_iff.mp h
    unfold intsFrom at this
    show n ≤ i
    simpa using this
theorem it_rngC {lo c : Int} {n : Nat} : ItOk K m0 H0 (.vals (intsBy lo c n)) (Itc lo c n) := by
  refine ⟨fun m S H i d e s h => ?_, fun m S H i e s h => ?_⟩
  · have h : (intsBy lo c n)[i]? = some d := Option.some.inj h
    unfold intsBy at h
    have hi : i < n := by
      have := (List.getElem?_eq_some_iff.mp h).1
      simpa using this
    rw [List.getElem?_map, List.getElem?_range hi] at h
    cases h
    refine ⟨hi, fun v H' ⟨e', hv⟩ => ?_⟩
    subst e'
    subst hv
    exact ⟨Ext.refl, s, .int _⟩
  · have h : (intsBy lo c n)[i]? = none := Option.some.inj h
    have := List.getElem?_eq_none_iff.mp h
    unfold intsBy at this
    show n ≤ i
    simpa using this
theorem lst_at {n : Nat} {S : Store} {α : Type} {o : Option α} {f : List D → Option α} (h : (match S[n]? with | some (.lst xs) => f xs | _ => none) = o) (hn : o ≠ none) : ∃ xs, S[n]? = some (.lst xs) ∧ f xs = o := by
  cases c : S[n]? with
  | none => rw [c] at h; exact absurd h.symm hn
  | some c' =>
    rw [c] at h
    cases c' with
    | lst xs => exact ⟨xs, rfl, h⟩
    | dct _ _ => exact absurd h.symm hn
    | ins _ _ => exact absurd h.symm hn
theorem it_enum {n : Nat} {a : Addr} (hm : m0[n]? = some a) : ItOk K m0 H0 (.enum n) (Ite K.K a) := by
  refine ⟨fun m S H i d e s h => ?_, fun m S H i e s h => ?_⟩
  · obtain ⟨xs, c, h⟩ := lst_at (f := fun xs => some (xs[i]?.map fun x => D.tup [.int (i : Nat), x])) h (by simp)
    have h : (xs[i]?.map fun x => D.tup [.int (i : Nat), x]) = some d := Option.some.inj h
    cases q : xs[i]? with
    | none => rw [q] at h; cases h
    | some y =>
      rw [q] at h
      cases h
      obtain ⟨vs, h1, r⟩ := s.lst (e.pre n a hm) c
      obtain ⟨v, h2, rv⟩ := r.get q
      refine ⟨⟨vs, v, SqL.of h1, h2⟩, fun x H' ⟨t, z, ex, ht, eH, hx⟩ => ?_⟩
      have := hx vs (SqL.of h1)
      rw [h2] at this
      cases this
      subst ex; subst eH
      exact ⟨ext_new ht, sim_new s ht, .tup (.inl (.inl upd_same)) (.cons (.int _) (.cons (rv.ext s (ext_new ht)) .nil))⟩
  · obtain ⟨xs, c, h⟩ := lst_at (f := fun xs => some (xs[i]?.map fun x => D.tup [.int (i : Nat), x])) h (by simp)
    have h : (xs[i]?.map fun x => D.tup [.int (i : Nat), x]) = none := Option.some.inj h
    cases q : xs[i]? with
    | none =>
      obtain ⟨vs, h1, r⟩ := s.lst (e.pre n a hm) c
      exact ⟨vs, SqL.of h1, by rw [← r.length]; exact List.getElem?_eq_none_iff.mp q⟩
    | some y => rw [q] at h; cases h
theorem it_zip {n k : Nat} {a b : Addr} (hm : m0[n]? = some a) (hk : m0[k]? = some b) : ItOk K m0 H0 (.zip n k) (Itz K.K a b) := by
  refine ⟨fun m S H i d e s h => ?_, fun m S H i e s h => ?_⟩
  · unfold istep at h
    dsimp only at h
    split at h
    · rename_i xs ys c1 c2
      split at h
      · rename_i x y q1 q2
        cases h
        obtain ⟨vs, h1, r⟩ := s.lst (e.pre n a hm) c1
        obtain ⟨ws, h2, r'⟩ := s.lst (e.pre k b hk) c2
        obtain ⟨v, h3, rv⟩ := r.get q1
        obtain ⟨w, h4, rw'⟩ := r'.get q2
        refine ⟨⟨vs, ws, v, w, SqL.of h1, SqL.of h2, h3, h4⟩, fun x H' ⟨t, z, z', ex, ht, eH, hx, hy⟩ => ?_⟩
        have e1 := hx vs (SqL.of h1)
        rw [h3] at e1
        cases e1
        have e2 := hy ws (SqL.of h2)
        rw [h4] at e2
        cases e2
        subst ex; subst eH
        exact ⟨ext_new ht, sim_new s ht, .tup (.inl (.inl upd_same)) (.cons (rv.ext s (ext_new ht)) (.cons (rw'.ext s (ext_new ht)) .nil))⟩
      · cases h
    · cases h
  · unfold istep at h
    dsimp only at h
    split at h
    · rename_i xs ys c1 c2
      split at h
      · cases h
      · rename_i hno
        obtain ⟨vs, h1, r⟩ := s.lst (e.pre n a hm) c1
        obtain ⟨ws, h2, r'⟩ := s.lst (e.pre k b hk) c2
        refine ⟨vs, ws, SqL.of h1, SqL.of h2, ?_⟩
        rw [← r.length, ← r'.length]
        by_cases q1 : i < xs.length
        · by_cases q2 : i < ys.length
          · exact (hno xs[i] ys[i] (List.getElem?_eq_getElem q1) (List.getElem?_eq_getElem q2)).elim
          · exact .inr (by omega)
        · exact .inl (by omega)
    · cases h
end
section
variable {X : Cx} {W : WX} {tg : Expr}
theorem mi_val {e : Expr} {f : SE} (h : PE X e (tD (kw X) W f)) : PI X tg e (tDI (kw X) W (iVal f)) := by
  refine piI (piOr (pi_list h) (piOr (pi_tup h) (pi_str h))) fun σ H Q ⟨m, S, g, hs, hr, hp⟩ => ?_
  have hp : Post (kw X) (WE W σ) m H (gI (kw X) Q) ((f g S).bind fun d S => match d with
    | .tup xs => .ok (.vals xs) S
    | .cl xs => .ok (.vals xs) S
    | .str x => .ok (.vals (signs x)) S
    | .loc n => match S[n]? with
      | some (.lst _) => .ok (.lst n) S
      | _ => .no
    | _ => .no) := hp
  cases e1 : f g S with
  | no => rw [e1] at hp; exact hp.elim
  | ex x S1 => rw [e1] at hp; exact .inl ⟨m, S, g, hs, hr, by rw [e1]; exact hp⟩
  | ok d S1 =>
    rw [e1] at hp
    have go : ∀ Q' : VK, (∀ m' H', Ext m H m' H' → Sim (kw X) m' S1 H' → ∀ v, RV (kw X) m' H' d v → Q' v H') → tD (kw X) W f σ H Q' := fun Q' k => ⟨m, S, g, hs, hr, by rw [e1]; exact k⟩
    cases d with
    | tup xs =>
      refine .inr (.inl (go _ fun m1 H1 x1 s1 v r1 => ?_))
      cases r1 with
      | @tup a vs _ hq r => exact ⟨a, rfl, ⟨vs, hq⟩, hp m1 H1 x1 s1 _ (it_tup s1 hq r)⟩
    | cl xs =>
      refine .inl (go _ fun m1 H1 x1 s1 v r1 => ?_)
      cases r1 with
      | @cl a vs _ hq r => exact ⟨a, rfl, ⟨vs, hq.sq⟩, hp m1 H1 x1 s1 _ (it_cl s1 hq r)⟩
    | str x =>
      refine .inr (.inr (go _ fun m1 H1 x1 s1 v r1 => ?_))
      cases r1
      exact ⟨x, rfl, hp m1 H1 x1 s1 _ it_str⟩
    | loc n =>
      have hp : Post (kw X) (WE W σ) m H (gI (kw X) Q) (match S1[n]? with | some (.lst _) => .ok (.lst n) S1 | _ => .no) := hp
      split at hp
      · rename_i xs c
        refine .inl (go _ fun m1 H1 x1 s1 v r1 => ?_)
        cases r1 with
        | @loc _ a hm =>
          obtain ⟨vs, h1, r⟩ := s1.lst hm c
          exact ⟨a, rfl, ⟨vs, SqL.of h1⟩, hp m1 H1 x1 s1 _ (it_lst hm)⟩
      · exact hp.elim
    | non => exact hp.elim
    | bl _ => exact hp.elim
    | int _ => exact hp.elim
    | oth => exact hp.elim
theorem mi_rng1 {a : Expr} {fr : SA} {p pos : Pos} (hg : Gl X "range") (hm : X.mg "range" = none) (ha : PA X [a] (tDA (kw X) W fr)) (hs : starEach [a] X.env = [(false, eval a X.env)]) (hl : ∀ g S ds S', fr g S = .ok ds S' → ds.length = 1) :
    PI X tg (.Call (.Name "range" p) [a] [] pos) (tDI (kw X) W (iRng fr)) := by
  refine piI (pi_range1 hg hm ha hs) fun σ H Q ⟨m, S, g, hs, hr, hp⟩ => ⟨m, S, g, hs, hr, hp.bind fun ds S1 e1 m1 H1 x1 s1 hp vs r1 => ?_⟩
  have hl := hl _ _ _ _ e1
  split at hp
  · obtain ⟨v, rfl, r⟩ := r1.one
    cases r
    split at hp
    · rename_i hz
      simp only [rngOk, Bool.and_eq_true, decide_eq_true_eq] at hz
      exact ⟨_, rfl, hz.1, hz.2, hp.now s1 _ it_rng⟩
    · exact hp.elim
  · simp at hl
  · simp at hl
  · exact hp.elim
theorem mi_rng2 {a b : Expr} {fr : SA} {p pos : Pos} (hg : Gl X "range") (hm : X.mg "range" = none) (ha : PA X [a, b] (tDA (kw X) W fr)) (hs : starEach [a, b] X.env = [(false, eval a X.env), (false, eval b X.env)]) (hs2 : starEach [b] X.env = [(false, eval b X.env)]) (hl : ∀ g S ds S', fr g S = .ok ds S' → ds.length = 2) :
    PI X tg (.Call (.Name "range" p) [a, b] [] pos) (tDI (kw X) W (iRng fr)) := by
  refine piI (pi_range2 hg hm ha hs hs2) fun σ H Q ⟨m, S, g, hs, hr, hp⟩ => ⟨m, S, g, hs, hr, hp.bind fun ds S1 e1 m1 H1 x1 s1 hp vs r1 => ?_⟩
  have hl := hl _ _ _ _ e1
  split at hp
  · simp at hl
  · obtain ⟨v, w, rfl, r, r'⟩ := r1.two
    cases r; cases r'
    split at hp
    · rename_i hz
      simp only [rngOk, Bool.and_eq_true, decide_eq_true_eq] at hz
      exact ⟨_, _, rfl, ⟨hz.1.1, hz.1.2, hz.2.1, hz.2.2⟩, hp.now s1 _ it_rng⟩
    · exact hp.elim
  · simp at hl
  · exact hp.elim
theorem mi_rng3 {a b c : Expr} {fr : SA} {p pos : Pos} (hg : Gl X "range") (hm : X.mg "range" = none) (ha : PA X [a, b, c] (tDA (kw X) W fr)) (hs : starEach [a, b, c] X.env = (false, eval a X.env) :: starEach [b, c] X.env) (hpl : (backTo pos (starEach [b, c] X.env)).any (·.1) = false) (hl : ∀ g S ds S', fr g S = .ok ds S' → ds.length = 3) :
    PI X tg (.Call (.Name "range" p) [a, b, c] [] pos) (tDI (kw X) W (iRng fr)) := by
  refine piI (pi_range3 hg hm ha hs hpl) fun σ H Q ⟨m, S, g, hs, hr, hp⟩ => ⟨m, S, g, hs, hr, hp.bind fun ds S1 e1 m1 H1 x1 s1 hp vs r1 => ?_⟩
  have hl := hl _ _ _ _ e1
  split at hp
  · simp at hl
  · simp at hl
  · cases r1 with | cons r1 t1 => cases t1 with | cons r2 t2 => cases t2 with | cons r3 t3 =>
      cases t3
      cases r1; cases r2; cases r3
      split at hp
      · rename_i hz
        simp only [rng3Ok, Bool.and_eq_true, decide_eq_true_eq] at hz
        exact ⟨_, _, _, _, rfl, ⟨hz.1.1.1, hz.1.1.2, hz.1.2, (Int.toNat_of_nonneg hz.2).symm⟩, hp.now s1 _ it_rngC⟩
      · exact hp.elim
  · exact hp.elim
theorem mi_enum {a : Expr} {fr : SA} {p pos tpos : Pos} {elts : List Expr} {kk : Nat} (hg : Gl X "enumerate") (hm : X.mg "enumerate" = none) (ha : PA X [a] (tDA (kw X) W fr)) (hs : starEach [a] X.env = [(false, eval a X.env)]) :
    PI X (.Tuple elts kk tpos) (.Call (.Name "enumerate" p) [a] [] pos) (tDI (kw X) W (iEnumD fr)) := by
  refine piI (pi_enum hg hm ha hs) fun σ H Q ⟨m, S, g, hs, hr, hp⟩ => ⟨m, S, g, hs, hr, hp.bind fun ds S1 e1 m1 H1 x1 s1 hp vs r1 => ?_⟩
  split at hp
  · obtain ⟨v, rfl, r⟩ := r1.one
    cases r with
    | @loc n a hm =>
      split at hp
      · rename_i xs c
        obtain ⟨vs, h1, r⟩ := s1.lst hm c
        exact ⟨a, vs, rfl, SqL.of h1, hp.now s1 _ (it_enum hm)⟩
      · exact hp.elim
  · exact hp.elim
theorem mi_zip {a b : Expr} {fr : SA} {p pos tpos : Pos} {elts : List Expr} {kk : Nat} (h : PI X (.Tuple elts kk tpos) (.Call (.Name "zip" p) [a, b] [] pos) (iZip X.K (tDA (kw X) W fr))) :
    PI X (.Tuple elts kk tpos) (.Call (.Name "zip" p) [a, b] [] pos) (tDI (kw X) W (iZipD fr)) := by
  refine piI h fun σ H Q ⟨m, S, g, hs, hr, hp⟩ => ⟨m, S, g, hs, hr, hp.bind fun ds S1 e1 m1 H1 x1 s1 hp vs r1 => ?_⟩
  split at hp
  · obtain ⟨v, w, rfl, r, r'⟩ := r1.two
    cases r with
    | @loc n a hm =>
      cases r' with
      | @loc k b hk =>
        split at hp
        · rename_i xs ys c1 c2
          obtain ⟨vs, h1, r⟩ := s1.lst hm c1
          obtain ⟨ws, h2, r'⟩ := s1.lst hk c2
          exact ⟨a, b, vs, ws, rfl, SqL.of h1, SqL.of h2, hp.now s1 _ (it_zip hm hk)⟩
        · exact hp.elim
  · exact hp.elim
end
end Mz

end

section
set_option Elab.async false
set_option linter.all false
set_option maxRecDepth 100000
namespace Mz
open PySem PySem.Spec L2

/-! ### statements -/
def sNil : SS := fun g S => .nx g S
def sCons (a b : SS) : SS := fun g S => match a g S with
  | .nx g S => b g S
  | r => r
def sAsg (f : SE) (t : SG) : SS := fun g S => bindR g (f g S) fun d S => bindR g (t d g S) fun g S => .nx g S
def sPar (i j : Nat) (a : SA) : SS := fun g S => bindR g (a g S) fun ds S => match ds with
  | [x, y] => .nx ((g.set i (some x)).set j (some y)) S
  | _ => .no
def sPar3 (i j k : Nat) (a : SA) : SS := fun g S => bindR g (a g S) fun ds S => match ds with
  | [x, y, z] => .nx (((g.set i (some x)).set j (some y)).set k (some z)) S
  | _ => .no
def augD (p : Bop) (x y : D) : Option D := match asInt x, asInt y with
  | some a, some b => match p with
    | .add => some (.int (a + b))
    | .sub => some (.int (a - b))
    | _ => none
  | _, _ => none
theorem asInt_some {x : D} {a : Int} (h : asInt x = some a) : x = .int a := by
  cases x <;> first | (cases h; rfl) | cases h
theorem augD_inv {p : Bop} {x y z : D} (h : augD p x y = some z) : ∃ a b, x = .int a ∧ y = .int b ∧ ((p = .add ∧ z = .int (a + b)) ∨ (p = .sub ∧ z = .int (a - b))) := by
  unfold augD at h
  split at h
  · rename_i a b h1 h2
    refine ⟨a, b, asInt_some h1, asInt_some h2, ?_⟩
    split at h
    · exact .inl ⟨rfl, (Option.some.inj h).symm⟩
    · exact .inr ⟨rfl, (Option.some.inj h).symm⟩
    · cases h
  · cases h
def sAug (i : Nat) (p : Bop) (f : SE) : SS := fun g S => match g[i]? with
  | some (some x) => bindR g (f g S) fun y S => match augD p x y with
    | some z => .nx (g.set i (some z)) S
    | none => .no
  | _ => .no
def sIf (t : ST) (a b : SS) : SS := fun g S => bindR g (t g S) fun c S => if c = true then a g S else b g S
def sRet (f : SE) : SS := fun g S => bindR g (f g S) fun d S => .rt d S
def sRetN : SS := fun _ S => .rt .non S
def sEx (f : SE) : SS := fun g S => bindR g (f g S) fun _ S => .nx g S
def sBrk : SS := fun g S => .bk g S
def sCnt : SS := fun g S => .ct g S
def wloop (t : ST) (b : SS) : Nat → SS
  | 0 => fun _ _ => .no
  | n + 1 => fun g S => bindR g (t g S) fun c S => if c = true then (match b g S with
    | .nx g S => wloop t b n g S
    | .ct g S => wloop t b n g S
    | .bk g S => .nx g S
    | r => r) else .nx g S
def floop (ik : IK) (t : SG) (b : SS) : Nat → Nat → SS
  | 0, _ => fun _ _ => .no
  | n + 1, i => fun g S => match istep ik i S with
    | some (some d) => bindR g (t d g S) fun g S => match b g S with
      | .nx g S => floop ik t b n (i + 1) g S
      | .ct g S => floop ik t b n (i + 1) g S
      | .bk g S => .nx g S
      | r => r
    | some none => .nx g S
    | none => .no
def sFor (it : SI) (t : SG) (b : SS) : SS := fun g S => bindR g (it g S) fun ik S => floop ik t b (ibound ik S) 0 g S
def lcLoop (ik : IK) (t : SG) (ts : ST) (el : SE) (g0 : Sg) : Nat → Nat → List D → Store → O (List D)
  | 0, _, _, _ => .no
  | n + 1, i, acc, S => match istep ik i S with
    | some (some d) => (t d g0 S).bind fun g S => (ts g S).bind fun c S => if c = true then (el g S).bind fun y S => if acc.length < sizeLine then lcLoop ik t ts el g0 n (i + 1) (acc ++ [y]) S else .no else lcLoop ik t ts el g0 n (i + 1) acc S
    | some none => .ok acc S
    | none => .no
/-- nothing is raised out of a comprehension -/
def noX {α : Type} : O α → O α
  | .ok a S => .ok a S
  | _ => .no
def eLc (own : List Nat) (it : SI) (t : SG) (ts : ST) (el : SE) : SE := fun g S => (it g S).bind fun ik S => (noX (lcLoop ik t ts el (wipeG g own) (ibound ik S) 0 [] S)).bind fun acc S => alloc acc S
def tsNil : ST := fun _ S => .ok true S

section
variable {X : Cx} {W : WX} {pos : Pos}
theorem mb_nil : PSs X [] (tDS (kw X) W sNil) := pssI pss_nil fun D σ H ⟨m, S, g, hs, hr, hp⟩ => hp σ m H Ext.refl hs hr
theorem mb_cons {st : Stmt} {r : List Stmt} {f k : SS} (h1 : PS X st (tDS (kw X) W f)) (h2 : PSs X r (tDS (kw X) W k)) : PSs X (st :: r) (tDS (kw X) W (sCons f k)) := by
  refine pssI (pss_cons h1 h2) fun D σ H ⟨m, S, g, hs, hr, hp⟩ => ?_
  refine ⟨m, S, g, hs, hr, ?_⟩
  unfold sCons at hp
  cases e : f g S with
  | nx g1 S1 =>
    rw [e] at hp
    intro σ1 m1 H1 x1 s1 r1
    exact ⟨m1, S1, g1, s1, r1, PostS.weak x1 hp⟩
  | rt d S1 => rw [e] at hp; exact hp
  | bk d S1 => rw [e] at hp; exact hp
  | ct d S1 => rw [e] at hp; exact hp
  | ex x g1 S1 => rw [e] at hp; exact hp
  | no => rw [e] at hp; exact hp
theorem ms_asg {tg e : Expr} {f : SE} {is : List Nat} {t : SG} (h : PS X (.Assign [tg] e pos) (tAsg (tD (kw X) W f) (tDG (kw X) W is t))) : PS X (.Assign [tg] e pos) (tDS (kw X) W (sAsg f t)) := by
  refine psI h fun D σ H ⟨m, S, g, hs, hr, hp⟩ => ⟨m, S, g, hs, hr, hp.bind hs hr fun d S1 _ m1 H1 x1 s1 hp v r1 => ?_⟩
  exact ⟨m1, S1, g, d, s1, hr.ext hs x1, r1, hp.bind s1 (hr.ext hs x1) fun g2 S2 _ m2 H2 x2 s2 hp σ2 r2 _ => hp σ2 m2 H2 Ext.refl s2 r2⟩
/-- name = e, where the layer's rule speaks of gName -/
theorem ms_set {i : Nat} {tg e : Expr} {f : SE} (h : PS X (.Assign [tg] e pos) (tAsg (tD (kw X) W f) (gName i))) : PS X (.Assign [tg] e pos) (tDS (kw X) W (sAsg f (gVar i))) :=
  psI h fun D σ H ⟨m, S, g, hs, hr, hp⟩ => ⟨m, S, g, hs, hr, hp.bind hs hr fun d S1 _ m1 H1 x1 s1 hp v r1 => hp _ m1 H1 Ext.refl s1 ((hr.ext hs x1).set r1 i)⟩
theorem ms_par {i j : Nat} {st : Stmt} {fr : SA} (h : PS X st (tPar i j (tDA (kw X) W fr))) : PS X st (tDS (kw X) W (sPar i j fr)) := by
  refine psI h fun D σ H ⟨m, S, g, hs, hr, hp⟩ => ⟨m, S, g, hs, hr, hp.bind hs hr fun ds S1 _ m1 H1 x1 s1 hp vs r1 => ?_⟩
  split at hp
  · obtain ⟨v, w, rfl, r, r'⟩ := r1.two
    exact ⟨v, w, rfl, hp _ m1 H1 Ext.refl s1 (((hr.ext hs x1).set r i).set r' j)⟩
  · exact hp.elim
theorem ms_aug {i : Nat} {p : Bop} {f : SE} {x : Str} {e : Expr} {pos' : Pos} (hN : X.N.Nodup) (hi : X.N[i]? = some x) (hx : Loc X.env.scope x) (hf : X.fn x = true ∨ X.env.scope.names.lookup x = some .local) (he : PE X e (tD (kw X) W f)) :
    (p = .add ∨ p = .sub) → PS X (.AugAssign (.Name x pos') p.op e pos) (tDS (kw X) W (sAug i p f)) := by
  intro hpp
  have key : ∀ (k : Int → Int → Int), (∀ x y z, augD p x y = some z → ∃ a b, x = .int a ∧ y = .int b ∧ z = .int (k a b)) →
      PS X (.AugAssign (.Name x pos') p.op e pos) (tAug i (tD (kw X) W f) (ipI k)) → PS X (.AugAssign (.Name x pos') p.op e pos) (tDS (kw X) W (sAug i p f)) := by
    intro k hk h
    refine psI h fun D σ H ⟨m, S, g, hs, hr, hp⟩ => ?_
    unfold sAug at hp
    split at hp
    · rename_i d hd
      obtain ⟨v, ev, rv⟩ := hr.2 i d hd
      refine ⟨v, ev, m, S, g, hs, hr, hp.bind hs hr fun y S1 _ m1 H1 x1 s1 hp w r1 => ?_⟩
      split at hp
      · rename_i z hz
        obtain ⟨a, b, rfl, rfl, rfl⟩ := hk _ _ _ hz
        cases rv
        cases r1
        exact ⟨a, b, rfl, rfl, hp _ m1 H1 Ext.refl s1 ((hr.ext hs x1).set (.int _) i)⟩
      · exact hp.elim
    · exact hp.elim
  rcases hpp with rfl | rfl
  · refine key (fun a b => a + b) (fun x y z h => ?_) (ps_aug hN hi hx he ip_add hf)
    obtain ⟨a, b, e1, e2, h⟩ := augD_inv h
    rcases h with ⟨_, h⟩ | ⟨h, _⟩
    · exact ⟨a, b, e1, e2, h⟩
    · cases h
  · refine key (fun a b => a - b) (fun x y z h => ?_) (ps_aug hN hi hx he ip_sub hf)
    obtain ⟨a, b, e1, e2, h⟩ := augD_inv h
    rcases h with ⟨h, _⟩ | ⟨_, h⟩
    · cases h
    · exact ⟨a, b, e1, e2, h⟩
theorem ms_if {c : Expr} {a b : List Stmt} {t : ST} {f k : SS} (hc : PT X c (tDT (kw X) W t)) (ha : PSs X a (tDS (kw X) W f)) (hb : PSs X b (tDS (kw X) W k)) : PS X (.If c a b pos) (tDS (kw X) W (sIf t f k)) := by
  refine psI (ps_if hc ha hb) fun D σ H ⟨m, S, g, hs, hr, hp⟩ => ⟨m, S, g, hs, hr, hp.bind hs hr fun d S1 _ m1 H1 x1 s1 hp => ?_⟩
  cases d with
  | true => rw [if_pos rfl] at hp; exact iteT ⟨m1, S1, g, s1, hr.ext hs x1, hp⟩
  | false => rw [if_neg Bool.false_ne_true] at hp; exact iteF ⟨m1, S1, g, s1, hr.ext hs x1, hp⟩
theorem ms_ret {e : Expr} {f : SE} (he : PE X e (tD (kw X) W f)) : PS X (.Return (some e) pos) (tDS (kw X) W (sRet f)) :=
  psI (ps_ret he) fun D σ H ⟨m, S, g, hs, hr, hp⟩ => ⟨m, S, g, hs, hr, hp.bind hs hr fun d S1 _ m1 H1 x1 s1 hp v r1 => hp v m1 H1 Ext.refl s1 r1⟩
theorem ms_retN : PS X (.Return none pos) (tDS (kw X) W sRetN) := psI ps_retN fun D σ H ⟨m, S, g, hs, hr, hp⟩ => hp _ m H Ext.refl hs .non
theorem ms_ex {e : Expr} {f : SE} (h : PS X (.Expr e pos) (tDrop (tD (kw X) W f))) : PS X (.Expr e pos) (tDS (kw X) W (sEx f)) :=
  psI h fun D σ H ⟨m, S, g, hs, hr, hp⟩ => ⟨m, S, g, hs, hr, hp.bind hs hr fun d S1 _ m1 H1 x1 s1 hp v r1 => hp σ m1 H1 Ext.refl s1 (hr.ext hs x1)⟩
theorem ms_pass : PS X (.Pass pos) (tDS (kw X) W sNil) := psI ps_pass fun D σ H ⟨m, S, g, hs, hr, hp⟩ => hp σ m H Ext.refl hs hr
theorem ms_brk : PS X (.Break pos) (tDS (kw X) W sBrk) := psI ps_break fun D σ H ⟨m, S, g, hs, hr, hp⟩ => hp σ m H Ext.refl hs hr
theorem ms_cnt : PS X (.Continue pos) (tDS (kw X) W sCnt) := psI ps_continue fun D σ H ⟨m, S, g, hs, hr, hp⟩ => hp σ m H Ext.refl hs hr
theorem ms_while {c : Expr} {body : List Stmt} {t : ST} {b : SS} (n : Nat) (hp : PassesOwn (model X.prog X.w) X.A X.env X.xe) (hc : PT X c (tDT (kw X) W t)) (hb : PSs X body (tDS (kw X) W b)) : PS X (.While c body [] pos) (tDS (kw X) W (wloop t b n)) := by
  refine psI (ps_while hp hc hb) fun D σ H ⟨m, S, g, hs, hr, hp⟩ => ?_
  refine ⟨fun k σ H => ∃ m S g, Sim (kw X) m S H ∧ RVo (kw X) m H g σ ∧ PostS (kw X) W m H D (wloop t b k g S), ⟨n, m, S, g, hs, hr, hp⟩, ?_⟩
  rintro k σ H ⟨m, S, g, hs, hr, hp⟩
  cases k with
  | zero => exact hp.elim
  | succ k =>
    have hp : PostS (kw X) W m H D (bindR g (t g S) _) := hp
    refine ⟨m, S, g, hs, hr, hp.bind hs hr fun c S1 _ m1 H1 x1 s1 hp => ?_⟩
    cases c with
    | false => rw [if_neg Bool.false_ne_true] at hp; exact iteF (hp σ m1 H1 Ext.refl s1 (hr.ext hs x1))
    | true =>
      rw [if_pos rfl] at hp
      refine iteT ⟨fun σ H => ∃ m S g, Sim (kw X) m S H ∧ RVo (kw X) m H g σ ∧ PostS (kw X) W m H D (wloop t b k g S), fun σ' H' h => ⟨k, Nat.lt_succ_self k, h⟩, m1, S1, g, s1, hr.ext hs x1, ?_⟩
      cases e : b g S1 with
      | nx g2 S2 => rw [e] at hp; exact fun σ2 m2 H2 x2 s2 r2 => ⟨m2, S2, g2, s2, r2, PostS.weak x2 hp⟩
      | ct g2 S2 => rw [e] at hp; exact fun σ2 m2 H2 x2 s2 r2 => ⟨m2, S2, g2, s2, r2, PostS.weak x2 hp⟩
      | bk g2 S2 => rw [e] at hp; exact hp
      | rt d S2 => rw [e] at hp; exact hp
      | ex x g2 S2 => rw [e] at hp; exact hp
      | no => rw [e] at hp; exact hp
theorem ms_for {tg iter : Expr} {body : List Stmt} {it : SI} {is : List Nat} {t : SG} {b : SS} (hp : PassesOwn (model X.prog X.w) X.A X.env X.xe) (hc : X.calm = true) (hi : PI X tg iter (tDI (kw X) W it)) (hg : PG X tg (tDG (kw X) W is t)) (hb : PSs X body (tDS (kw X) W b))
    (hfs : ∀ x, foldedSetIterable iter X.env x = pure x) : PS X (.For tg iter body [] pos) (tDS (kw X) W (sFor it t b)) := by
  refine psI (ps_for hp hc hi hg hb hfs) fun D σ H ⟨m, S, g, hs, hr, hp⟩ => ⟨m, S, g, hs, hr, hp.bind hs hr fun ik S1 _ m1 H1 x1 s1 hp J itok => ?_⟩
  refine ⟨fun i k σ H => ∃ m S g, Ext m1 H1 m H ∧ Sim (kw X) m S H ∧ RVo (kw X) m H g σ ∧ PostS (kw X) W m H D (floop ik t b k i g S), ⟨ibound ik S1, m1, S1, g, Ext.refl, s1, hr.ext hs x1, hp⟩, ?_⟩
  rintro i k σ H ⟨m, S, g, xx, hs, hr, hp⟩
  cases k with
  | zero => exact hp.elim
  | succ k =>
    have hp : PostS (kw X) W m H D (match istep ik i S with
      | some (some d) => bindR g (t d g S) fun g S => match b g S with
        | .nx g S => floop ik t b k (i + 1) g S
        | .ct g S => floop ik t b k (i + 1) g S
        | .bk g S => .nx g S
        | r => r
      | some none => .nx g S
      | none => .no) := hp
    cases est : istep ik i S with
    | none => rw [est] at hp; exact hp.elim
    | some od =>
      rw [est] at hp
      cases od with
      | none => exact .inl ⟨itok.stop m S H i xx.to0 hs est, hp σ m H Ext.refl hs hr⟩
      | some d =>
        obtain ⟨go, yl⟩ := itok.go m S H i d xx.to0 hs est
        have hp : PostS (kw X) W m H D (bindR g (t d g S) _) := hp
        refine .inr ⟨go, fun σ H => ∃ m S g, Ext m1 H1 m H ∧ Sim (kw X) m S H ∧ RVo (kw X) m H g σ ∧ PostS (kw X) W m H D (floop ik t b k (i + 1) g S), fun σ' H' h => ⟨k, Nat.lt_succ_self k, h⟩, fun x H' hy => ?_⟩
        obtain ⟨xe, xs, xr⟩ := yl x H' hy
        refine ⟨m, S, g, d, xs, hr.ext hs xe, xr, (PostS.weak xe hp).bind xs (hr.ext hs xe) fun g2 S2 _ m2 H2 x2 s2 hp σ2 r2 _ => ?_⟩
        refine ⟨m2, S2, g2, s2, r2, ?_⟩
        cases e : b g2 S2 with
        | nx g3 S3 => rw [e] at hp; exact fun σ3 m3 H3 x3 s3 r3 => ⟨m3, S3, g3, xx.trans (xe.trans (x2.trans x3)), s3, r3, PostS.weak x3 hp⟩
        | ct g3 S3 => rw [e] at hp; exact fun σ3 m3 H3 x3 s3 r3 => ⟨m3, S3, g3, xx.trans (xe.trans (x2.trans x3)), s3, r3, PostS.weak x3 hp⟩
        | bk g3 S3 => rw [e] at hp; exact hp
        | rt d S3 => rw [e] at hp; exact hp
        | ex x g3 S3 => rw [e] at hp; exact hp
        | no => rw [e] at hp; exact hp

/-! ### list comprehensions -/
section
variable {K : Fw} {m : List Addr} {H : Hp} {S : Store} {L : Addr} {vs ws : List V}
theorem out_sqT (e : H L = some (.lst vs)) {a : Addr} {us : List V} (h : SqT K.K H a us) : SqT K.K (upd H L (.lst ws)) a us := by
  rcases h with (h | ⟨o, h⟩) | h
  · refine .inl (.inl ?_)
    rw [upd_ne (ne_of h e (by intro z; cases z))]; exact h
  · refine .inl (.inr ⟨o, ?_⟩)
    rw [upd_ne (ne_of h e (by intro z; cases z))]; exact h
  · exact .inr h
theorem out_sqC (e : H L = some (.lst vs)) {a : Addr} {us : List V} (h : SqC K H a us) : SqC K (upd H L (.lst ws)) a us := by
  rcases h with ⟨o, h⟩ | h
  · refine .inl ⟨o, ?_⟩
    rw [upd_ne (ne_of h e (by intro z; cases z))]; exact h
  · exact .inr h
theorem out_rvs (e : H L = some (.lst vs)) {ds : List D} {us : List V} (h : RVs K m H ds us) : RVs K m (upd H L (.lst ws)) ds us := RVs.mono (fun _ _ h => h) (fun _ _ h => out_sqT e h) (fun _ _ h => out_sqC e h) h
theorem out_rv (e : H L = some (.lst vs)) {d : D} {u : V} (h : RV K m H d u) : RV K m (upd H L (.lst ws)) d u := RV.mono (fun _ _ h => h) (fun _ _ h => out_sqT e h) (fun _ _ h => out_sqC e h) h
theorem out_sim (s : Sim K m S H) (e : H L = some (.lst vs)) (nm : L ∉ m) : Sim K m S (upd H L (.lst ws)) := by
  refine ⟨s.len, s.inj, fun n a c e1 e2 => ?_⟩
  have co := s.cel n a c e1 e2
  have ne : a ≠ L := fun z => nm (by rw [← z]; exact List.mem_of_getElem? e1)
  cases c with
  | lst xs =>
    obtain ⟨us, h, r⟩ := co
    exact ⟨us, by rw [upd_ne ne]; exact h, out_rvs e r⟩
  | dct _ _ =>
    obtain ⟨us, h, r⟩ := co
    exact ⟨us, by rw [upd_ne ne]; exact h, paired_mono (fun _ _ r => ⟨r.1, r.2.1, out_rv e r.2.2.1, out_rv e r.2.2.2⟩) r⟩
  | ins _ _ =>
    obtain ⟨c, dx, us, h0, h, r⟩ := co
    exact ⟨c, dx, us, h0, by rw [upd_ne ne]; exact h, paired_mono (fun _ _ r => ⟨r.1, out_rv e r.2⟩) r⟩
theorem adopt_sim {xs : List D} (s : Sim K m S H) (e : H L = some (.lst vs)) (nm : L ∉ m) (r : RVs K m H xs vs) : Sim K (m ++ [L]) (S ++ [.lst xs]) H := by
  have pre : ∀ (n : Nat) a, m[n]? = some a → (m ++ [L])[n]? = some a := fun n a e => by
    rw [List.getElem?_append_left (List.getElem?_eq_some_iff.mp e).1]; exact e
  have mono : ∀ {ds : List D} {us : List V}, RVs K m H ds us → RVs K (m ++ [L]) H ds us := fun h => RVs.mono pre (fun _ _ h => h) (fun _ _ h => h) h
  have mono1 : ∀ {d : D} {u : V}, RV K m H d u → RV K (m ++ [L]) H d u := fun h => RV.mono pre (fun _ _ h => h) (fun _ _ h => h) h
  refine ⟨by simp [s.len], fun i j a h1 h2 => ?_, fun n a c e1 e2 => ?_⟩
  · by_cases hi : i < m.length
    · rw [List.getElem?_append_left hi] at h1
      by_cases hj : j < m.length
      · rw [List.getElem?_append_left hj] at h2
        exact s.inj i j a h1 h2
      · rw [List.getElem?_append_right (by omega)] at h2
        obtain ⟨_, e⟩ := List.getElem?_eq_some_iff.mp h2
        have : L = a := by simpa using e
        subst this
        exact absurd (List.mem_of_getElem? h1) nm
    · rw [List.getElem?_append_right (by omega)] at h1
      obtain ⟨q, e⟩ := List.getElem?_eq_some_iff.mp h1
      have ea : L = a := by simpa using e
      subst ea
      by_cases hj : j < m.length
      · rw [List.getElem?_append_left hj] at h2
        exact absurd (List.mem_of_getElem? h2) nm
      · rw [List.getElem?_append_right (by omega)] at h2
        obtain ⟨q2, _⟩ := List.getElem?_eq_some_iff.mp h2
        simp at q q2
        omega
  · by_cases hn : n < m.length
    · rw [List.getElem?_append_left hn] at e1
      rw [List.getElem?_append_left (by rw [← s.len]; exact hn)] at e2
      have co := s.cel n a c e1 e2
      cases c with
      | lst ys =>
        obtain ⟨us, h, r⟩ := co
        exact ⟨us, h, mono r⟩
      | dct _ _ =>
        obtain ⟨us, h, r⟩ := co
        exact ⟨us, h, paired_mono (fun _ _ r => ⟨r.1, r.2.1, mono1 r.2.2.1, mono1 r.2.2.2⟩) r⟩
      | ins _ _ =>
        obtain ⟨c, dx, us, h0, h, r⟩ := co
        exact ⟨c, dx, us, h0, h, paired_mono (fun _ _ r => ⟨r.1, mono1 r.2⟩) r⟩
    · rw [List.getElem?_append_right (by omega)] at e1
      rw [List.getElem?_append_right (by rw [← s.len]; omega)] at e2
      obtain ⟨_, q1⟩ := List.getElem?_eq_some_iff.mp e1
      obtain ⟨_, q2⟩ := List.getElem?_eq_some_iff.mp e2
      have ea : L = a := by simpa using q1
      have ec : Cell.lst xs = c := by simpa using q2
      subst ea; subst ec
      exact ⟨vs, e, mono r⟩
end
/-- the end of a comprehension -/
def FinL (K : Fw) (m1 : List Addr) (H1 : Hp) (L : Addr) (Q : VK) : O (List D) → Prop
  | .ok acc S => ∀ m H vs, Ext m1 H1 m H → L ∉ m → Sim K m S H → H L = some (.lst vs) → RVs K m H acc vs → Q (.ref L) H
  | _ => False
theorem FinL.inv {K : Fw} {m1 : List Addr} {H1 : Hp} {L : Addr} {Q : VK} {α : Type} {o : O α} {k : α → Store → O (List D)} (h : FinL K m1 H1 L Q (o.bind k)) : ∃ a S, o = .ok a S ∧ FinL K m1 H1 L Q (k a S) := by
  cases o with | ok a S => exact ⟨a, S, rfl, h⟩ | ex _ _ => exact h.elim | no => exact h.elim
def W0 : WX := fun _ _ _ _ => False
theorem lc_r {own : List Nat} {it : SI} {is : List Nat} {t : SG} {ts : ST} {el : SE} (his : ∀ i ∈ is, i ∈ own) {σ : L2.St} {H : Hp} {Q : VK} (h : tD (kw X) W (eLc own it t ts el) σ H Q) :
    tLc (tDI (kw X) W it) (tDG (kw X) W0 is t) (tDT (kw X) W0 ts) (tD (kw X) W0 el) own σ H Q := by
  obtain ⟨m, S, g, hs, hr, hp⟩ := h
  refine ⟨m, S, g, hs, hr, hp.bind fun ik S1 _ m1 H1 x1 s1 hp J itok L hL => ?_⟩
  have nL1 : L ∉ m1 := fun z => by
    obtain ⟨o, e, _⟩ := s1.mut z
    rw [hL] at e; cases e
  have fin : FinL (kw X) m1 H1 L Q (lcLoop ik t ts el (wipeG g own) (ibound ik S1) 0 [] S1) := by
    cases e2 : lcLoop ik t ts el (wipeG g own) (ibound ik S1) 0 [] S1 with
    | ex x S2 => rw [e2] at hp; exact hp.elim
    | no => rw [e2] at hp; exact hp.elim
    | ok acc S2 =>
      rw [e2] at hp
      intro m' H' vs x' nL s' eL r'
      refine hp (m' ++ [L]) H' ⟨fun n a e => ?_, fun a h1 n => ?_, x'.kee⟩ (adopt_sim s' eL nL r') (.ref L) (.loc ?_)
      · have e := x'.pre n a e
        rw [List.getElem?_append_left (List.getElem?_eq_some_iff.mp e).1]; exact e
      · rcases List.mem_append.mp h1 with z | z
        · exact x'.new a z n
        · have : a = L := by simpa using z
          subst this; exact hL
      · rw [← s'.len, List.getElem?_append_right (Nat.le_refl _)]
        simp
  have xL : Ext m1 H1 m1 (upd H1 L (.lst [])) := ext_new hL
  refine ⟨fun i k H => ∃ m S acc vs, Ext m1 H1 m H ∧ L ∉ m ∧ Sim (kw X) m S H ∧ H L = some (.lst vs) ∧ RVs (kw X) m H acc vs ∧ FinL (kw X) m1 H1 L Q (lcLoop ik t ts el (wipeG g own) k i acc S),
    ⟨_, m1, S1, [], [], xL, nL1, sim_new s1 hL, upd_same, .nil, fin⟩, ?_⟩
  rintro i k H ⟨m, S, acc, vs, xx, nL, hs', eL, ra, hp⟩
  cases k with
  | zero => exact hp.elim
  | succ k =>
    have hp : FinL (kw X) m1 H1 L Q (match istep ik i S with
      | some (some d) => (t d (wipeG g own) S).bind fun g' S => (ts g' S).bind fun c S => if c = true then (el g' S).bind fun y S => if acc.length < sizeLine then lcLoop ik t ts el (wipeG g own) k (i + 1) (acc ++ [y]) S else .no else lcLoop ik t ts el (wipeG g own) k (i + 1) acc S
      | some none => .ok acc S
      | none => .no) := hp
    cases est : istep ik i S with
    | none => rw [est] at hp; exact hp.elim
    | some od =>
      rw [est] at hp
      cases od with
      | none => exact .inl ⟨itok.stop m S H i xx.to0 hs' est, hp m H vs xx nL hs' eL ra⟩
      | some d =>
        obtain ⟨go, yl⟩ := itok.go m S H i d xx.to0 hs' est
        have hp : FinL (kw X) m1 H1 L Q ((t d (wipeG g own) S).bind _) := hp
        obtain ⟨g2, S2, e2, hp⟩ := hp.inv
        obtain ⟨c, S3, e3, hp⟩ := hp.inv
        refine .inr ⟨go, fun H => ∃ m S acc vs, Ext m1 H1 m H ∧ L ∉ m ∧ Sim (kw X) m S H ∧ H L = some (.lst vs) ∧ RVs (kw X) m H acc vs ∧ FinL (kw X) m1 H1 L Q (lcLoop ik t ts el (wipeG g own) k (i + 1) acc S), fun H' h => ⟨k, Nat.lt_succ_self k, h⟩, fun x H' hy => ?_⟩
        obtain ⟨xe, xs, xr⟩ := yl x H' hy
        have hrw : RVo (kw X) m H' (wipeG g own) (L2.wipe σ own) := ((hr.ext hs x1).ext s1 (xx.trans xe)).wipe own
        refine ⟨m, S, wipeG g own, d, xs, hrw, xr, ?_⟩
        rw [e2]
        intro m2 H2 x2 s2 σ2 r2 w2
        refine ⟨?_, m2, S2, g2, s2, r2, ?_⟩
        · rw [w2 own his]
          have ww : ∀ (a b : List Nat) (τ : L2.St), (∀ i ∈ b, i ∈ a) → L2.wipe (L2.wipe τ b) a = L2.wipe τ a := by
            intro a b τ
            induction b with
            | nil => intro _; rfl
            | cons z b ih =>
              intro hb
              show L2.wipe ((L2.wipe τ b).set z none) a = _
              rw [wipe_set (hb z List.mem_cons_self)]
              exact ih fun i hi => hb i (List.mem_cons_of_mem _ hi)
          exact ww own own σ fun _ h => h
        rw [e3]
        intro m3 H3 x3 s3
        have x23 : Ext m H m3 H3 := xe.trans (x2.trans x3)
        have nL3 : L ∉ m3 := fun z => by
          have := x23.new L z nL
          rw [eL] at this; cases this
        have eL3 : H3 L = some (.lst vs) := x23.kee L _ nL eL
        cases c with
        | false =>
          rw [if_neg Bool.false_ne_true] at hp
          exact iteF ⟨m3, S3, acc, vs, xx.trans x23, nL3, s3, eL3, ra.ext hs' x23, hp⟩
        | true =>
          rw [if_pos rfl] at hp
          obtain ⟨y, S4, e4, hp⟩ := hp.inv
          refine iteT ⟨m3, S3, g2, s3, r2.ext s2 x3, ?_⟩
          rw [e4]
          intro m4 H4 x4 s4 v4 r4
          have x24 := x23.trans x4
          have nL4 : L ∉ m4 := fun z => by
            have := x24.new L z nL
            rw [eL] at this; cases this
          have eL4 : H4 L = some (.lst vs) := x24.kee L _ nL eL
          split at hp
          · rename_i hz
            have ra4 := ra.ext hs' x24
            refine ⟨vs, eL4, by rw [← ra.length]; exact hz, m4, S4, acc ++ [y], vs ++ [v4], ?_, nL4, out_sim s4 eL4 nL4, upd_same, (out_rvs eL4 ra4).append (.cons (out_rv eL4 r4) .nil), hp⟩
            have z := xx.trans x24
            exact ⟨z.pre, z.new, fun a o n e => by rw [upd_ne (ne_of_none e hL)]; exact z.kee a o n e⟩
          · exact hp.elim
theorem mts_nil {Y : Cx} {W : WX} : PTs Y [] (tDT (kw Y) W tsNil) := ⟨fun pins s σ H Q I ⟨m, S, g, hs, hr, hp⟩ => pts_nil.run pins s σ H Q I (hp.now hs)⟩
end
end Mz

end

section
set_option Elab.async false
set_option linter.all false
set_option maxRecDepth 100000
namespace Mz
open PySem PySem.Spec L2

/-! ### fields -/
def fPut (f : Str) (v : D) : List (Str × D) → List (Str × D)
  | [] => [(f, v)]
  | (g, x) :: r => if g = f then (g, v) :: r else (g, x) :: fPut f v r
section
variable {K : Fw} {m : List Addr} {H : Hp}
theorem FR.get (f : Str) : ∀ {fs : List (Str × D)} {vs : List (Str × V)}, FR K m H fs vs → (fs.lookup f = none ∧ vs.lookup f = none) ∨ ∃ d v, fs.lookup f = some d ∧ vs.lookup f = some v ∧ RV K m H d v
  | _, _, .nil => .inl ⟨rfl, rfl⟩
  | _, _, .cons (a := a) (b := b) h t => by
    obtain ⟨x, d⟩ := a
    obtain ⟨y, v⟩ := b
    obtain ⟨e, r⟩ := h
    cases (show x = y from e)
    rw [List.lookup_cons, List.lookup_cons]
    cases q : f == x with
    | true => exact .inr ⟨d, v, rfl, rfl, r⟩
    | false => exact FR.get f t
theorem FR.put {f : Str} {d : D} {v : V} (r : RV K m H d v) : ∀ {fs : List (Str × D)} {vs : List (Str × V)}, FR K m H fs vs → FR K m H (fPut f d fs) (L2.putF f v vs)
  | _, _, .nil => .cons ⟨rfl, r⟩ .nil
  | _, _, .cons (a := a) (b := b) h t => by
    obtain ⟨x, d'⟩ := a
    obtain ⟨y, v'⟩ := b
    obtain ⟨e, r'⟩ := h
    cases (show x = y from e)
    unfold fPut L2.putF
    split
    · exact .cons ⟨rfl, r⟩ t
    · exact .cons ⟨rfl, r'⟩ (FR.put r t)
theorem FR.length {fs : List (Str × D)} {vs : List (Str × V)} (r : FR K m H fs vs) : fs.length = vs.length := Paired.length r
theorem clsOf_inj {C : Str} {c c' : Addr} (h : clsOf K C c) (h' : clsOf K C c') : c = c' := by
  unfold clsOf at h h'
  rw [h] at h'
  cases h'
  rfl
end
def insAt (S : Store) (d : D) : Option (Nat × Str × List (Str × D)) := match d with
  | .loc n => match S[n]? with
    | some (.ins C fs) => some (n, C, fs)
    | _ => none
  | _ => none
theorem insAt_eq {S : Store} {d : D} {n : Nat} {C : Str} {fs : List (Str × D)} (e : insAt S d = some (n, C, fs)) : d = .loc n ∧ S[n]? = some (.ins C fs) := by
  cases d with
  | loc k =>
    have e : (match S[k]? with | some (.ins C fs) => some (k, C, fs) | _ => none) = some (n, C, fs) := e
    cases c : S[k]? with
    | none => rw [c] at e; cases e
    | some c' =>
      rw [c] at e
      cases c' with
      | lst ys => cases e
      | dct _ _ => cases e
      | ins _ _ => cases e; exact ⟨rfl, c⟩
  | non => cases e
  | bl b => cases e
  | int b => cases e
  | str b => cases e
  | tup h => cases e
  | cl h => cases e
  | oth => cases e
theorem insAt_at {K : Fw} {m : List Addr} {S : Store} {H : Hp} {d : D} {v : V} {n : Nat} {C : Str} {fs : List (Str × D)} (hs : Sim K m S H) (r : RV K m H d v) (e : insAt S d = some (n, C, fs)) :
    ∃ a c dx vs, v = .ref a ∧ m[n]? = some a ∧ clsOf K C c ∧ H a = some (.ins c dx vs) ∧ FR K m H fs vs := by
  obtain ⟨rfl, c⟩ := insAt_eq e
  cases r with
  | @loc _ a h => obtain ⟨c, dx, vs, h0, h1, r⟩ := hs.ins h c; exact ⟨a, c, dx, vs, rfl, h, h0, h1, r⟩
/-- the fields that are known: of the class, no name of the class -/
def FlOk (X : Cx) (fl : List (Str × Str)) : Prop := ∀ C f, (C, f) ∈ fl → ∃ c, clsOf (kw X) C c ∧ Cls X.K c ∧ NoAttr X.K c f
def eFld (fl : List (Str × Str)) (o : SE) (f : Str) : SE := fun g S => (o g S).bind fun d S => match insAt S d with
  | some (_, C, fs) => if (C, f) ∈ fl then (match fs.lookup f with | some x => .ok x S | none => .no) else .no
  | none => .no
def sFasg (fl : List (Str × Str)) (o : SE) (f : Str) (e : SE) : SS := fun g S => bindR g (e g S) fun v S => bindR g (o g S) fun d S => match insAt S d with
  | some (n, C, fs) => if (C, f) ∈ fl ∧ fs.length < 1000 then .nx g (S.set n (.ins C (fPut f v fs))) else .no
  | none => .no
def augF (p : Bop) (x y : D) : Option D := match p, x, y with
  | .add, .int i, .int j => some (.int (i + j))
  | .add, .str a, .str b => if a.length + b.length ≤ sizeLine then some (.str (a ++ b)) else none
  | .sub, .int i, .int j => some (.int (i - j))
  | _, _, _ => none
def sFaug (fl : List (Str × Str)) (o : SE) (f : Str) (p : Bop) (e : SE) : SS := fun g S => bindR g (o g S) fun d S => match insAt S d with
  | some (_, C, fs) => if (C, f) ∈ fl then (match fs.lookup f with
    | some x => bindR g (e g S) fun y S => match augF p x y, insAt S d with
      | some z, some (n, C', fs') => if C' = C ∧ fs'.length < 1000 then .nx g (S.set n (.ins C' (fPut f z fs'))) else .no
      | _, _ => .no
    | none => .no) else .no
  | none => .no
section
variable {X : Cx} {W : WX} {pos pos' : Pos} {fl : List (Str × Str)} {f : Str} {o e : Expr} {fo fe : SE}
theorem me_fld (hf : FlOk X fl) (ho : PE X o (tD (kw X) W fo)) (hb : attributeBase o f X.env (eval o X.env) = eval o X.env) : PE X (.Attribute o f pos) (tD (kw X) W (eFld fl fo f)) := by
  refine peI (pe_fld ho hb) fun σ H Q ⟨m, S, g, hs, hr, hp⟩ => ⟨m, S, g, hs, hr, hp.bind fun d S1 _ m1 H1 x1 s1 hp v r1 => ?_⟩
  split at hp
  · rename_i h
    obtain ⟨a, c, dx, vs, rfl, hm, hc, ha, fr⟩ := insAt_at s1 r1 h
    split at hp
    · rename_i hin
      obtain ⟨c', hc', k1, k2⟩ := hf _ _ hin
      cases clsOf_inj hc hc'
      rcases fr.get f with ⟨e1, e2⟩ | ⟨x, v, e1, e2, rv⟩
      · rw [e1] at hp; exact hp.elim
      · rw [e1] at hp; exact ⟨a, c, dx, vs, v, rfl, ha, k1, k2, e2, PostE.here hp s1 rv⟩
    · exact hp.elim
  · exact hp.elim
theorem ms_fasg (hf : FlOk X fl) (ho : PE X o (tD (kw X) W fo)) (he : PE X e (tD (kw X) W fe)) (hs : swapsWith e (some (.Attribute o f pos')) pos.line X.env = pure false) : PS X (.Assign [.Attribute o f pos'] e pos) (tDS (kw X) W (sFasg fl fo f fe)) := by
  refine psI (ps_fld ho he hs) fun D σ H ⟨m, S, g, hs, hr, hp⟩ => ⟨m, S, g, hs, hr, hp.bind hs hr fun d S1 _ m1 H1 x1 s1 hp v r1 => ?_⟩
  refine ⟨m1, S1, g, s1, hr.ext hs x1, hp.bind s1 (hr.ext hs x1) fun y S2 _ m2 H2 x2 s2 hp w r2 => ?_⟩
  have hr2 := hr.ext hs (x1.trans x2)
  split at hp
  · rename_i h
    obtain ⟨a, c, dx, vs, rfl, hm, hc, ha, fr⟩ := insAt_at s2 r2 h
    split at hp
    · rename_i hin
      obtain ⟨c', hc', k1, k2⟩ := hf _ _ hin.1
      cases clsOf_inj hc hc'
      refine ⟨a, c, dx, vs, rfl, ha, k1, k2, by rw [← fr.length]; exact hin.2, hp σ m2 _ (ext_write hm) (sim_put s2 hm ?_) (hr2.ext s2 (ext_write hm))⟩
      exact ⟨c, dx, _, hc, upd_same, (fr.put (r1.ext s1 x2)).ext s2 (ext_write hm)⟩
    · exact hp.elim
  · exact hp.elim
theorem ms_faug {p : Bop} (hpp : p = .add ∨ p = .sub) (hf : FlOk X fl) (ho : PE X o (tD (kw X) W fo)) (he : PE X e (tD (kw X) W fe)) : PS X (.AugAssign (.Attribute o f pos') p.op e pos) (tDS (kw X) W (sFaug fl fo f p fe)) := by
  have key : ∀ (rd : V → V → Hp → VK → Prop), InOp X p.op rd → (∀ (m : List Addr) (H : Hp) (x y z : D) (v w : V) (Q : VK), augF p x y = some z → RV (kw X) m H x v → RV (kw X) m H y w → (∀ u, RV (kw X) m H z u → Q u H) → rd v w H Q) →
      PS X (.AugAssign (.Attribute o f pos') p.op e pos) (tDS (kw X) W (sFaug fl fo f p fe)) := by
    intro rd hin hrd
    refine psI (ps_fldaug ho he hin) fun D σ H ⟨m, S, g, hs, hr, hp⟩ => ⟨m, S, g, hs, hr, hp.bind hs hr fun d S1 _ m1 H1 x1 s1 hp v r1 => ?_⟩
    have hr1 := hr.ext hs x1
    split at hp
    · rename_i h
      obtain ⟨a, c, dx, vs, rfl, hm, hc, ha, fr⟩ := insAt_at s1 r1 h
      split at hp
      · rename_i hin
        obtain ⟨c', hc', k1, k2⟩ := hf _ _ hin
        cases clsOf_inj hc hc'
        rcases fr.get f with ⟨e1, e2⟩ | ⟨x, v, e1, e2, rv⟩
        · rw [e1] at hp; exact hp.elim
        · rw [e1] at hp
          dsimp only at hp
          refine ⟨a, c, dx, vs, v, rfl, ha, k1, k2, e2, m1, S1, g, s1, hr1, hp.bind s1 hr1 fun y S2 _ m2 H2 x2 s2 hp w r2 => ?_⟩
          have hr2 := hr1.ext s1 x2
          split at hp
          · rename_i hz h2
            obtain ⟨a', c2, dx', vs', ea, hm2, hc2, ha2, fr2⟩ := insAt_at s2 (r1.ext s1 x2) h2
            cases ea
            split at hp
            · rename_i hcc
              obtain ⟨hC, hl⟩ := hcc
              rw [hC] at hc2 hp
              cases clsOf_inj hc hc2
              refine hrd m2 H2 x y _ v w _ hz (rv.ext s1 x2) r2 fun u ru => ⟨dx', vs', ha2, by rw [← fr2.length]; exact hl, hp σ m2 _ (ext_write hm2) (sim_put s2 hm2 ?_) (hr2.ext s2 (ext_write hm2))⟩
              exact ⟨c, dx', _, hc, upd_same, (fr2.put ru).ext s2 (ext_write hm2)⟩
            · exact hp.elim
          · exact hp.elim
      · exact hp.elim
    · exact hp.elim
  rcases hpp with rfl | rfl
  · refine key (fun x y H Q => rAdd x y H Q ∨ rAddS x y H Q) (fun pins s σ H x y u v Q I rx ry h => h.elim (in_add pins s σ H x y u v Q I rx ry) (in_addS pins s σ H x y u v Q I rx ry)) fun m H x y z v w Q hz rv rw' q => ?_
    unfold augF at hz
    split at hz
    · cases hz; cases rv; cases rw'; exact .inl ⟨_, _, rfl, rfl, q _ (.int _)⟩
    · cases rv; cases rw'
      split at hz
      · cases hz; exact .inr ⟨_, _, rfl, rfl, by assumption, q _ (.str _)⟩
      · cases hz
    · rename_i e1; cases e1
    · cases hz
  · refine key rSub in_sub fun m H x y z v w Q hz rv rw' q => ?_
    unfold augF at hz
    split at hz
    · rename_i e1; cases e1
    · rename_i e1; cases e1
    · cases hz; cases rv; cases rw'; exact ⟨_, _, rfl, rfl, q _ (.int _)⟩
    · cases hz
end

/-! ### methods and constructors -/
def eMeth (C m : Str) (F : List D → Store → O D) (df : List D) (o : SE) (as : SA) : SE := fun g S => (o g S).bind fun d S => match insAt S d with
  | some (_, C', fs) => if C' = C ∧ fs.lookup m = none then (as g S).bind fun ds S => F (d :: (ds ++ df)) S else .no
  | none => .no
def eMake (C : Str) (F : List D → Store → O D) (df : List D) (as : SA) : SE := fun g S => (as g S).bind fun ds S => (F (.loc S.length :: (ds ++ df)) (S ++ [.ins C []])).bind fun d S' => match d with
  | .non => .ok (.loc S.length) S'
  | _ => .no
section
variable {X : Cx} {W : WX} {pos apos : Pos} {C m : Str} {c : Addr} {F : List D → Store → O D} {df : List D} {dvs : List V} {o : Expr} {es : List Expr} {fo : SE} {fr : SA} {n : Nat}
theorem me_meth {e : Expr} (hc : clsOf (kw X) C c) (hd : ∀ m H, RVs (kw X) m H df dvs) (h : PE X e (Fg.tMethG c m (spD (kw X) (es.length + df.length + 1) F) dvs (WE W) (tD (kw X) W fo) (tDA (kw X) W fr))) (hl : ∀ g S ds S', fr g S = .ok ds S' → ds.length = es.length) :
    PE X e (tD (kw X) W (eMeth C m F df fo fr)) := by
  refine peI h fun σ H Q ⟨m, S, g, hs, hr, hp⟩ => ⟨m, S, g, hs, hr, hp.bind fun d S1 _ m1 H1 x1 s1 hp v r1 => ?_⟩
  split at hp
  · rename_i hi
    obtain ⟨a, c', dx, vs, rfl, hm, hc', ha, fr'⟩ := insAt_at s1 r1 hi
    split at hp
    · rename_i hcc
      obtain ⟨hC, hl0⟩ := hcc
      rw [hC] at hc'
      cases clsOf_inj hc hc'
      refine ⟨a, dx, vs, rfl, ha, ?_, m1, S1, g, s1, hr.ext hs x1, hp.bind fun ds S2 e2 m2 H2 x2 s2 hp ws r2 => ?_⟩
      · rcases fr'.get _ with ⟨_, q⟩ | ⟨_, _, q, _, _⟩
        · exact q
        · rw [hl0] at q; cases q
      · have rr : RVs (kw X) m2 H2 (d :: (ds ++ df)) (.ref a :: (ws ++ dvs)) := .cons (r1.ext s1 x2) (r2.append (hd _ _))
        refine ⟨?_, m2, S2, _, s2, rr, hp⟩
        rw [← rr.length, List.length_cons, List.length_append, hl _ _ _ _ e2]
    · exact hp.elim
  · exact hp.elim
theorem me_make {e : Expr} (hc : clsOf (kw X) C c) (hd : ∀ m H, RVs (kw X) m H df dvs) (h : PE X e (Fg.tMakeG c (spD (kw X) (es.length + df.length + 1) F) dvs (WE W) (tDA (kw X) W fr))) (hl : ∀ g S ds S', fr g S = .ok ds S' → ds.length = es.length) :
    PE X e (tD (kw X) W (eMake C F df fr)) := by
  refine peI h fun σ H Q ⟨m, S, g, hs, hr, hp⟩ => ⟨m, S, g, hs, hr, hp.bind fun ds S1 e1 m1 H1 x1 s1 hp ws r1 => ?_⟩
  intro x dx hx hdx ne
  have hx' : upd H1 dx (.own x) x = none := by rw [upd_ne (Ne.symm ne)]; exact hx
  have ex1 : Ext m1 H1 m1 (upd H1 dx (.own x)) := ext_new hdx
  have s2 := sim_new (o := .own x) s1 hdx
  have ex2 : Ext m1 (upd H1 dx (.own x)) (m1 ++ [x]) (upd (upd H1 dx (.own x)) x (.ins c dx [])) := ext_alloc hx'
  have s3 : Sim (kw X) (m1 ++ [x]) (S1 ++ [.ins C []]) (upd (upd H1 dx (.own x)) x (.ins c dx [])) := sim_add s2 hx' ⟨c, dx, [], hc, upd_same, .nil⟩
  have ex := ex1.trans ex2
  have ax : (m1 ++ [x])[S1.length]? = some x := by
    rw [← s1.len, List.getElem?_append_right (Nat.le_refl _)]
    simp
  have rr : RVs (kw X) (m1 ++ [x]) (upd (upd H1 dx (.own x)) x (.ins c dx [])) (.loc S1.length :: (ds ++ df)) (.ref x :: (ws ++ dvs)) := .cons (.loc ax) ((r1.ext s1 ex).append (hd _ _))
  refine ⟨?_, _, _, _, s3, rr, ?_⟩
  · rw [← rr.length, List.length_cons, List.length_append, hl _ _ _ _ e1]
  · refine (Post.weak ex hp).bind fun d S2 _ m2 H2 x2 s2 hp v rv => ?_
    cases rv with
    | non => exact ⟨rfl, PostE.here hp s2 (.loc (x2.pre _ _ ax))⟩
    | _ => exact hp.elim
end
end Mz

end

section
set_option Elab.async false
set_option linter.all false
set_option maxRecDepth 100000
namespace Mz
open PySem PySem.Spec L2

/-! ### exceptions: raise C(), try .. except C as n: v = n -/
/-- an own class of exceptions without own __init__ -/
structure XcC (K : PySem.W.Frag) (C : Addr) : Prop where
  q : PySem.W.excIn K C [.type "ValueError", .type "Exception", .type "BaseException", .type "object"] "ValueError.__new__" = true
  kC : PySem.W.keepIn K (.ref C) = true
  sub : PySem.W.subIn K (.ref C) (.type "BaseException") = some true
  ty : PySem.W.typeIn K (.ref C) = some (.type "type")
theorem mk_own0 {X : Cx} {C : Addr} {x : Str} {p pos : Pos} (F : XcC X.K C) (gC : X.mg x = some (.ref C)) (hg : Gl X x) (hdb : (x == ("__debug__" : Str)) = false) : PMk X (.Call (.Name x p) [] [] pos) (fun _ H Q => Q (.ref C) none H) := by
  intro pins s σ H Q I h
  refine wpAny_Call_Name_kw (ld_glob I hg gC ?_ hdb)
  refine PySem.W.callWith_K0 I.kIn F.kC ?_
  obtain ⟨bm, N, nm, qn, bs, hdct, sn, sub, ab, col, dd, k0, k1, k2, k3, k5, mN, hC, hN, hni, T⟩ := exc_obj I.kIn F.q
  refine wpAny_call_exc_subT PySem.F.excBase_ValueError T hC hN hni (fun h' e hm => ?_) (Nat.zero_le _)
  exact mk_of I hm (raises_own F.sub F.ty) h (I.hok.gone hm.new)
/-- raise C() -/
def sRai (C : Str) : SS := fun g S => .ex ⟨C, []⟩ g S
theorem ms_rai {X : Cx} {W : WX} {C : Addr} {x : Str} {p q pos : Pos} (hc : X.calm = true) (tk : Takes X W) (F : XcC X.K C) (cl : clsOf (kw X) x C) (gC : X.mg x = some (.ref C)) (hg : Gl X x) (hdb : (x == ("__debug__" : Str)) = false) :
    PS X (.Raise (some (.Call (.Name x p) [] [] q)) none pos) (tDS (kw X) W (sRai x)) :=
  psI (ps_raise hc tk (mk_own0 F gC hg hdb)) fun D σ H ⟨m, S, g, hs, hr, hp⟩ => hp σ m H (.ref C) none Ext.refl hs hr ⟨C, cl, rfl, .inl ⟨rfl, rfl⟩⟩
/-- which class a clause takes -/
def xmAt (xm : List (Str × Str × Bool)) (A C : Str) : Option Bool := (xm.find? fun p => decide (p.1 = A ∧ p.2.1 = C)).map (·.2.2)
theorem xmAt_mem {xm : List (Str × Str × Bool)} {A C : Str} {b : Bool} (h : xmAt xm A C = some b) : (A, C, b) ∈ xm := by
  unfold xmAt at h
  cases q : xm.find? fun p => decide (p.1 = A ∧ p.2.1 = C) with
  | none => rw [q] at h; cases h
  | some p =>
    rw [q] at h
    obtain ⟨a, c, b'⟩ := p
    have z := List.find?_some (p := fun p : Str × Str × Bool => decide (p.1 = A ∧ p.2.1 = C)) q
    have z := of_decide_eq_true z
    have me := List.mem_of_find?_eq_some q
    obtain ⟨rfl, rfl⟩ := (show a = A ∧ c = C from z)
    cases h
    exact me
def sTry (xm : List (Str × Str × Bool)) (b : SS) (C : Str) (i j : Nat) : SS := fun g S => match b g S with
  | .ex x g' S' => (match xmAt xm x.cls C with
    | some true => (match sCons (sAsg (eVar i) (gVar j)) sNil (g'.set i (some .oth)) S' with
      | .nx g2 S2 => .nx (g2.set i none) S2
      | _ => .no)
    | some false => .ex x g' S'
    | none => .no)
  | r => r
def XmOk (X : Cx) (xm : List (Str × Str × Bool)) : Prop := ∀ A C b, (A, C, b) ∈ xm → ∃ a c, clsOf (kw X) A a ∧ X.mg C = some (.ref c) ∧ PySem.W.exmOne X.K (.ref a) (.ref c) = some b
theorem ms_try {X : Cx} {W : WX} {b : SS} {C n v : Str} {i j : Nat} {c : Addr} {body : List Stmt} {xm : List (Str × Str × Bool)} {np p1 p2 p3 pos pos' : Pos} (hs : X.stack = X.env :: X.outer) (hf : X.env.frame = some X.env.locals) (hN : X.N.Nodup) (hi : X.N[i]? = some n) (hj : X.N[j]? = some v)
    (hln : X.env.scope.names.lookup n = some .local) (hlv : X.env.scope.names.lookup v = some .local) (hgl : Gl X C) (hdb : (C == ("__debug__" : Str)) = false) (hd2 : (n == ("__debug__" : Str)) = false) (hd3 : (n == ("__classdict__" : Str)) = false) (xo : XmOk X xm) (hm : X.mg C = some (.ref c)) (tk : Takes X W)
    (hb : ∀ (W' : WX) (pn : List (Addr × Obj)) (xe : Value → Shared → Prop), Takes (X.tr pn xe) W' → PassesOwn (model X.prog X.w) X.A X.env xe → PSs (X.tr pn xe) body (tDS (kw X) W' b)) :
    PS X (.Try body [.ExceptHandler (some (.Name C np)) (some n) [.Assign [.Name v p1] (.Name n p2) p3] pos'] [] [] pos) (tDS (kw X) W (sTry xm b C i j)) := by
  refine psI (ps_try_as (c := .ref c) (i := i) (ts := fun _ _ _ => tDS (kw X) (fun _ _ _ _ => False) (sCons (sAsg (eVar i) (gVar j)) sNil)) (tb := fun W' => tDS (kw X) W' b) hs hf hN hi hln ⟨hgl, hdb, .inl hm⟩ tk hb fun a oe cls d pn _ _ => ?_) ?_
  · have pe : PE (X.suite a ((a, oe) :: pn)) (.Name n p2) (tD (kw X) (fun _ _ _ _ => False) (eVar i)) := me_var (X := X.suite a ((a, oe) :: pn)) hi (.inl hln) hd2 hd3
    exact mb_cons (X := X.suite a ((a, oe) :: pn)) (ms_set (X := X.suite a ((a, oe) :: pn)) (ps_set hN hj (.inl hlv) pe rfl (.inr hlv))) mb_nil
  · intro D σ H ⟨m, S, g, hsm, hr, hp⟩
    refine ⟨m, S, g, hsm, hr, ?_⟩
    unfold sTry at hp
    cases q : b g S with
    | nx g' S' => rw [q] at hp; exact hp
    | rt d S' => rw [q] at hp; exact hp
    | bk g' S' => rw [q] at hp; exact hp
    | ct g' S' => rw [q] at hp; exact hp
    | no => rw [q] at hp; exact hp.elim
    | ex x g' S' =>
      rw [q] at hp
      intro σ1 m1 H1 c1 d1 e1 s1 r1 x1
      dsimp only at hp
      split at hp
      · rename_i hx
        obtain ⟨a, c', k1, k2, k3⟩ := xo _ _ _ (xmAt_mem hx)
        obtain ⟨C1, k4, rfl, _⟩ := id x1
        obtain rfl : C1 = a := by unfold clsOf at k1 k4; rw [k4] at k1; cases k1; rfl
        rw [hm] at k2; cases k2
        refine ⟨true, k3, fun _ ad had => ?_, (fun z => (by cases z))⟩
        refine ⟨m1, S', g'.set i (some .oth), s1, r1.set .oth i, ?_⟩
        split at hp
        · rename_i g2 S2 q2
          rw [q2]
          intro σ2 m2 H2 e2 s2 r2
          exact hp _ m2 H2 (e1.trans e2) s2 (r2.unset i)
        · exact hp.elim
      · rename_i hx
        obtain ⟨a, c', k1, k2, k3⟩ := xo _ _ _ (xmAt_mem hx)
        obtain ⟨C1, k4, rfl, _⟩ := id x1
        obtain rfl : C1 = a := by unfold clsOf at k1 k4; rw [k4] at k1; cases k1; rfl
        rw [hm] at k2; cases k2
        exact ⟨false, k3, (fun z => (by cases z)), fun _ => hp σ1 m1 H1 _ d1 e1 s1 r1 x1⟩
      · exact hp.elim
/-- try around what raises nothing -/
def sThru (b : SS) : SS := fun g S => match b g S with
  | .ex _ _ _ => .no
  | r => r
theorem ms_thru {X : Cx} {W : WX} {b : SS} {body : List Stmt} {h₀ : ExceptHandler} {hs : List ExceptHandler} {pos : Pos} (hb : PSs X.nox body (tDS (kw X) (fun _ _ _ _ => False) b)) : PS X (.Try body (h₀ :: hs) [] [] pos) (tDS (kw X) W (sThru b)) := by
  refine psI (ps_try_thru0 hb) fun D σ H ⟨m, S, g, hsm, hr, hp⟩ => ⟨m, S, g, hsm, hr, ?_⟩
  unfold sThru at hp
  cases q : b g S with
  | nx g' S' => rw [q] at hp; exact hp
  | rt d S' => rw [q] at hp; exact hp
  | bk g' S' => rw [q] at hp; exact hp
  | ct g' S' => rw [q] at hp; exact hp
  | no => rw [q] at hp; exact hp.elim
  | ex x g' S' => rw [q] at hp; exact hp.elim
end Mz

end

section
set_option Elab.async false
set_option linter.all false
set_option maxRecDepth 100000
set_option maxHeartbeats 4000000
/-! calls with keywords -/
namespace Fg
open PySem PySem.Spec PyProof.Rows L2
section
variable {X : Cx} {CX : CXT} {k n : Nat} {f C : Addr} {fd : FuncData} {ps ks : List Str} {sp : Sp} {V' : L2.St → XK} {x : Str} {p pos : Pos} {e : Expr} {es : List Expr} {kws : List Keyword} {t tk : TA} {g : List Value → List Value → List Value} {gV : List V → List V → List V}
theorem run_gN {pins : List (Addr × Obj)} {σ : L2.St} {H : Hp} {s : Shared} {Q : VK} {us ws : List Value} {vs zs : List V} (F : FnG X.prog X.w X.K X.mg X.base CX k f fd ps sp) (hr : Room k X.A) (hgd : X.A.guards = some []) (hb : KBn X.K fd ps n ks g gV) (hx : PassesAt CX X σ (V' σ))
    (I : Inv X pins σ H s) (r : Vals vs us) (rz : Vals zs ws) (l1 : vs.length = n) (l2 : zs.length = ks.length) (h : sp (gV vs zs) H Q (V' σ)) : wpAny (model X.prog X.w) X.A (call (.ref f) us (ks.zip ws)) (EP X pins σ Q) X.xe s := by
  have r2 := hb.rel r rz
  refine wpAny_call (codeAny_mono (F.run X.A X.stack s H ⟨us, ks.zip ws⟩ (g us ws) (gV vs zs) Q (V' σ) hr hgd I.env0 (hb.to s us ws I.kIn (r.length.symm.trans l1) (rz.length.symm.trans l2)) r2 h) fun r s' hq => ?_)
  cases r with
  | error e => exact hx pins H s e s' I hq
  | ok fl => cases fl with
    | ret u => exact I.after hq
    | _ => exact hq.elim
def tKwG (n m : Nat) (sp : Sp) (gV : List V → List V → List V) (V' : L2.St → XK) (t tk : TA) : TE := fun σ H Q => t σ H fun vs H1 => tk σ H1 fun zs H2 => vs.length = n ∧ zs.length = m ∧ sp (gV vs zs) H2 Q (V' σ)
theorem callGN (F : FnG X.prog X.w X.K X.mg X.base CX k f fd ps sp) (hr : Room k X.A) (hgd : X.A.guards = some []) (hg : Gl X x) (hm : X.mg x = some (.ref f)) (hk : PySem.W.keepIn X.K (.ref f) = true) (hb : KBn X.K fd ps n ks g gV) (hx : ∀ σ, PassesAt CX X σ (V' σ))
    (ha : PA X (e :: es) t) (hkw : PK X kws tk) (hall : (backToKw pos (keywordEach kws X.env)).all (·.1.isSome) = true) (hks : (backToKw pos (keywordEach kws X.env)).filterMap (·.1) = ks)
    (hdb : (x == ("__debug__" : Str)) = false) (he : starEach (e :: es) X.env = (false, eval e X.env) :: starEach es X.env)
    (hpl : ((backTo pos (starEach (e :: es) X.env)).any (·.1) || (backToKw pos (keywordEach kws X.env)).any (·.1.isNone)) = false) :
    PE X (.Call (.Name x p) (e :: es) kws pos) (tKwG n ks.length sp gV V' t tk) := by
  refine ⟨fun pins s σ H Q I h => ?_⟩
  refine wpAny_Call_Name_kw (ld_glob I hg hm ?_ hdb)
  refine PySem.W.callWith_KW (h₀ := X.base) I.ok.mod.kin hk hall (thn (ha.run pos pins s σ H _ I h) fun us s1 ⟨vs, H1, I1, r, q⟩ => ?_) hpl he
  refine thn (hkw.run pos pins s1 σ H1 _ I1 q) fun ws s2 ⟨zs, H2, I2, rz, l1, l2, q2⟩ => ⟨I2.kIn, ?_⟩
  rw [hks]
  exact run_gN F hr hgd hb (hx σ) I2 r rz l1 l2 q2
theorem callGN0 (F : FnG X.prog X.w X.K X.mg X.base CX k f fd ps sp) (hr : Room k X.A) (hgd : X.A.guards = some []) (hg : Gl X x) (hm : X.mg x = some (.ref f)) (hk : PySem.W.keepIn X.K (.ref f) = true) (hb : KBn X.K fd ps 0 ks g gV) (hx : ∀ σ, PassesAt CX X σ (V' σ))
    (hkw : PK X kws tk) (hall : (backToKw pos (keywordEach kws X.env)).all (·.1.isSome) = true) (hks : (backToKw pos (keywordEach kws X.env)).filterMap (·.1) = ks)
    (hdb : (x == ("__debug__" : Str)) = false) (hpl : ((backTo pos (starEach [] X.env)).any (·.1) || (backToKw pos (keywordEach kws X.env)).any (·.1.isNone)) = false) :
    PE X (.Call (.Name x p) [] kws pos) (tKwG 0 ks.length sp gV V' tNil tk) := by
  refine ⟨fun pins s σ H Q I h => ?_⟩
  refine wpAny_Call_Name_kw (ld_glob I hg hm ?_ hdb)
  refine PySem.W.callWith_KW0 (h₀ := X.base) I.ok.mod.kin hk hall ?_ hpl
  refine thn (hkw.run pos pins s σ H _ I h) fun ws s2 ⟨zs, H2, I2, rz, l1, l2, q2⟩ => ⟨I2.kIn, ?_⟩
  rw [hks]
  exact run_gN (us := []) (vs := []) F hr hgd hb (hx σ) I2 .nil rz rfl l2 q2
def tMkwG (C : Addr) (n m : Nat) (sp : Sp) (gV : List V → List V → List V) (V' : L2.St → XK) (t tk : TA) : TE := fun σ H Q => t σ H fun vs H1 => tk σ H1 fun zs H2 => vs.length = n ∧ zs.length = m ∧ ∀ x dx, H2 x = none → H2 dx = none → dx ≠ x →
  sp (gV (.ref x :: vs) zs) (upd (upd H2 dx (.own x)) x (.ins C dx [])) (fun v H3 => v = .non ∧ Q (.ref x) H3) (V' σ)
theorem run_mkGN {pins : List (Addr × Obj)} {σ : L2.St} {H : Hp} {s : Shared} {Q : VK} {us ws : List Value} {vs zs : List V} (M : Mk X.K C f) (F : FnG X.prog X.w X.K X.mg X.base CX k f fd ps sp) (hr : Room (k + 1) X.A) (hgd : X.A.guards = some []) (hb : KBn X.K fd ps (n + 1) ks g gV)
    (hx : PassesAt CX X σ (V' σ)) (I : Inv X pins σ H s) (r : Vals vs us) (rz : Vals zs ws) (l1 : vs.length = n) (l2 : zs.length = ks.length)
    (h : ∀ x dx, H x = none → H dx = none → dx ≠ x → sp (gV (.ref x :: vs) zs) (upd (upd H dx (.own x)) x (.ins C dx [])) (fun v H2 => v = .non ∧ Q (.ref x) H2) (V' σ)) :
    wpAny (model X.prog X.w) X.A (call (.ref C) us (ks.zip ws)) (EP X pins σ Q) X.xe s := by
  have hq := h (s.heap.objs.size + 1) s.heap.objs.size (I.hok.fresh (Nat.le_succ _)) (I.hok.fresh (Nat.le_refl _)) (Nat.ne_of_lt (Nat.lt_succ_self _))
  have J := Inv.made (C := C) I
  have r1 : Vals (V.ref (s.heap.objs.size + 1) :: vs) (Value.ref (s.heap.objs.size + 1) :: us) := .cons rfl r
  have r2 := hb.rel r1 rz
  have n1 : (Value.ref (s.heap.objs.size + 1) :: us).length = n + 1 := by rw [List.length_cons, ← r.length, l1]
  refine wpAny_call (make_map (f := f) I.kIn M.makes M.init (beq_iff_eq.mp M.fn) (codeAny_mono (F.run _ X.stack _ _ ⟨Value.ref (s.heap.objs.size + 1) :: us, ks.zip ws⟩ (g (Value.ref (s.heap.objs.size + 1) :: us) ws) _ _ (V' σ) (hr.make C us (ks.zip ws)) (guards_make hgd)
    (J.env0.make C us (ks.zip ws)) (hb.to _ (Value.ref (s.heap.objs.size + 1) :: us) ws J.kIn n1 (rz.length.symm.trans l2)) r2 hq) fun r s' hq' => ?_))
  cases r with
  | error e => exact hx pins _ _ e s' J hq'
  | ok fl => cases fl with
    | ret u =>
      obtain ⟨v, H', I3, rv, ev, q3⟩ := J.after hq'
      subst ev
      exact ⟨rv, ⟨V.ref (s.heap.objs.size + 1), H', I3, rfl, q3⟩⟩
    | _ => exact hq'.elim
theorem makeGN (M : Mk X.K C f) (F : FnG X.prog X.w X.K X.mg X.base CX k f fd ps sp) (hr : Room (k + 1) X.A) (hgd : X.A.guards = some []) (hg : Gl X x) (hm : X.mg x = some (.ref C)) (hb : KBn X.K fd ps (n + 1) ks g gV) (hx : ∀ σ, PassesAt CX X σ (V' σ))
    (ha : PA X (e :: es) t) (hkw : PK X kws tk) (hall : (backToKw pos (keywordEach kws X.env)).all (·.1.isSome) = true) (hks : (backToKw pos (keywordEach kws X.env)).filterMap (·.1) = ks)
    (hdb : (x == ("__debug__" : Str)) = false) (he : starEach (e :: es) X.env = (false, eval e X.env) :: starEach es X.env)
    (hpl : ((backTo pos (starEach (e :: es) X.env)).any (·.1) || (backToKw pos (keywordEach kws X.env)).any (·.1.isNone)) = false) :
    PE X (.Call (.Name x p) (e :: es) kws pos) (tMkwG C n ks.length sp gV V' t tk) := by
  refine ⟨fun pins s σ H Q I h => ?_⟩
  refine wpAny_Call_Name_kw (ld_glob I hg hm ?_ hdb)
  refine PySem.W.callWith_KW (h₀ := X.base) I.ok.mod.kin M.kp hall (thn (ha.run pos pins s σ H _ I h) fun us s1 ⟨vs, H1, I1, r, q⟩ => ?_) hpl he
  refine thn (hkw.run pos pins s1 σ H1 _ I1 q) fun ws s2 ⟨zs, H2, I2, rz, l1, l2, q2⟩ => ⟨I2.kIn, ?_⟩
  rw [hks]
  exact run_mkGN M F hr hgd hb (hx σ) I2 r rz l1 l2 q2
theorem makeGN0 (M : Mk X.K C f) (F : FnG X.prog X.w X.K X.mg X.base CX k f fd ps sp) (hr : Room (k + 1) X.A) (hgd : X.A.guards = some []) (hg : Gl X x) (hm : X.mg x = some (.ref C)) (hb : KBn X.K fd ps 1 ks g gV) (hx : ∀ σ, PassesAt CX X σ (V' σ))
    (hkw : PK X kws tk) (hall : (backToKw pos (keywordEach kws X.env)).all (·.1.isSome) = true) (hks : (backToKw pos (keywordEach kws X.env)).filterMap (·.1) = ks)
    (hdb : (x == ("__debug__" : Str)) = false) (hpl : ((backTo pos (starEach [] X.env)).any (·.1) || (backToKw pos (keywordEach kws X.env)).any (·.1.isNone)) = false) :
    PE X (.Call (.Name x p) [] kws pos) (tMkwG C 0 ks.length sp gV V' tNil tk) := by
  refine ⟨fun pins s σ H Q I h => ?_⟩
  refine wpAny_Call_Name_kw (ld_glob I hg hm ?_ hdb)
  refine PySem.W.callWith_KW0 (h₀ := X.base) I.ok.mod.kin M.kp hall ?_ hpl
  refine thn (hkw.run pos pins s σ H _ I h) fun ws s2 ⟨zs, H2, I2, rz, l1, l2, q2⟩ => ⟨I2.kIn, ?_⟩
  rw [hks]
  exact run_mkGN (us := []) (vs := []) M F hr hgd hb (hx σ) I2 .nil rz rfl l2 q2
end
end Fg
namespace Mz
open PySem PySem.Spec L2
/-! ### keywords at the layer -/
/-- where a parameter's value comes from -/
inductive KS where
  | p (i : Nat) | k (j : Nat) | c (d : D)
def gath (pl : List KS) (ds es : List D) : List D := pl.map fun s => match s with | .p i => ds.getD i .non | .k j => es.getD j .non | .c d => d
structure KwOk (K : Fw) (fd : FuncData) (ps : List Str) (n : Nat) (ks : List Str) (pl : List KS) : Prop where
  ex : ∃ g gV, KBn K.K fd ps n ks g gV ∧ ∀ m H ds vs es zs, RVs K m H ds vs → RVs K m H es zs → ds.length = n → es.length = ks.length → RVs K m H (gath pl ds es) (gV vs zs)
  len : pl.length = ps.length
def eKw (F : List D → Store → O D) (pl : List KS) (fa fk : SA) : SE := fun g S => (fa g S).bind fun ds S => (fk g S).bind fun es S => F (gath pl ds es) S
def eMkw (C : Str) (F : List D → Store → O D) (pl : List KS) (fa fk : SA) : SE := fun g S => (fa g S).bind fun ds S => (fk g S).bind fun es S => (F (gath pl (.loc S.length :: ds) es) (S ++ [.ins C []])).bind fun d S' => match d with
  | .non => .ok (.loc S.length) S'
  | _ => .no
theorem pkI {X : Cx} {kws : List Keyword} {t t' : TA} (h : PK X kws t) (i : ∀ σ H Q, t' σ H Q → t σ H Q) : PK X kws t' := ⟨fun p pins s σ H Q I q => h.run p pins s σ H Q I (i σ H Q q)⟩
section
variable {X : Cx} {W : WX} {pos apos : Pos} {C : Str} {c : Addr} {F : List D → Store → O D} {fa fk : SA} {n : Nat} {fd : FuncData} {ps ks : List Str} {pl : List KS}
theorem mk_nil : PK X [] (tDA (kw X) W aNil) := pkI pk_nil fun σ H Q ⟨m, S, g, hs, hr, hp⟩ => hp.now hs [] .nil
theorem mk_cons {a : Expr} {nm : Option Str} {kpos : Pos} {kws : List Keyword} {f : SE} {fr : SA} (ha : PE X a (tD (kw X) W f)) (hr : PK X kws (tDA (kw X) W fr)) : PK X (⟨nm, a, kpos⟩ :: kws) (tDA (kw X) W (aCons f fr)) := by
  refine pkI (pk_cons ha hr) fun σ H Q ⟨m, S, g, hs, hr, hp⟩ => ?_
  exact ⟨m, S, g, hs, hr, hp.bind fun x S1 _ m1 H1 x1 s1 hp v1 r1 => ⟨m1, S1, g, s1, hr.ext hs x1, hp.bind fun xs S2 _ m2 H2 x2 s2 hp v2 r2 => hp.now s2 _ (.cons (r1.ext s1 x2) r2)⟩⟩
theorem gath_len {ds es : List D} : (gath pl ds es).length = pl.length := by unfold gath; rw [List.length_map]
theorem me_kw {e : Expr} {gV : List V → List V → List V} (ok : ∀ m H ds vs es zs, RVs (kw X) m H ds vs → RVs (kw X) m H es zs → ds.length = n → es.length = ks.length → RVs (kw X) m H (gath pl ds es) (gV vs zs))
    (h : PE X e (Fg.tKwG n ks.length (spD (kw X) pl.length F) gV (WE W) (tDA (kw X) W fa) (tDA (kw X) W fk))) (hl : ∀ g S ds S', fa g S = .ok ds S' → ds.length = n) (hk : ∀ g S ds S', fk g S = .ok ds S' → ds.length = ks.length) :
    PE X e (tD (kw X) W (eKw F pl fa fk)) := by
  refine peI h fun σ H Q ⟨m, S, g, hs, hr, hp⟩ => ⟨m, S, g, hs, hr, hp.bind fun ds S1 e1 m1 H1 x1 s1 hp vs r1 => ⟨m1, S1, g, s1, hr.ext hs x1, hp.bind fun es S2 e2 m2 H2 x2 s2 hp zs r2 => ?_⟩⟩
  have l1 := hl _ _ _ _ e1
  have l2 := hk _ _ _ _ e2
  have r1' := r1.ext s1 x2
  have rr := ok m2 H2 ds vs es zs r1' r2 l1 l2
  refine ⟨by rw [← r1.length]; exact l1, by rw [← r2.length]; exact l2, ?_, m2, S2, _, s2, rr, hp⟩
  rw [← rr.length, gath_len]
theorem me_mkw {e : Expr} {gV : List V → List V → List V} (hc : clsOf (kw X) C c) (ok : ∀ m H ds vs es zs, RVs (kw X) m H ds vs → RVs (kw X) m H es zs → ds.length = n + 1 → es.length = ks.length → RVs (kw X) m H (gath pl ds es) (gV vs zs))
    (h : PE X e (Fg.tMkwG c n ks.length (spD (kw X) pl.length F) gV (WE W) (tDA (kw X) W fa) (tDA (kw X) W fk))) (hl : ∀ g S ds S', fa g S = .ok ds S' → ds.length = n) (hk : ∀ g S ds S', fk g S = .ok ds S' → ds.length = ks.length) :
    PE X e (tD (kw X) W (eMkw C F pl fa fk)) := by
  refine peI h fun σ H Q ⟨m, S, g, hs, hr, hp⟩ => ⟨m, S, g, hs, hr, hp.bind fun ds S1 e1 m1 H1 x1 s1 hp vs r1 => ⟨m1, S1, g, s1, hr.ext hs x1, hp.bind fun es S2 e2 m2 H2 x2 s2 hp zs r2 => ?_⟩⟩
  have l1 := hl _ _ _ _ e1
  have l2 := hk _ _ _ _ e2
  refine ⟨by rw [← r1.length]; exact l1, by rw [← r2.length]; exact l2, fun x dx hx hdx ne => ?_⟩
  have hx' : upd H2 dx (.own x) x = none := by rw [upd_ne (Ne.symm ne)]; exact hx
  have ex1 : Ext m2 H2 m2 (upd H2 dx (.own x)) := ext_new hdx
  have s3 := sim_new (o := .own x) s2 hdx
  have ex2 : Ext m2 (upd H2 dx (.own x)) (m2 ++ [x]) (upd (upd H2 dx (.own x)) x (.ins c dx [])) := ext_alloc hx'
  have s4 : Sim (kw X) (m2 ++ [x]) (S2 ++ [.ins C []]) (upd (upd H2 dx (.own x)) x (.ins c dx [])) := sim_add s3 hx' ⟨c, dx, [], hc, upd_same, .nil⟩
  have ex := ex1.trans ex2
  have ax : (m2 ++ [x])[S2.length]? = some x := by
    rw [← s2.len, List.getElem?_append_right (Nat.le_refl _)]
    simp
  have rr := ok _ _ (.loc S2.length :: ds) (.ref x :: vs) es zs (.cons (.loc ax) ((r1.ext s1 x2).ext s2 ex)) (r2.ext s2 ex) (by rw [List.length_cons, l1]) l2
  refine ⟨?_, _, _, _, s4, rr, ?_⟩
  · rw [← rr.length, gath_len]
  · refine (Post.weak ex hp).bind fun d S3 _ m3 H3 x3 s5 hp v rv => ?_
    cases rv with
    | non => exact ⟨rfl, PostE.here hp s5 (.loc (x3.pre _ _ ax))⟩
    | _ => exact hp.elim
/-! ### the names -/
theorem kw_all {env : Env} : ∀ {kws : List Keyword} {ks : List Str}, kws.map Keyword.arg = ks.map some → (backToKw pos (keywordEach kws env)).all (·.1.isSome) = true ∧ (backToKw pos (keywordEach kws env)).filterMap (·.1) = ks ∧ (backToKw pos (keywordEach kws env)).any (·.1.isNone) = false
  | [], [], _ => ⟨rfl, rfl, rfl⟩
  | [], _ :: _, h => by cases h
  | _ :: _, [], h => by cases h
  | ⟨a, v, p⟩ :: kws, k :: ks, h => by
    have h := List.cons.inj h
    obtain ⟨h1, h2, h3⟩ := kw_all (env := env) h.2
    have ea : a = some k := h.1
    subst ea
    refine ⟨?_, ?_, ?_⟩
    · show (true && (backToKw pos (keywordEach kws env)).all (·.1.isSome)) = true
      rw [h1]; rfl
    · show k :: (backToKw pos (keywordEach kws env)).filterMap (·.1) = _
      rw [h2]
    · show (false || (backToKw pos (keywordEach kws env)).any (·.1.isNone)) = false
      rw [h3]; rfl
end
end Mz

end

section
set_option Elab.async false
set_option linter.all false
set_option maxRecDepth 100000
set_option maxHeartbeats 4000000
/-! list(range(n)) -/
namespace Mz
open PySem PySem.Spec L2
def eLrg (a : SE) : SE := fun g S => (a g S).bind fun d S => match d with
  | .int n => if (decide (0 ≤ n) && decide (n ≤ 16777216)) = true then alloc (intsFrom 0 n.toNat) S else .no
  | _ => .no
theorem rvs_rg {K : Fw} {m : List Addr} {H : Hp} {lo : Int} : ∀ xs : List Nat, RVs K m H (xs.map fun i => D.int (lo + (i : Nat))) (xs.map fun i => V.int (lo + (i : Nat)))
  | [] => .nil
  | x :: xs => .cons (.int _) (rvs_rg xs)
section
variable {X : Cx} {W : WX} {a : Expr} {fa : SE}
theorem me_lrg {p p2 q pos : Pos} (hc : X.calm = true) (hg : Gl X "list") (hm : X.mg "list" = none) (hg2 : Gl X "range") (hm2 : X.mg "range" = none) (ha : PE X a (tD (kw X) W fa))
    (na : starEach [a] X.env = (false, eval a X.env) :: starEach [] X.env) :
    PE X (.Call (.Name "list" p) [.Call (.Name "range" p2) [a] [] q] [] pos) (tD (kw X) W (eLrg fa)) := by
  refine peI (pe_listRg hc hg hm (prg_1 hg2 hm2 ha na)) fun σ H Q ⟨m, S, g, hs, hr, hp⟩ => ⟨m, S, g, hs, hr, hp.bind fun d S1 _ m1 H1 x1 s1 hp v r1 => ?_⟩
  split at hp
  · rename_i n _
    cases r1
    split at hp
    · rename_i h
      simp only [Bool.and_eq_true, decide_eq_true_eq] at h
      refine ⟨n, rfl, RgOk.of_le (Int.le_refl _) h.2 (by decide) h.1, fun q hn => PostE.newL hp s1 ?_ hn⟩
      unfold intsFrom rgV
      rw [Int.sub_zero]
      exact rvs_rg _
    · exact hp.elim
  · exact hp.elim
end
end Mz

end

section
set_option Elab.async false
set_option linter.all false
set_option maxRecDepth 100000
set_option maxHeartbeats 4000000
/-! xs[a:b] = ys; comprehensions of two fors -/
namespace Mz
open PySem PySem.Spec PyProof.Rows L2
/-! ### a store into a slice, its ends cut to the list -/
theorem sb_cut {i j m : Nat} (h : i ≤ j) : sliceBounds (some (i : Int)) (some (j : Int)) none m = (((min i m : Nat) : Int), ((min j m : Nat) : Int), 1) := by
  have p : ¬ ((i : Int) < 0) := by omega
  have q : ¬ ((j : Int) < 0) := by omega
  unfold sliceBounds
  simp only [Option.getD_none, p, q, if_false, show (1 : Int) > 0 from by decide, if_true]
  refine Prod.ext ?_ (Prod.ext ?_ rfl)
  · show max 0 (min (i : Int) m) = ((min i m : Nat) : Int)
    omega
  · show max 0 (min (j : Int) m) = ((min j m : Nat) : Int)
    omega
def gap (m i j : Nat) (ys : Array Value) (xs : Array Value) : Array Value := xs.extract 0 (min i m) ++ ys ++ xs.extract (min j m) xs.size
theorem gap_eq (us ws : List Value) {i j : Nat} : gap us.length i j ws.toArray us.toArray = (us.take i ++ ws ++ us.drop j).toArray := by
  unfold gap
  refine Array.toList_inj.mp ?_
  have e1 : us.take (min i us.length) = us.take i := by
    by_cases h : i ≤ us.length
    · rw [Nat.min_eq_left h]
    · rw [Nat.min_eq_right (by omega), List.take_length, List.take_of_length_le (by omega)]
  have e2 : (us.drop (min j us.length)).take (us.length - min j us.length) = us.drop j := by
    rw [List.take_of_length_le (by rw [List.length_drop]; omega)]
    by_cases h : j ≤ us.length
    · rw [Nat.min_eq_left h]
    · rw [Nat.min_eq_right (by omega), List.drop_length, List.drop_eq_nil_of_le (by omega)]
  simp [e1, e2]
section
variable {P : Program} {w : World} {A : Around} {E : Value → Shared → Prop} {t : Shared}
set_option maxRecDepth 100000 in
theorem put_sl {p q z : Addr} {xs ys : Array Value} {kx ky : Nat} {u v : Value} {i j : Nat} {R : Unit → Shared → Prop}
    (hp : t.heap.get? p = some ⟨.type "list", none, .seq xs kx, #[]⟩) (hq : t.heap.get? q = some ⟨.type "list", none, .seq ys ky, #[]⟩) (ne : p ≠ q)
    (hz : t.heap.IsSliceOf z u v .none) (hu : IsPart u (some (i : Int))) (hv : IsPart v (some (j : Int))) (hij : i ≤ j)
    (big : xs.size + ys.size ≤ sizeLine) (k : R () { t with heap := t.heap.update p (Obj.mapSeq (gap xs.size i j ys)) }) :
    wpAny (model P w) A (setItem (.ref p) (.ref z) (.ref q)) R E t := by
  have lp : t.heap.IsList p xs := PySem.IsL.isList hp
  have lq : t.heap.IsList q ys := PySem.IsL.isList hq
  obtain ⟨oz, z1, z2, z3⟩ := id hz
  have tz : t.TypeIs (.ref z) "slice" := ⟨oz, z1, z2⟩
  have c0 : ¬ ((rawPart none == rawInt 0) = true) := Bool.false_ne_true
  have c1 : Builtin.List.listSameRef (.ref p) (.ref q) = false := beq_eq_false_iff_ne.mpr ne
  have long := notLongL big
  have size2 : (gap xs.size i j ys xs).size ≤ sizeLine + 1 := by
    unfold gap
    rw [Array.size_append, Array.size_append, Array.size_extract, Array.size_extract]
    omega
  unfold setItem
  first | refine wpAny_holding ?_ | skip
  first | refine wpAny_bind (wpAny_pure ?_) | skip
  refine wpAny_bind (wpAny_sequenceKey lp.typeIs (by decide) ?_)
  refine wpAny_bind (wpAny_callSpecial?_slot (name := "__setitem__") lp.typeIs slot_list_setitem ?_)
  refine wpAny_call_entry slot_list_setitem lp.typeIs entry_list_setitem ?_ (args_list_setitem _ _ _)
  show wpAny _ _ (Builtin.List.listSubscript? (.ref z) >>= _) _ _ t
  refine wpAny_bind ?_
  unfold Builtin.List.listSubscript?
  refine wpAny_bind (wpAny_specialOf tz slice_no_index ?_)
  simp only [Option.isNone_none, if_true]
  refine wpAny_pure ?_
  show wpAny _ _ (typeOf (.ref z) >>= _) _ _ t
  refine wpAny_bind (wpAny_typeOf tz ?_)
  refine PySem.W.KFB.if_not (by decide) ?_
  rw [listSliceParts_eq]
  refine wpAny_bind (wpAny_bind (wpAny_field z1 z3 (x := .none) rfl (wpAny_bind (wpAny_listPart .none ?_))))
  rw [if_neg c0]
  refine wpAny_bind (wpAny_field z1 z3 (x := u) rfl (wpAny_bind (wpAny_listPart hu ?_)))
  refine wpAny_bind (wpAny_field z1 z3 (x := v) rfl (wpAny_bind (wpAny_listPart hv (wpAny_pure ?_))))
  first
    | simp only [c1, Bool.false_eq_true, if_false]
    | refine PySem.W.KFB.if_not c1 ?_
  refine wpAny_bind (m := Builtin.List.listAllItems (.ref q) "must assign iterable to extended slice") ?_
  unfold Builtin.List.listAllItems
  refine wpAny_bind (wpAny_typeOf lq.typeIs (PySem.W.KFB.if_so (by decide) ?_))
  unfold Builtin.List.listItems
  refine wpAny_bind (wpAny_seqItems hq rfl (wpAny_pure ?_))
  refine wpAny_bind (wpAny_bind (wpAny_seqItems hp rfl (wpAny_pure ?_)))
  have ix : sliceIndices (rawPart (some (i : Int))) (rawPart (some (j : Int))) (rawPart none) xs.size = pure (((min i xs.size : Nat) : Int), ((min j xs.size : Nat) : Int), (1 : Int)) := by
    rw [sliceIndices_raw _ _ none _ (by simp), sb_cut hij]
  refine wpAny_bind (wpAny_of_eq ix ?_)
  show wpAny _ _ (if ((1 : Int) == 1) = true then _ else _) _ _ t
  rw [if_pos (by decide)]
  refine wpAny_bind (wpAny_rule ?_)
  first
    | simp only [long, Bool.false_eq_true, if_false]
    | refine PySem.W.KFB.if_not long ?_
  first | refine wpAny_bind (wpAny_pure ?_) | skip
  have same : (max ((min i xs.size : Nat) : Int) ((min j xs.size : Nat) : Int)).toNat = min j xs.size := by omega
  show wpAny _ _ (updateSeq p (fun as => as.extract 0 (((min i xs.size : Nat) : Int)).toNat ++ ys ++ as.extract (max ((min i xs.size : Nat) : Int) ((min j xs.size : Nat) : Int)).toNat as.size) >>= _) _ _ t
  rw [same, Int.toNat_natCast]
  refine wpAny_bind (wpAny_updateSeq (hz := Nat.le_trans (Nat.le_add_right _ _) big) (_hz' := size2) hp rfl ?_)
  refine wpAny_bind (wpAny_letGo ?_)
  first
    | exact wpAny_pure ⟨.none, rfl, wpAny_pure k⟩
    | exact wpAny_bind (wpAny_pure (wpAny_pure ⟨.none, rfl, wpAny_pure k⟩))
end
def gSl (to : TE) (tl th : TO) : TG := fun v σ H Q => to σ H fun x H1 => tl σ H1 fun l H2 => th σ H2 fun u H3 => ∃ (a b : Addr) (xs ys : List V) (p q : Nat), x = .ref a ∧ v = .ref b ∧ a ≠ b ∧ H3 a = some (.lst xs) ∧ H3 b = some (.lst ys) ∧
  l = some (p : Int) ∧ u = some (q : Int) ∧ p ≤ q ∧ xs.length + ys.length ≤ sizeLine ∧ Q σ (upd H3 a (.lst (xs.take p ++ ys ++ xs.drop q)))
section
variable {X : Cx} {o : Expr} {lo hi : Option Expr} {to : TE} {tl th : TO} {p2 pos : Pos}
theorem pg_sl (ho : PE X o to) (hl : PO X lo tl) (hu : PO X hi th) : PG X (.Subscript o (.Slice lo hi none p2) pos) (gSl to tl th) := by
  refine ⟨fun pins s σ H v u Q I r h => ?_⟩
  show wpAny _ _ (do
    let ov ← holding [u] (eval o X.env)
    let iv ← holding [u, ov] (eval (.Slice lo hi none p2) X.env)
    standAt pos
    holding [u, ov, iv] (setItem ov iv u)
    release [iv, u, ov] []) _ _ s
  refine wpAny_bind (wpAny_holding (thn (ho.run pins s σ H _ I h) fun ov s1 ⟨x, H1, I1, r1, q1⟩ => ?_))
  refine wpAny_bind (wpAny_holding (wpAny_Slice (thn (hl.run pins s1 σ H1 _ I1 q1) fun vl s2 ⟨l, H2, I2, pl, q2⟩ => thn (hu.run pins s2 σ H2 _ I2 q2) fun vu s3 ⟨w, H3, I3, pu, q3⟩ => ?_)))
  rw [evalPart_none]
  refine wpAny_pure ?_
  have I4 : Inv X pins σ H3 { s3 with heap := s3.heap.push { cls := .type "slice", data := .fields #[vl, vu, .none] } } := I3.kept (t' := s3.toks) fun b ob q => Heap.get?_push_of_some _ q
  refine wpAny_bind (wpAny_standAt (wpAny_bind (wpAny_holding ?_)))
  obtain ⟨a, b, xs, ys, p, q, rfl, rfl, hne, hH, hB, rfl, rfl, hpq, hz, q3⟩ := q3
  obtain rfl : ov = .ref a := by cases r1; rfl
  obtain rfl : u = .ref b := by cases r; rfl
  obtain ⟨z, its, n, r, hln, e⟩ := I4.lstM hH
  obtain ⟨z2, its2, n2, r2, hln2, e2⟩ := I4.lstM hB
  refine put_sl (i := p) (j := q) e e2 hne (Heap.IsSliceOf.new ..) pl pu hpq (by rw [List.size_toArray, List.size_toArray]; omega) ?_
  refine wpAny_release ⟨σ, _, I4.lset (its' := its.take p ++ its2 ++ its.drop q) (t' := s3.toks) hH e ?_ (Vals.append (Vals.append (r.take _) r2) (r.drop _)) ?_, q3⟩
  · rw [List.size_toArray]
    exact gap_eq its its2
  · rw [List.length_append, List.length_append, List.length_take, List.length_drop]
    omega
end
def setSl (o : D) (l u : Option Int) (v : D) (S : Store) : O Unit := match lstAt S o, lstAt S v, l, u with
  | some (n, xs), some (k, ys), some a, some c => if n ≠ k ∧ 0 ≤ a ∧ a ≤ c ∧ xs.length + ys.length ≤ sizeLine then .ok () (S.set n (.lst (xs.take a.toNat ++ ys ++ xs.drop c.toNat))) else .no
  | _, _, _, _ => .no
def gSlD (o : SE) (lo hi : SO) : SG := fun d g S => (o g S).bind fun x S => (lo g S).bind fun l S => (hi g S).bind fun u S => (setSl x l u d S).bind fun _ S => .ok g S
section
variable {X : Cx} {W : WX} {o : Expr} {lo hi : Option Expr} {fo : SE} {fl fh : SO} {p2 pos : Pos}
theorem mg_sl (ho : PE X o (tD (kw X) W fo)) (hl : PO X lo (tDO (kw X) W fl)) (hu : PO X hi (tDO (kw X) W fh)) : PG X (.Subscript o (.Slice lo hi none p2) pos) (tDG (kw X) W [] (gSlD fo fl fh)) := by
  refine pgI (pg_sl ho hl hu) fun v σ H Q ⟨m, S, g, d, hs, hr, rd, hp⟩ => ?_
  refine ⟨m, S, g, hs, hr, hp.bind fun x S1 e1 m1 H1 x1 s1 hp v1 r1 => ⟨m1, S1, g, s1, hr.ext hs x1, hp.bind fun l S2 e2 m2 H2 x2 s2 hp => ⟨m2, S2, g, s2, hr.ext hs (x1.trans x2), hp.bind fun u S3 e3 m3 H3 x3 s3 hp => ?_⟩⟩⟩
  have x13 := x1.trans (x2.trans x3)
  have rd3 := rd.ext hs x13
  have r13 := r1.ext s1 (x2.trans x3)
  cases e4 : setSl x l u d S3 with
  | ok _ S4 =>
    rw [e4] at hp
    unfold setSl at e4
    split at e4
    · rename_i n xs k ys a c h1 h2
      split at e4
      · rename_i hc
        obtain ⟨c1, c2, c3, c5⟩ := hc
        cases e4
        obtain ⟨p, vs, rfl, hm, h3, rv⟩ := lstAt_at s3 r13 h1
        obtain ⟨q, ws, rfl, hm2, h4, rw'⟩ := lstAt_at s3 rd3 h2
        obtain ⟨a', rfl⟩ := Int.eq_ofNat_of_zero_le c2
        obtain ⟨c', rfl⟩ := Int.eq_ofNat_of_zero_le (Int.le_trans c2 c3)
        have l1 := rv.length
        have l2 := rw'.length
        refine ⟨p, q, vs, ws, a', c', rfl, rfl, fun z => c1 (s3.inj n k p hm (by rw [z]; exact hm2)), h3, h4, rfl, rfl, by omega, by omega, ?_⟩
        refine hp _ _ (ext_write hm) (sim_write s3 hm ?_) σ ((hr.ext hs x13).ext s3 (ext_write hm)) fun _ _ => rfl
        exact RVs.append (RVs.append (rv.take _) rw') (rv.drop _)
      · cases e4
    · cases e4
  | ex y S4 =>
    exfalso
    unfold setSl at e4
    split at e4
    · split at e4 <;> cases e4
    · cases e4
  | no => rw [e4] at hp; exact hp.elim
end

/-! ### two fors -/
def lcLoop2 (ik : IK) (t : SG) (ts : ST) (it1 : SI) (t1 : SG) (ts1 : ST) (el : SE) (vs1 : List Nat) (g0 : Sg) : Nat → Nat → List D → Store → O (List D)
  | 0, _, _, _ => .no
  | n + 1, i, acc, S => match istep ik i S with
    | some (some d) => (t d g0 S).bind fun g S => (ts g S).bind fun c S => if c = true then (it1 g S).bind fun ik1 S => (lcLoop ik1 t1 ts1 el (wipeG g vs1) (ibound ik1 S) 0 acc S).bind fun acc S => lcLoop2 ik t ts it1 t1 ts1 el vs1 g0 n (i + 1) acc S
        else lcLoop2 ik t ts it1 t1 ts1 el vs1 g0 n (i + 1) acc S
    | some none => .ok acc S
    | none => .no
def eLc2 (own vs1 : List Nat) (it : SI) (t : SG) (ts : ST) (it1 : SI) (t1 : SG) (ts1 : ST) (el : SE) : SE := fun g S => (it g S).bind fun ik S => (noX (lcLoop2 ik t ts it1 t1 ts1 el vs1 (wipeG g own) (ibound ik S) 0 [] S)).bind fun acc S => alloc acc S
theorem wipe2 : ∀ (a b : List Nat) (τ : L2.St), (∀ i ∈ b, i ∈ a) → L2.wipe (L2.wipe τ b) a = L2.wipe τ a := by
  intro a b τ
  induction b with
  | nil => intro _; rfl
  | cons z b ih =>
    intro hb
    show L2.wipe ((L2.wipe τ b).set z none) a = _
    rw [wipe_set (hb z List.mem_cons_self)]
    exact ih fun i hi => hb i (List.mem_cons_of_mem _ hi)
section
variable {X : Cx} {W : WX} {pos : Pos}
theorem lc2_r {own vs1 : List Nat} {it it1 : SI} {is is1 : List Nat} {t t1 : SG} {ts ts1 : ST} {el : SE} (his : ∀ i ∈ is, i ∈ own) (his1 : ∀ i ∈ is1, i ∈ vs1) {σ : L2.St} {H : Hp} {Q : VK} (h : tD (kw X) W (eLc2 own vs1 it t ts it1 t1 ts1 el) σ H Q) :
    tLc2 (tDI (kw X) W it) (tDG (kw X) W0 is t) (tDT (kw X) W0 ts) (tDI (kw X) W0 it1) (tDG (kw X) W0 is1 t1) (tDT (kw X) W0 ts1) (tD (kw X) W0 el) own vs1 σ H Q := by
  obtain ⟨m, S, g, hs, hr, hp⟩ := h
  refine ⟨m, S, g, hs, hr, hp.bind fun ik S1 _ m1 H1 x1 s1 hp J itok L hL => ?_⟩
  have nL1 : L ∉ m1 := fun z => by
    obtain ⟨o, e, _⟩ := s1.mut z
    rw [hL] at e; cases e
  have fin : FinL (kw X) m1 H1 L Q (lcLoop2 ik t ts it1 t1 ts1 el vs1 (wipeG g own) (ibound ik S1) 0 [] S1) := by
    cases e2 : lcLoop2 ik t ts it1 t1 ts1 el vs1 (wipeG g own) (ibound ik S1) 0 [] S1 with
    | ex x S2 => rw [e2] at hp; exact hp.elim
    | no => rw [e2] at hp; exact hp.elim
    | ok acc S2 =>
      rw [e2] at hp
      intro m' H' vs x' nL s' eL r'
      refine hp (m' ++ [L]) H' ⟨fun n a e => ?_, fun a h1 n => ?_, x'.kee⟩ (adopt_sim s' eL nL r') (.ref L) (.loc ?_)
      · have e := x'.pre n a e
        rw [List.getElem?_append_left (List.getElem?_eq_some_iff.mp e).1]; exact e
      · rcases List.mem_append.mp h1 with z | z
        · exact x'.new a z n
        · have : a = L := by simpa using z
          subst this; exact hL
      · rw [← s'.len, List.getElem?_append_right (Nat.le_refl _)]
        simp
  have xL : Ext m1 H1 m1 (upd H1 L (.lst [])) := ext_new hL
  refine ⟨fun i k H => ∃ m S acc vs, Ext m1 H1 m H ∧ L ∉ m ∧ Sim (kw X) m S H ∧ H L = some (.lst vs) ∧ RVs (kw X) m H acc vs ∧ FinL (kw X) m1 H1 L Q (lcLoop2 ik t ts it1 t1 ts1 el vs1 (wipeG g own) k i acc S),
    ⟨_, m1, S1, [], [], xL, nL1, sim_new s1 hL, upd_same, .nil, fin⟩, ?_⟩
  rintro i k H ⟨m, S, acc, vs, xx, nL, hs', eL, ra, hp⟩
  cases k with
  | zero => exact hp.elim
  | succ k =>
    have hp : FinL (kw X) m1 H1 L Q (match istep ik i S with
      | some (some d) => (t d (wipeG g own) S).bind fun g' S => (ts g' S).bind fun c S => if c = true then (it1 g' S).bind fun ik1 S => (lcLoop ik1 t1 ts1 el (wipeG g' vs1) (ibound ik1 S) 0 acc S).bind fun acc S => lcLoop2 ik t ts it1 t1 ts1 el vs1 (wipeG g own) k (i + 1) acc S
        else lcLoop2 ik t ts it1 t1 ts1 el vs1 (wipeG g own) k (i + 1) acc S
      | some none => .ok acc S
      | none => .no) := hp
    cases est : istep ik i S with
    | none => rw [est] at hp; exact hp.elim
    | some od =>
      rw [est] at hp
      cases od with
      | none => exact .inl ⟨itok.stop m S H i xx.to0 hs' est, hp m H vs xx nL hs' eL ra⟩
      | some d =>
        obtain ⟨go, yl⟩ := itok.go m S H i d xx.to0 hs' est
        have hp : FinL (kw X) m1 H1 L Q ((t d (wipeG g own) S).bind _) := hp
        obtain ⟨g2, S2, e2, hp⟩ := hp.inv
        obtain ⟨c, S3, e3, hp⟩ := hp.inv
        refine .inr ⟨go, fun H => ∃ m S acc vs, Ext m1 H1 m H ∧ L ∉ m ∧ Sim (kw X) m S H ∧ H L = some (.lst vs) ∧ RVs (kw X) m H acc vs ∧ FinL (kw X) m1 H1 L Q (lcLoop2 ik t ts it1 t1 ts1 el vs1 (wipeG g own) k (i + 1) acc S), fun H' h => ⟨k, Nat.lt_succ_self k, h⟩, fun x H' hy => ?_⟩
        obtain ⟨xe, xs, xr⟩ := yl x H' hy
        have hrw : RVo (kw X) m H' (wipeG g own) (L2.wipe σ own) := ((hr.ext hs x1).ext s1 (xx.trans xe)).wipe own
        refine ⟨m, S, wipeG g own, d, xs, hrw, xr, ?_⟩
        rw [e2]
        intro m2 H2 x2 s2 σ2 r2 w2
        refine ⟨?_, m2, S2, g2, s2, r2, ?_⟩
        · rw [w2 own his]
          exact wipe2 own own σ fun _ h => h
        rw [e3]
        intro m3 H3 x3 s3
        have x23 : Ext m H m3 H3 := xe.trans (x2.trans x3)
        have nL3 : L ∉ m3 := fun z => by
          have := x23.new L z nL
          rw [eL] at this; cases this
        have eL3 : H3 L = some (.lst vs) := x23.kee L _ nL eL
        cases c with
        | false =>
          rw [if_neg Bool.false_ne_true] at hp
          exact iteF ⟨m3, S3, acc, vs, xx.trans x23, nL3, s3, eL3, ra.ext hs' x23, hp⟩
        | true =>
          rw [if_pos rfl] at hp
          obtain ⟨ik1, S4, e4, hp⟩ := hp.inv
          have r23 := r2.ext s2 x3
          refine iteT ⟨m3, S3, g2, s3, r23, ?_⟩
          rw [e4]
          intro m4 H4 x4 s4 J1 itok1
          have x24 := x23.trans x4
          have nL4 : L ∉ m4 := fun z => by
            have := x24.new L z nL
            rw [eL] at this; cases this
          have eL4 : H4 L = some (.lst vs) := x24.kee L _ nL eL
          have r4 := r23.ext s3 x4
          -- the inner loop
          refine ⟨fun j k1 H => ∃ m S acc vs, Ext m1 H1 m H ∧ Ext0 m4 H4 m H ∧ L ∉ m ∧ Sim (kw X) m S H ∧ H L = some (.lst vs) ∧ RVs (kw X) m H acc vs ∧ RVo (kw X) m H g2 σ2 ∧
              FinL (kw X) m1 H1 L Q ((lcLoop ik1 t1 ts1 el (wipeG g2 vs1) k1 j acc S).bind fun acc S => lcLoop2 ik t ts it1 t1 ts1 el vs1 (wipeG g own) k (i + 1) acc S),
            ⟨_, m4, S4, acc, vs, xx.trans x24, Ext.refl.to0, nL4, s4, eL4, ra.ext hs' x24, r4, hp⟩, ?_⟩
          rintro j k1 H5 ⟨m5, S5, acc5, vs5, xx5, x45, nL5, s5, eL5, ra5, rg5, hp⟩
          cases k1 with
          | zero => exact hp.elim
          | succ k1 =>
            have hp : FinL (kw X) m1 H1 L Q (O.bind (match istep ik1 j S5 with
              | some (some d) => (t1 d (wipeG g2 vs1) S5).bind fun g' S => (ts1 g' S).bind fun c S => if c = true then (el g' S).bind fun y S => if acc5.length < sizeLine then lcLoop ik1 t1 ts1 el (wipeG g2 vs1) k1 (j + 1) (acc5 ++ [y]) S else .no else lcLoop ik1 t1 ts1 el (wipeG g2 vs1) k1 (j + 1) acc5 S
              | some none => .ok acc5 S5
              | none => .no) fun acc S => lcLoop2 ik t ts it1 t1 ts1 el vs1 (wipeG g own) k (i + 1) acc S) := hp
            cases est1 : istep ik1 j S5 with
            | none => rw [est1] at hp; exact hp.elim
            | some od1 =>
              rw [est1] at hp
              cases od1 with
              | none => exact .inl ⟨itok1.stop m5 S5 H5 j x45 s5 est1, m5, S5, acc5, vs5, xx5, nL5, s5, eL5, ra5, hp⟩
              | some d1 =>
                obtain ⟨go1, yl1⟩ := itok1.go m5 S5 H5 j d1 x45 s5 est1
                have bb : ∀ {α β γ : Type} (o : O α) (k1 : α → Store → O β) (k2 : β → Store → O γ), (o.bind k1).bind k2 = o.bind fun a S => (k1 a S).bind k2 := by
                  intro α β γ o k1 k2
                  cases o <;> rfl
                have hp : FinL (kw X) m1 H1 L Q (((t1 d1 (wipeG g2 vs1) S5).bind _).bind _) := hp
                rw [bb] at hp
                obtain ⟨g6, S6, e6, hp⟩ := hp.inv
                rw [bb] at hp
                obtain ⟨c1, S7, e7, hp⟩ := hp.inv
                refine .inr ⟨go1, fun H => ∃ m S acc vs, Ext m1 H1 m H ∧ Ext0 m4 H4 m H ∧ L ∉ m ∧ Sim (kw X) m S H ∧ H L = some (.lst vs) ∧ RVs (kw X) m H acc vs ∧ RVo (kw X) m H g2 σ2 ∧
                  FinL (kw X) m1 H1 L Q ((lcLoop ik1 t1 ts1 el (wipeG g2 vs1) k1 (j + 1) acc S).bind fun acc S => lcLoop2 ik t ts it1 t1 ts1 el vs1 (wipeG g own) k (i + 1) acc S), fun H' h => ⟨k1, Nat.lt_succ_self k1, h⟩, fun x H' hy => ?_⟩
                obtain ⟨xe1, xs1, xr1⟩ := yl1 x H' hy
                have hrw1 : RVo (kw X) m5 H' (wipeG g2 vs1) (L2.wipe σ2 vs1) := (rg5.ext s5 xe1).wipe vs1
                refine ⟨m5, S5, wipeG g2 vs1, d1, xs1, hrw1, xr1, ?_⟩
                rw [e6]
                intro m6 H6 x6 s6 σ6 r6 w6
                refine ⟨?_, m6, S6, g6, s6, r6, ?_⟩
                · rw [w6 vs1 his1]
                  exact wipe2 vs1 vs1 σ2 fun _ h => h
                rw [e7]
                intro m7 H7 x7 s7
                have x57 : Ext m5 H5 m7 H7 := xe1.trans (x6.trans x7)
                have nL7 : L ∉ m7 := fun z => by
                  have := x57.new L z nL5
                  rw [eL5] at this; cases this
                have eL7 : H7 L = some (.lst vs5) := x57.kee L _ nL5 eL5
                cases c1 with
                | false =>
                  rw [if_neg Bool.false_ne_true] at hp
                  exact iteF ⟨m7, S7, acc5, vs5, xx5.trans x57, x45.trans x57, nL7, s7, eL7, ra5.ext s5 x57, rg5.ext s5 x57, hp⟩
                | true =>
                  rw [if_pos rfl, bb] at hp
                  obtain ⟨y, S8, e8, hp⟩ := hp.inv
                  refine iteT ⟨m7, S7, g6, s7, r6.ext s6 x7, ?_⟩
                  rw [e8]
                  intro m8 H8 x8 s8 v8 r8
                  have x58 := x57.trans x8
                  have nL8 : L ∉ m8 := fun z => by
                    have := x58.new L z nL5
                    rw [eL5] at this; cases this
                  have eL8 : H8 L = some (.lst vs5) := x58.kee L _ nL5 eL5
                  split at hp
                  · rename_i hz
                    have ra8 := ra5.ext s5 x58
                    have kee : ∀ {m0 : List Addr} {H0 : Hp}, L ∉ m0 → H0 L = none → Ext m0 H0 m8 H8 → Ext m0 H0 m8 (upd H8 L (.lst (vs5 ++ [v8]))) := fun n0 h0 z =>
                      ⟨z.pre, z.new, fun a o n e => by rw [upd_ne (ne_of_none e h0)]; exact z.kee a o n e⟩
                    refine ⟨vs5, eL8, by rw [← ra5.length]; exact hz, m8, S8, acc5 ++ [y], vs5 ++ [v8], kee nL1 hL (xx5.trans x58), ?_, nL8, out_sim s8 eL8 nL8, upd_same, (out_rvs eL8 ra8).append (.cons (out_rv eL8 r8) .nil), ?_, hp⟩
                    · have z := x45.trans x58
                      exact ⟨z.pre, z.new, fun a o n hm e => by rw [upd_ne (fun w => by rw [w, eL4] at e; cases e; exact hm trivial)]; exact z.kee a o n hm e⟩
                    · have z := rg5.ext s5 x58
                      exact ⟨z.1, fun i d e => let ⟨v, h1, h2⟩ := z.2 i d e; ⟨v, h1, out_rv eL8 h2⟩⟩
                  · exact hp.elim
end
end Mz

end

section
set_option Elab.async false
set_option linter.all false
set_option maxRecDepth 100000
namespace Mz
open PySem PySem.Spec L2

/-! ### the forms of the text -/
def noStar : Expr → Bool
  | .Starred _ _ => false
  | _ => true
def noComp : Expr → Bool
  | .ListComp _ _ _ _ => false | .SetComp _ _ _ _ => false | .DictComp _ _ _ _ _ => false
  | _ => true
def noSlice : Expr → Bool
  | .Slice _ _ _ _ => false
  | _ => true
def noSet : Expr → Bool
  | .Set _ _ _ => false
  | _ => true
def noTup : Expr → Bool
  | .Tuple _ _ _ => false
  | _ => true
def isSub : Expr → Bool
  | .Subscript _ _ _ => true
  | _ => false
def noCall0 : Expr → Bool
  | .Call (.Name _ _) [] [] _ => false
  | _ => true
def plainT : Expr → Bool
  | .UnaryOp .Not _ _ => false | .BoolOp _ _ _ => false | .IfExp _ _ _ _ => false | .Compare _ _ _ _ => false
  | _ => true
section
variable {env : Env}
theorem star_ok {e : Expr} (es : List Expr) (h : noStar e = true) : starEach (e :: es) env = (false, eval e env) :: starEach es env := by
  cases e <;> first | rfl | cases h
theorem star_any (pos : Pos) : ∀ {es : List Expr}, es.all noStar = true → (backTo pos (starEach es env)).any (·.1) = false
  | [], _ => rfl
  | e :: es, h => by
    simp only [List.all_cons, Bool.and_eq_true] at h
    rw [star_ok es h.1]
    show ((false : Bool) || (backTo pos (starEach es env)).any (·.1)) = false
    rw [star_any pos h.2]; rfl
theorem star_all (pos : Pos) : ∀ {es : List Expr}, es.all noStar = true → (backTo pos (starEach es env)).all (fun x => !x.1) = true
  | [], _ => rfl
  | e :: es, h => by
    simp only [List.all_cons, Bool.and_eq_true] at h
    rw [star_ok es h.1]
    show ((true : Bool) && (backTo pos (starEach es env)).all (fun x => !x.1)) = true
    rw [star_all pos h.2]; rfl
theorem base_ok {o : Expr} {a : Str} {wh : Sem Value} (h : noCall0 o = true) : attributeBase o a env wh = wh := by
  unfold attributeBase
  split
  · cases h
  · rfl
theorem sw_ok {e : Expr} {t : Option Expr} {l : Nat} (h : noComp e = true) : swapsWith e t l env = pure false := by
  cases e <;> first | rfl | cases h
theorem sw_cell {e : Expr} {x : Str} {p : Pos} {l : Nat} (h : (match env.scope.names.lookup x with | some .local => false | _ => true) = true) : swapsWith e (some (.Name x p)) l env = pure false := by
  have hk : (env.kindOf x == some .local) = false := by
    show (env.scope.names.lookup x == some .local) = false
    split at h
    · cases h
    · rename_i hn
      cases e2 : env.scope.names.lookup x with
      | none => rfl
      | some k =>
        cases k <;> first | rfl | exact absurd e2 hn
  cases e <;> first | rfl | (show (pure (env.blockKind == .function && env.kindOf x == some .local && _ && _) : Sem Bool) = pure false; rw [hk, Bool.and_false, Bool.false_and, Bool.false_and])
theorem ix_ok {b : Expr} (h : noSlice b = true) : PlainIx b := by
  intro o i
  cases b <;> first | rfl | cases h
theorem set_ok {e : Expr} (h : noSet e = true) : ∀ x, foldedSetIterable e env x = pure x := by
  intro x
  cases e <;> first | rfl | cases h
theorem mark_ok {e : Expr} {op : CmpOp} (h : noSet e = true) : behindInMarks op e = false := by
  cases e <;> first | rfl | cases h
theorem last_ok {b c : Expr} {p q : CmpOp} (h : noSet c = true) : lastMarks [p, q] [b, c] = false := by
  show behindInMarks q c = false
  exact mark_ok h
theorem plain_ok {e : Expr} (h : plainT e = true) : ∀ wh, isTrue e env wh = (do let v ← wh; standAt e.pos; holding [v] (truthy v)) := by
  intro wh
  cases e with
  | UnaryOp op x p => cases op <;> first | rfl | cases h
  | _ => first | rfl | cases h
theorem asg_each {e : Expr} (es : List Expr) (h : noStar e = true) : assignEach (e :: es) env = (false, assign e env) :: assignEach es env := by
  cases e <;> first | rfl | cases h
theorem asg_len : ∀ {es : List Expr}, es.all noStar = true → (assignEach es env).length = es.length
  | [], _ => rfl
  | e :: es, h => by
    simp only [List.all_cons, Bool.and_eq_true] at h
    rw [asg_each es h.1, List.length_cons, asg_len h.2, List.length_cons]
theorem asg_idx : ∀ {es : List Expr}, es.all noStar = true → (assignEach es env).findIdx? (·.1) = none
  | [], _ => rfl
  | e :: es, h => by
    simp only [List.all_cons, Bool.and_eq_true] at h
    rw [asg_each es h.1, List.findIdx?_cons]
    simp [asg_idx h.2]
theorem stores_ok {t e : Expr} (h : noTup e = true) : swappedStores [t] e env = pure none := by
  cases e <;> first | (cases t <;> rfl) | cases h
theorem stores_sub {t e : Expr} (h : (noTup e || isSub t) = true) : swappedStores [t] e env = pure none := by
  rcases Bool.or_eq_true _ _ ▸ h with h | h
  · exact stores_ok h
  · cases t <;> first | cases h | skip
    cases e <;> rfl
theorem asg_sub {o i : Expr} {pos : Pos} (h : noSlice i = true) : ∀ v, assign (.Subscript o i pos) env v = (do
      let ov ← holding [v] (eval o env)
      let iv ← holding [v, ov] (eval i env)
      standAt pos
      holding [v, ov, iv] (setItem ov iv v)
      release [v, ov, iv] []) := by
  intro v
  cases i <;> first | rfl | cases h
theorem meth_tree {o : Expr} {m : Str} {apos pos : Pos} {args : List Expr} (hb : noCall0 o = true) (hs : args.all noStar = true) (hl : args.length < 29) (hp : (apos.endLine == pos.line) = true) :
    eval (.Call (.Attribute o m apos) args [] pos) env = (do
      let ov ← eval o env
      standAt apos.atName
      let (f, first) ← holding [ov] (getMethod ov m (do return (← importBound o env).getD true))
      callWith pos f first (backTo pos (starEach args env)) (backToKw pos (keywordEach [] env))) := by
  have hform : methodCallForm (args.length + ([] : List Keyword).length) (backTo pos (starEach args env)) (backToKw pos (keywordEach [] env)) = true := by
    unfold methodCallForm
    rw [star_all pos hs]
    show (true && true && decide (args.length + 0 + 0 < 30)) = true
    rw [decide_eq_true (by omega)]; rfl
  rw [arm_eval_Call, base_ok hb]
  unfold methodCall calleeOf methodCallPos
  simp only [hform, hp, if_true, Bool.not_true, Bool.or_true, pure_bind]
end

/-! ### the small text -/
inductive T where
  | nil | cons (a b : T)
  | var (i : Nat) | glb (x : Str)
  | int (i : Int) | str (x : Str) | bl (b : Bool) | non
  | bin (p : Bop) (a b : T) | cmp (p : Cop) (a b : T) | chain (p q : Cop) (a b c : T)
  | neg (a : T) | nt (a : T) | and (a b : T) | or (a b : T) | ife (t a b : T)
  | tup (as : T) | lst (as : T) | sub (a b : T) | sli (a lo hi : T) | rev (a : T)
  | call (f : Str) (as : T) | blt (p : Blt) (as : T) | mth (p : Mth) (o as : T)
  | lc (own : List Nat) (tg it ts el : T)
  | fst (as : T) | fmt (a : T) | isi (p : Ity) (a : T)
  | irng (as : T) | ienum (as : T) | izip (as : T)
  | asg (tg e : T) | alc (i : Nat) (own : List Nat) (tg it ts el : T) | aug (i : Nat) (p : Bop) (e : T) | par (i j : Nat) (as : T) | par3 (i j k : Nat) (as : T)
  | ifs (t a b : T) | whl (n : Nat) (t b : T) | for_ (tg it b : T)
  | ret (e : T) | retN | ex (e : T) | pas | brk | cnt
  | fld (o : T) (f : Str) | fasg (o : T) (f : Str) (e : T) | faug (o : T) (f : Str) (p : Bop) (e : T)
  | meth (C m x : Str) (o as : T) | make (C x : Str) (as : T) | cald (f : Str) (as : T)
  | stkE | stk
  | rai (C : Str) | try_ (b : T) (C : Str) (i j : Nat) | thru (b : T)
  | kcall (f : Str) (ks : List Str) (as kas : T) | kmake (C x : Str) (ks : List Str) (as kas : T)
  | lrg (a : T)
  | lc2 (own : List Nat) (tg it ts tg1 it1 ts1 el : T) | sls (a lo hi : T)

/-- the program around: its defs and constants -/
structure PSt where
  ar : Str → Nat
  fns : List Str
  gls : List Str
  dfl : Str → Nat → List D
  cal : List (Str × Nat)
  mts : List (Str × Str × Str)
  mks : List (Str × Str)
  fls : List (Str × Str)
  xcl : List Str
  xms : List (Str × Str × Bool)
  kal : List (Str × Nat × List Str)
  kpl : Str → Nat → List Str → List KS
structure PEnv where
  F : Str → List D → Store → O D
  G : Str → Option D
  st : PSt
/-- the slots that a target stores -/
def slots : T → List Nat
  | .var i => [i]
  | .tup as => slots as
  | .cons x r => slots x ++ slots r
  | _ => []

def lenT : T → Nat
  | .cons _ r => lenT r + 1
  | _ => 0
structure Sm where
  e : SE := fun _ _ => .no
  a : SA := fun _ _ => .no
  t : ST := fun _ _ => .no
  s : SS := fun _ _ => .no
  b : SS := fun _ _ => .no
  g : SG := fun _ _ _ => .no
  gs : SGs := fun _ _ _ => .no
  i : SI := fun _ _ => .no
  o : SO := fun _ _ => .no
  j : Str → SE := fun _ _ _ => .no
def ofE (f : SE) : Sm := { e := f, t := eTru f, i := iVal f, o := oSome f }
def sem (E : PEnv) : T → Sm
  | .nil => { a := aNil, b := sNil, gs := gsNil, o := oNone, t := tsNil, j := jNil }
  | .cons x r => { a := aCons (sem E x).e (sem E r).a, b := sCons (sem E x).s (sem E r).b, gs := gsCons (sem E x).g (sem E r).gs, t := (sem E x).t, j := jCons (sem E x).e (sem E r).j }
  | .var i => { ofE (eVar i) with g := gVar i }
  | .glb x => ofE fun _ S => match E.G x with | some d => .ok d S | none => .no
  | .int i => ofE (eCst (.int i))
  | .str x => ofE (eCst (.str x))
  | .bl b => ofE (eCst (.bl b))
  | .non => ofE (eCst .non)
  | .bin p a b => ofE (eBin (semBop p) (sem E a).e (sem E b).e)
  | .cmp p a b => ofE (eBin (semCop p) (sem E a).e (sem E b).e)
  | .chain p q a b c => ofE (eChain p q (sem E a).e (sem E b).e (sem E c).e)
  | .neg a => ofE (eNeg (sem E a).e)
  | .nt a => { ofE (eNot (sem E a).e) with t := tNotS (sem E a).t }
  | .and a b => { ofE (eAnd (sem E a).e (sem E b).e) with t := tAndS (sem E a).t (sem E b).t }
  | .or a b => { ofE (eOr (sem E a).e (sem E b).e) with t := tOrS (sem E a).t (sem E b).t }
  | .ife t a b => { ofE (eIf (sem E t).t (sem E a).e (sem E b).e) with t := tIfS' (sem E t).t (sem E a).t (sem E b).t }
  | .tup as => { ofE (eTup (sem E as).a) with g := gTupD (sem E as).gs }
  | .lst as => ofE (eLst (sem E as).a)
  | .sub a b => { ofE (eBin semItem (sem E a).e (sem E b).e) with g := gSubD (sem E a).e (sem E b).e }
  | .sli a lo hi => ofE (eSli (sem E a).e (sem E lo).o (sem E hi).o)
  | .rev a => ofE (eRev (sem E a).e)
  | .call f as => ofE (eL (E.F f) (sem E as).a)
  | .blt p as => ofE (eL (semBlt p) (sem E as).a)
  | .mth p o as => ofE (eM p (sem E o).e (sem E as).a)
  | .lc own tg it ts el => ofE (eLc own (sem E it).i (sem E tg).g (sem E ts).t (sem E el).e)
  | .fst as => ofE ((sem E as).j Str.empty)
  | .fmt a => ofE (eUn fmtD (sem E a).e)
  | .isi p a => ofE (eUn (semIsi p) (sem E a).e)
  | .irng as => { i := iRng (sem E as).a }
  | .ienum as => { i := iEnumD (sem E as).a }
  | .izip as => { i := iZipD (sem E as).a }
  | .asg tg e => { s := sAsg (sem E e).e (sem E tg).g }
  | .alc i own tg it ts el => { s := sAsg (eLc own (sem E it).i (sem E tg).g (sem E ts).t (sem E el).e) (gVar i) }
  | .aug i p e => { s := sAug i p (sem E e).e }
  | .par i j as => { s := sPar i j (sem E as).a }
  | .par3 i j k as => { s := sPar3 i j k (sem E as).a }
  | .ifs t a b => { s := sIf (sem E t).t (sem E a).b (sem E b).b }
  | .whl n t b => { s := wloop (sem E t).t (sem E b).b n }
  | .for_ tg it b => { s := sFor (sem E it).i (sem E tg).g (sem E b).b }
  | .ret e => { s := sRet (sem E e).e }
  | .retN => { s := sRetN }
  | .ex e => { s := sEx (sem E e).e }
  | .pas => { s := sNil }
  | .brk => { s := sBrk }
  | .cnt => { s := sCnt }
  | .fld o f => ofE (eFld E.st.fls (sem E o).e f)
  | .fasg o f e => { s := sFasg E.st.fls (sem E o).e f (sem E e).e }
  | .faug o f p e => { s := sFaug E.st.fls (sem E o).e f p (sem E e).e }
  | .meth C m x o as => ofE (eMeth C m (E.F x) (E.st.dfl x (lenT as + 1)) (sem E o).e (sem E as).a)
  | .make C x as => ofE (eMake C (E.F x) (E.st.dfl x (lenT as + 1)) (sem E as).a)
  | .cald f as => ofE (eL (fun ds S => E.F f (ds ++ E.st.dfl f (lenT as)) S) (sem E as).a)
  | .stkE => ofE fun _ _ => .no
  | .stk => { s := fun _ _ => .no }
  | .rai C => { s := sRai C }
  | .try_ b C i j => { s := sTry E.st.xms (sem E b).b C i j }
  | .thru b => { s := sThru (sem E b).b }
  | .kcall f ks as kas => ofE (eKw (E.F f) (E.st.kpl f (lenT as) ks) (sem E as).a (sem E kas).a)
  | .kmake C x ks as kas => ofE (eMkw C (E.F x) (E.st.kpl x (lenT as + 1) ks) (sem E as).a (sem E kas).a)
  | .lrg a => ofE (eLrg (sem E a).e)
  | .lc2 own tg it ts tg1 it1 ts1 el => ofE (eLc2 own (slots tg1) (sem E it).i (sem E tg).g (sem E ts).t (sem E it1).i (sem E tg1).g (sem E ts1).t (sem E el).e)
  | .sls a lo hi => { g := gSlD (sem E a).e (sem E lo).o (sem E hi).o }

/-! ### the look at the text -/
structure C0 where
  N : List Str
  sc : Scope
  top : Bool
def visB (c : C0) (x : Str) (i : Nat) : Bool := decide (c.N[i]? = some x) && (match c.sc.names.lookup x with | some .local => true | some .cell => true | some .free => true | _ => false) && !(x == ("__debug__" : Str)) && !(x == ("__classdict__" : Str))
def locB (c : C0) (x : Str) (i : Nat) : Bool := decide (c.N[i]? = some x) && (match c.sc.names.lookup x with | some .local => true | some .cell => c.top | _ => false)
def lclB (c : C0) (x : Str) (i : Nat) : Bool := decide (c.N[i]? = some x) && (match c.sc.names.lookup x with | some .local => true | _ => false)
def glB (c : C0) (x : Str) : Bool := (match c.sc.names.lookup x with | some .globalImplicit => true | _ => false) && !(x == ("__debug__" : Str)) && decide (x ≠ ("__name__" : Str))
/-- a target that raises nothing -/
def calmT : T → Bool
  | .var _ => true
  | .tup as => calmT as
  | .cons x r => calmT x && calmT r
  | .nil => true
  | _ => false
structure Ck where
  e : C0 → Expr → Bool := fun _ _ => false
  a : C0 → List Expr → Bool := fun _ _ => false
  ts : C0 → List Expr → Bool := fun _ _ => false
  s : C0 → Stmt → Bool := fun _ _ => false
  b : C0 → List Stmt → Bool := fun _ _ => false
  g : C0 → Expr → Bool := fun _ _ => false
  gs : C0 → List Expr → Bool := fun _ _ => false
  i : C0 → Expr → Expr → Bool := fun _ _ _ => false
  o : C0 → Option Expr → Bool := fun _ _ => false
  j : C0 → List Expr → Bool := fun _ _ => false
def ckE (p : C0 → Expr → Bool) : Ck := { e := p, i := fun c _ e => p c e, o := fun c o => match o with | some e => p c e | none => false }
def ckLc (K : C0 → Expr → Expr → Bool) (g : C0 → Expr → Bool) (ts : C0 → List Expr → Bool) (el : C0 → Expr → Bool) (own is : List Nat) : C0 → Expr → Bool := fun c e => match e with
  | .ListComp elt [⟨tg, iter, ifs, 0⟩] scope _ =>
    let own' := own.filterMap fun i => (c.N[i]?).map fun x => (x, i)
    let c' : C0 := ⟨c.N, relS scope c.sc, false⟩
    decide (own'.map (·.2) = own) && blkC c.N c.sc scope own' && K c tg iter && noSet iter && g c' tg && ts c' ifs && el c' elt && is.all fun i => decide (i ∈ own)
  | _ => false
def ckLc2 (K : C0 → Expr → Expr → Bool) (g : C0 → Expr → Bool) (ts : C0 → List Expr → Bool) (K1 : C0 → Expr → Expr → Bool) (g1 : C0 → Expr → Bool) (ts1 : C0 → List Expr → Bool) (el : C0 → Expr → Bool) (own is is1 : List Nat) : C0 → Expr → Bool := fun c e => match e with
  | .ListComp elt [⟨tg, iter, ifs, 0⟩, ⟨tg1, iter1, ifs1, 0⟩] scope _ =>
    let own' := own.filterMap fun i => (c.N[i]?).map fun x => (x, i)
    let c' : C0 := ⟨c.N, relS scope c.sc, false⟩
    decide (own'.map (·.2) = own) && blkC c.N c.sc scope own' && K c tg iter && noSet iter && g c' tg && ts c' ifs && K1 c' tg1 iter1 && noSet iter1 && g1 c' tg1 && ts1 c' ifs1 && el c' elt && (is.all fun i => decide (i ∈ own)) && is1.all fun i => decide (i ∈ own)
  | _ => false
def swB (c : C0) (y : Str) (pl : Nat) : Expr → Bool
  | .ListComp _ _ scope pos => (match c.sc.names.lookup y with | some .local => true | _ => false) && (pl == pos.line) && !(scope.names.any fun (n, k) => n == y && (k == .local || k == .cell))
  | _ => false
/-- two or three plain local names at once -/
def parB (c : C0) (ts vs : List Expr) (xs : List Str) : Bool :=
  vs.all noStar && (ts.all fun t => match t with | .Name x p => (c.sc.names.lookup x == some .local) && (p.line == (ts.head?.map (·.pos.line)).getD 0) | _ => false) && decide (xs.eraseDups.length = xs.length) && !(vs.all (foldedForSure 8)) && !(vs.all (constantsAlone 8))
def chk (E : PSt) : T → Ck
  | .nil => { a := fun _ es => es.isEmpty, b := fun _ es => es.isEmpty, gs := fun _ es => es.isEmpty, o := fun _ o => o.isNone, ts := fun _ es => es.isEmpty, j := fun _ es => es.isEmpty }
  | .cons x r => {
      a := fun c es => match es with | e :: es => noStar e && (chk E x).e c e && (chk E r).a c es | [] => false
      b := fun c es => match es with | e :: es => (chk E x).s c e && (chk E r).b c es | [] => false
      gs := fun c es => match es with | e :: es => calmT x && noStar e && (chk E x).g c e && (chk E r).gs c es | [] => false
      ts := fun c es => match es with | [e] => (chk E x).e c e | _ => false
      j := fun c es => match es with | e :: es => (chk E x).e c e && (chk E r).j c es | [] => false }
  | .var i => { ckE (fun c e => match e with | .Name x _ => visB c x i | _ => false) with g := fun c e => match e with | .Name x _ => locB c x i | _ => false }
  | .glb y => ckE fun c e => match e with | .Name x _ => decide (x = y) && glB c x && decide (x ∈ E.gls) | _ => false
  | .int i => ckE fun _ e => match e with | .Constant (.int j) _ _ => decide (i = j) | _ => false
  | .str x => ckE fun _ e => match e with | .Constant (.str y) _ _ => decide (x = y) | _ => false
  | .bl b => ckE fun _ e => match e with | .Constant (.bool y) _ _ => decide (b = y) | _ => false
  | .non => ckE fun _ e => match e with | .Constant .none _ _ => true | _ => false
  | .bin p a b => ckE fun c e => match e with | .BinOp l op r _ => decide (op = p.op) && (chk E a).e c l && (chk E b).e c r | _ => false
  | .cmp p a b => ckE fun c e => match e with | .Compare l [op] [r] _ => decide (op = p.op) && (chk E a).e c l && (chk E b).e c r && noSet r | _ => false
  | .chain p q a b d => ckE fun c e => match e with | .Compare l [op, op'] [r, r'] _ => decide (op = p.op) && decide (op' = q.op) && (chk E a).e c l && (chk E b).e c r && (chk E d).e c r' && noSet r' | _ => false
  | .neg a => ckE fun c e => match e with | .UnaryOp .USub x _ => (chk E a).e c x | _ => false
  | .nt a => ckE fun c e => match e with | .UnaryOp .Not x _ => (chk E a).e c x | _ => false
  | .and a b => ckE fun c e => match e with | .BoolOp .And [x, y] _ => (chk E a).e c x && (chk E b).e c y | .BoolOp .And (x :: y :: z :: r) p => (chk E a).e c x && (chk E b).e c (.BoolOp .And (y :: z :: r) p) | _ => false
  | .or a b => ckE fun c e => match e with | .BoolOp .Or [x, y] _ => (chk E a).e c x && (chk E b).e c y | .BoolOp .Or (x :: y :: z :: r) p => (chk E a).e c x && (chk E b).e c (.BoolOp .Or (y :: z :: r) p) | _ => false
  | .ife t a b => ckE fun c e => match e with | .IfExp x y z _ => (chk E t).e c x && (chk E a).e c y && (chk E b).e c z | _ => false
  | .tup as => { ckE (fun c e => match e with | .Tuple es _ _ => (chk E as).a c es | _ => false) with g := fun c e => match e with | .Tuple es _ _ => (chk E as).gs c es | _ => false }
  | .lst as => ckE fun c e => match e with | .List es _ => (chk E as).a c es | _ => false
  | .sub a b => { ckE (fun c e => match e with | .Subscript x y _ => (chk E a).e c x && (chk E b).e c y && noSlice y | _ => false) with g := fun c e => match e with | .Subscript x y _ => (chk E a).e c x && (chk E b).e c y && noSlice y | _ => false }
  | .sli a lo hi => ckE fun c e => match e with | .Subscript x (.Slice l h none _) _ => (chk E a).e c x && (chk E lo).o c l && (chk E hi).o c h | _ => false
  | .rev a => ckE fun c e => match e with | .Subscript x (.Slice none none (some (.UnaryOp .USub (.Constant (.int 1) _ _) _)) _) _ => (chk E a).e c x | _ => false
  | .call f as => ckE fun c e => match e with | .Call (.Name x _) es [] _ => decide (x = f) && glB c x && decide (x ∈ E.fns) && (decide (es.length = E.ar f) && decide ((f, es.length) ∈ E.cal)) && (chk E as).a c es && es.all noStar | _ => false
  | .blt p as => ckE fun c e => match e with | .Call (.Name x _) (e :: es) [] _ => decide (x = p.name) && glB c x && (chk E as).a c (e :: es) && (e :: es).all noStar | _ => false
  | .mth p o as => ckE fun c e => match e with | .Call (.Attribute x n q) es [] r => decide (n = p.name) && (q.endLine == r.line) && noCall0 x && (chk E o).e c x && (chk E as).a c es && es.all noStar && decide (es.length < 29) | _ => false
  | .lc own tg it ts el => ckE (ckLc (chk E it).i (chk E tg).g (chk E ts).ts (chk E el).e own (slots tg))
  | .fst as => ckE fun c e => match e with | .JoinedStr (x :: y :: r) _ => (chk E as).j c (x :: y :: r) | _ => false
  | .fmt a => ckE fun c e => match e with | .FormattedValue x (-1) none _ => (chk E a).e c x | _ => false
  | .isi p a => ckE fun c e => match e with | .Call (.Name x _) [y, .Name z _] [] _ => decide (x = ("isinstance" : Str)) && decide (z = (p.nm : Str)) && glB c x && glB c z && (chk E a).e c y && noStar y | _ => false
  | .irng as => { i := fun c _ e => match e with | .Call (.Name x _) es [] _ => decide (x = ("range" : Str)) && glB c x && (chk E as).a c es && es.all noStar && (es.length == 1 || es.length == 2 || es.length == 3) | _ => false }
  | .ienum as => { i := fun c t e => match e with | .Call (.Name x _) es [] _ => decide (x = ("enumerate" : Str)) && !(noTup t) && glB c x && (chk E as).a c es && es.all noStar && es.length == 1 | _ => false }
  | .izip as => { i := fun c t e => match e with | .Call (.Name x _) es [] _ => decide (x = ("zip" : Str)) && !(noTup t) && glB c x && (chk E as).a c es && es.all noStar && es.length == 2 | _ => false }
  | .asg tg e => { s := fun c s => match s with
      | .Assign [.Name x p] v q => (chk E e).e c v && (noComp v || (match c.sc.names.lookup x with | some .local => false | _ => true)) && (chk E tg).g c (.Name x p) && (match tg with | .var i => locB c x i | _ => false)
      | .Assign [t] v _ => (chk E e).e c v && noComp v && (noTup v || isSub t) && (chk E tg).g c t
      | _ => false }
  | .alc i own tg it ts el => { s := fun c s => match s with
      | .Assign [.Name y p] v q => ckLc (chk E it).i (chk E tg).g (chk E ts).ts (chk E el).e own (slots tg) c v && lclB c y i && swB c y p.line v
      | _ => false }
  | .aug i p e => { s := fun c s => match s with | .AugAssign (.Name x _) op v _ => decide (op = p.op) && (p == .add || p == .sub) && locB c x i && (chk E e).e c v | _ => false }
  | .par i j as => { s := fun c s => match s with
      | .Assign [.Tuple [.Name x p, .Name y p'] k1 q1] (.Tuple vs k2 q2) _ => lclB c x i && lclB c y j && decide (i ≠ j) && (chk E as).a c vs && (vs.length == 2) && parB c [.Name x p, .Name y p'] vs [x, y]
      | _ => false }
  | .par3 i j k as => { }
  | .ifs t a b => { s := fun c s => match s with | .If x y z _ => (chk E t).e c x && (chk E a).b c y && (chk E b).b c z | _ => false }
  | .whl _ t b => { s := fun c s => match s with | .While x y [] _ => (chk E t).e c x && (chk E b).b c y | _ => false }
  | .for_ tg it b => { s := fun c s => match s with | .For x y z [] _ => (chk E it).i c x y && noSet y && (chk E tg).g c x && (chk E b).b c z | _ => false }
  | .ret e => { s := fun c s => match s with | .Return (some x) _ => (chk E e).e c x | _ => false }
  | .retN => { s := fun c s => match s with | .Return none _ => true | _ => false }
  | .ex e => { s := fun c s => match s with | .Expr x _ => (chk E e).e c x && noComp x | _ => false }
  | .pas => { s := fun c s => match s with | .Pass _ => true | _ => false }
  | .brk => { s := fun c s => match s with | .Break _ => true | _ => false }
  | .cnt => { s := fun c s => match s with | .Continue _ => true | _ => false }
  | .fld o f => ckE fun c e => match e with | .Attribute x n _ => decide (n = f) && noCall0 x && (chk E o).e c x | _ => false
  | .fasg o f e => { s := fun c s => match s with
      | .Assign [.Attribute x n _] v _ => decide (n = f) && (chk E o).e c x && (chk E e).e c v && noComp v
      | _ => false }
  | .faug o f p e => { s := fun c s => match s with
      | .AugAssign (.Attribute x n _) op v _ => decide (n = f) && decide (op = p.op) && (p == .add || p == .sub) && (chk E o).e c x && (chk E e).e c v
      | _ => false }
  | .meth C m x o as => ckE fun c e => match e with | .Call (.Attribute y n q) es [] r => decide (n = m) && (q.endLine == r.line) && noCall0 y && (chk E o).e c y && (chk E as).a c es && es.all noStar && decide (es.length < 29) && decide ((C, m, x) ∈ E.mts) && decide ((x, es.length + 1) ∈ E.cal) && decide (es.length = lenT as) | _ => false
  | .make C x as => ckE fun c e => match e with | .Call (.Name y _) es [] _ => decide (y = C) && glB c y && (chk E as).a c es && es.all noStar && decide ((C, x) ∈ E.mks) && decide ((x, es.length + 1) ∈ E.cal) && decide (es.length = lenT as) | _ => false
  | .cald f as => ckE fun c e => match e with | .Call (.Name x _) es [] _ => decide (x = f) && glB c x && decide (x ∈ E.fns) && (chk E as).a c es && es.all noStar && decide ((x, es.length) ∈ E.cal) && decide (es.length = lenT as) | _ => false
  | .stkE => ckE fun _ e => plainT e
  | .stk => { s := fun _ _ => true }
  | .rai C => { s := fun c s => match s with | .Raise (some (.Call (.Name x _) [] [] _)) none _ => decide (x = C) && glB c x && decide (C ∈ E.xcl) | _ => false }
  | .try_ b C i j => { s := fun c s => match s with
      | .Try body [.ExceptHandler (some (.Name x _)) (some n) [.Assign [.Name v _] (.Name n' _) _] _] [] [] _ => (chk E b).b c body && decide (x = C) && glB c x && decide (n' = n) && lclB c n i && lclB c v j && !(n == ("__debug__" : Str)) && !(n == ("__classdict__" : Str)) && c.top && decide (C ∈ E.xms.map (·.2.1))
      | _ => false }
  | .thru b => { s := fun c s => match s with | .Try body (_ :: _) [] [] _ => (chk E b).b c body | _ => false }
  | .kcall f ks as kas => ckE fun c e => match e with | .Call (.Name x _) es (w :: ws) _ => decide (x = f) && glB c x && decide (x ∈ E.fns) && (chk E as).a c es && es.all noStar && (chk E kas).a c ((w :: ws).map Keyword.value) && decide ((w :: ws).map Keyword.arg = ks.map some) && decide ((x, es.length, ks) ∈ E.kal) && decide (es.length = lenT as) | _ => false
  | .kmake C x ks as kas => ckE fun c e => match e with | .Call (.Name y _) es (w :: ws) _ => decide (y = C) && glB c y && (chk E as).a c es && es.all noStar && (chk E kas).a c ((w :: ws).map Keyword.value) && decide ((w :: ws).map Keyword.arg = ks.map some) && decide ((C, x) ∈ E.mks) && decide ((x, es.length + 1, ks) ∈ E.kal) && decide (es.length = lenT as) | _ => false
  | .lc2 own tg it ts tg1 it1 ts1 el => ckE (ckLc2 (chk E it).i (chk E tg).g (chk E ts).ts (chk E it1).i (chk E tg1).g (chk E ts1).ts (chk E el).e own (slots tg) (slots tg1))
  | .sls a lo hi => { g := fun c e => match e with | .Subscript x (.Slice l h none _) _ => (chk E a).e c x && (chk E lo).o c l && (chk E hi).o c h | _ => false }
  | .lrg a => ckE fun c e => match e with | .Call (.Name x _) [.Call (.Name y _) [z] [] _] [] _ => decide (x = ("list" : Str)) && glB c x && decide (y = ("range" : Str)) && glB c y && (chk E a).e c z && noStar z | _ => false

/-! ### where one stands -/
def bltNames : List Str := ["len", "abs", "max", "min", "int", "str", "ord", "list", "tuple", "all", "any", "sum", "range", "enumerate", "zip", "isinstance", "bool", "sorted", "repr", "dict", "set"]
/-- a def as it is promised, the ways it may be called -/
structure FnAt (P : Program) (w : World) (K : PySem.W.Frag) (mg : Str → Option Value) (base : Heap) (st : PSt) (x : Str) (k : Nat) (a : Addr) (fd : FuncData) (ps : List Str) (F : List D → Store → O D) : Prop where
  len : ps.length = st.ar x
  ok : Fg.FnG P w K mg base (L2.CX P w) k a fd ps (spD ⟨K, w⟩ (st.ar x) F)
  cal : ∀ n, (x, n) ∈ st.cal → ∃ ds dvs, Binds K fd ps ds ∧ Vals dvs ds ∧ (∀ m H, RVs ⟨K, w⟩ m H (st.dfl x n) dvs) ∧ n + (st.dfl x n).length = st.ar x
  kwd : ∀ n ks, (x, n, ks) ∈ st.kal → KwOk ⟨K, w⟩ fd ps n ks (st.kpl x n ks)
theorem FnAt.full {P : Program} {w : World} {K : PySem.W.Frag} {mg : Str → Option Value} {base : Heap} {st : PSt} {x : Str} {k n : Nat} {a : Addr} {fd : FuncData} {ps : List Str} {F : List D → Store → O D} (A : FnAt P w K mg base st x k a fd ps F) (h : (x, n) ∈ st.cal) (e : n = st.ar x) : Binds K fd ps [] := by
  obtain ⟨ds, dvs, b1, b2, b3, b4⟩ := A.cal n h
  have h0 : st.dfl x n = [] := List.length_eq_zero_iff.mp (by omega)
  have r := b3 [] fun _ => none
  rw [h0] at r
  cases r
  cases b2
  exact b1
structure Good (E : PEnv) (k : Nat) (c : C0) (X : Cx) (W : WX) : Prop where
  hN : X.N = c.N
  nd : c.N.Nodup
  sc : X.env.scope = c.sc
  kd : c.sc.kind = .function
  calm : X.calm = true
  fn : c.top = true → ∀ x, X.fn x = true
  tp : c.top = true → X.stack = X.env :: X.outer ∧ X.env.frame = some X.env.locals
  tk : Takes X W
  po : PassesOwn (model X.prog X.w) X.A X.env X.xe
  room : Room (k + 1) X.A
  gd : X.A.guards = some []
  fns : ∀ f ∈ E.st.fns, ∃ a fd ps, X.mg f = some (.ref a) ∧ PySem.W.keepIn X.K (.ref a) = true ∧ FnAt X.prog X.w X.K X.mg X.base E.st f k a fd ps (E.F f)
  mts : ∀ C m x, (C, m, x) ∈ E.st.mts → ∃ c a fd ps, clsOf (kw X) C c ∧ Cls X.K c ∧ Meth X.K c m a ∧ FnAt X.prog X.w X.K X.mg X.base E.st x k a fd ps (E.F x)
  mks : ∀ C x, (C, x) ∈ E.st.mks → ∃ c a fd ps, X.mg C = some (.ref c) ∧ clsOf (kw X) C c ∧ Mk X.K c a ∧ FnAt X.prog X.w X.K X.mg X.base E.st x k a fd ps (E.F x)
  fls : FlOk X E.st.fls
  xcl : ∀ C ∈ E.st.xcl, ∃ c, X.mg C = some (.ref c) ∧ clsOf (kw X) C c ∧ XcC X.K c
  xms : XmOk X E.st.xms
  gls : ∀ x ∈ E.st.gls, ∃ d u v, E.G x = some d ∧ X.mg x = some u ∧ RelV v u ∧ ∀ m H, RV (kw X) m H d v
  blt : ∀ x ∈ bltNames, X.mg x = none
end Mz

end

section
set_option Elab.async false
set_option linter.all false
set_option maxRecDepth 100000
set_option maxHeartbeats 4000000
namespace Mz
open PySem PySem.Spec L2

structure Snd (E : PEnv) (k : Nat) (u : T) : Prop where
  e : ∀ {c X W e}, Good E k c X W → (chk E.st u).e c e = true → PE X e (tD (kw X) W (sem E u).e)
  t : ∀ {c X W e}, Good E k c X W → (chk E.st u).e c e = true → PT X e (tDT (kw X) W (sem E u).t)
  w : ∀ {c X W op vs pos}, Good E k c X W → (chk E.st u).e c (.BoolOp op vs pos) = true → PW X (.BoolOp op vs pos) (tDT (kw X) W (sem E u).t)
  a : ∀ {c X W es}, Good E k c X W → (chk E.st u).a c es = true → PA X es (tDA (kw X) W (sem E u).a) ∧ ∀ g S ds S', (sem E u).a g S = .ok ds S' → ds.length = es.length
  ts : ∀ {c X W es}, Good E k c X W → (chk E.st u).ts c es = true → PTs X es (tDT (kw X) W (sem E u).t)
  s : ∀ {c X W st}, Good E k c X W → (chk E.st u).s c st = true → PS X st (tDS (kw X) W (sem E u).s)
  b : ∀ {c X W st}, Good E k c X W → (chk E.st u).b c st = true → PSs X st (tDS (kw X) W (sem E u).b)
  g : ∀ {c X W e}, Good E k c X W → (chk E.st u).g c e = true → PG X e (tDG (kw X) W (slots u) (sem E u).g)
  gs : ∀ {c X W es}, Good E k c X W → (chk E.st u).gs c es = true → PGs X es (tDGs (kw X) W (slots u) (sem E u).gs) ∧ es.all noStar = true ∧ (∀ ds g S g' S', (sem E u).gs ds g S = .ok g' S' → ds.length = es.length) ∧ calmGs (sem E u).gs
  i : ∀ {c X W tg e}, Good E k c X W → (chk E.st u).i c tg e = true → PI X tg e (tDI (kw X) W (sem E u).i)
  o : ∀ {c X W o}, Good E k c X W → (chk E.st u).o c o = true → PO X o (tDO (kw X) W (sem E u).o)
  ak : ∀ {c X W kws}, Good E k c X W → (chk E.st u).a c (kws.map Keyword.value) = true → PK X kws (tDA (kw X) W (sem E u).a)
  j : ∀ {c X W es}, Good E k c X W → (chk E.st u).j c es = true → ∃ ts, PJ X es ts ∧ ∀ acc σ H Q, tD (kw X) W ((sem E u).j acc) σ H Q → tJs ts acc σ H fun out H1 => Q (.str out) H1

theorem takeN {X : Cx} : Takes X W0 := fun _ _ x => by
  obtain ⟨_, _, _, _, _, _, _, _, _, _, _, _, _, _, _, _, z⟩ := x
  exact z.elim
theorem Good.blk {E : PEnv} {k : Nat} {c : C0} {X : Cx} {W : WX} (G : Good E k c X W) (scope : Scope) (hk : scope.kind = .function) (s : Shared) (H : Hp) (C : Addr) (cl : List (Str × Addr)) (fp : List Addr) : Good E k ⟨c.N, relS scope c.sc, false⟩ (X.blk s H scope (compEnvC scope cl C X.env) fp) W0 where
  hN := G.hN
  nd := G.nd
  sc := by
    show relabel scope X.env = relS scope c.sc
    unfold relabel relS
    rw [← G.sc]
    rfl
  kd := hk
  calm := G.calm
  fn := fun h => by cases h
  tp := fun h => by cases h
  tk := takeN
  po := PassesOwn.never
  room := G.room
  gd := G.gd
  fns := G.fns
  mts := G.mts
  mks := G.mks
  fls := G.fls
  xcl := G.xcl
  xms := G.xms
  gls := G.gls
  blt := G.blt
/-- calm targets -/
theorem calm_ok {E : PEnv} : ∀ t : T, calmT t = true → calmG (sem E t).g ∧ calmGs (sem E t).gs := by
  intro t
  induction t with
  | var i => exact fun _ => ⟨fun d g S x S' e => (by cases e), fun d g S x S' e => (by cases e)⟩
  | nil => exact fun _ => ⟨fun d g S x S' e => (by cases e), fun d g S x S' e => by cases d <;> cases e⟩
  | tup as ih =>
    intro h
    refine ⟨fun d g S x S' e => ?_, fun d g S x S' e => by cases e⟩
    cases d with
    | tup xs => exact (ih h).2 xs g S x S' e
    | _ => cases e
  | cons a b ia ib =>
    intro h
    have h : (calmT a && calmT b) = true := h
    simp only [Bool.and_eq_true] at h
    refine ⟨fun d g S x S' e => (by cases e), fun d g S x S' e => ?_⟩
    cases d with
    | nil => cases e
    | cons d ds =>
      have e : ((sem E a).g d g S).bind (fun g S => (sem E b).gs ds g S) = .ex x S' := e
      cases q : (sem E a).g d g S with
      | ok g1 S1 => rw [q] at e; exact (ib h.2).2 _ _ _ _ _ e
      | ex x1 S1 => exact (ia h.1).1 _ _ _ _ _ q
      | no => rw [q] at e; cases e
  | _ => intro h; cases h

section
variable {E : PEnv} {k : Nat} {c : C0} {X : Cx} {W : WX}
theorem vis_of (G : Good E k c X W) {x : Str} {i : Nat} (h : visB c x i = true) : X.N[i]? = some x ∧ Vis X.env.scope x ∧ (x == ("__debug__" : Str)) = false ∧ (x == ("__classdict__" : Str)) = false := by
  unfold visB at h
  simp only [Bool.and_eq_true, decide_eq_true_eq, Bool.not_eq_true'] at h
  obtain ⟨⟨⟨h1, h2⟩, h3⟩, h4⟩ := h
  refine ⟨by rw [G.hN]; exact h1, ?_, h3, h4⟩
  rw [G.sc]
  unfold Vis
  split at h2 <;> first | cases h2 | skip
  · exact .inl (by assumption)
  · exact .inr (.inl (by assumption))
  · exact .inr (.inr (by assumption))
theorem loc_of (G : Good E k c X W) {x : Str} {i : Nat} (h : locB c x i = true) : X.N.Nodup ∧ X.N[i]? = some x ∧ L2.Loc X.env.scope x ∧ (X.fn x = true ∨ X.env.scope.names.lookup x = some .local) := by
  unfold locB at h
  simp only [Bool.and_eq_true, decide_eq_true_eq] at h
  obtain ⟨h1, h2⟩ := h
  refine ⟨by rw [G.hN]; exact G.nd, by rw [G.hN]; exact h1, ?_⟩
  rw [G.sc]
  unfold L2.Loc
  split at h2 <;> first | cases h2 | skip
  · exact ⟨.inl (by assumption), .inr (by assumption)⟩
  · exact ⟨.inr (by assumption), .inl (G.fn h2 x)⟩
theorem lcl_of (G : Good E k c X W) {x : Str} {i : Nat} (h : lclB c x i = true) : X.N.Nodup ∧ X.N[i]? = some x ∧ X.env.scope.names.lookup x = some .local := by
  unfold lclB at h
  simp only [Bool.and_eq_true, decide_eq_true_eq] at h
  obtain ⟨h1, h2⟩ := h
  refine ⟨by rw [G.hN]; exact G.nd, by rw [G.hN]; exact h1, ?_⟩
  rw [G.sc]
  split at h2 <;> first | cases h2 | skip
  assumption
theorem gl_of (G : Good E k c X W) {x : Str} (h : glB c x = true) : Gl X x ∧ (x == ("__debug__" : Str)) = false ∧ x ≠ "__name__" := by
  unfold glB at h
  simp only [Bool.and_eq_true, decide_eq_true_eq, Bool.not_eq_true'] at h
  obtain ⟨⟨h1, h2⟩, h3⟩ := h
  refine ⟨?_, h2, h3⟩
  show X.env.scope.names.lookup x = some .globalImplicit
  rw [G.sc]
  split at h1 <;> first | cases h1 | skip
  assumption

/-- an expression's form: all from its PE -/
theorem sndE {t : T} {p : C0 → Expr → Bool} {f : SE} (hc : chk E.st t = ckE p) (hs : sem E t = ofE f) (he : ∀ {c X W e}, Good E k c X W → p c e = true → PE X e (tD (kw X) W f))
    (ht : ∀ {c X W e}, Good E k c X W → p c e = true → plainT e = false → PT X e (tDT (kw X) W (eTru f))) (hw : ∀ {c op vs pos}, p c (.BoolOp op vs pos) = false) : Snd E k t := by
  refine ⟨fun {c X W e} G h => ?_, fun {c X W e} G h => ?_, fun {c X W op vs pos} G h => ?_, fun {c X W es} G h => ?_, fun {c X W es} G h => ?_, fun {c X W es} G h => ?_, fun {c X W es} G h => ?_, fun {c X W es} G h => ?_, fun {c X W es} G h => ?_, fun {c X W tg e} G h => ?_, fun {c X W o} G h => ?_, fun {c X W kws} G h => ?_, fun {c X W es} G h => ?_⟩
  · rw [hc] at h; rw [hs]; exact he G h
  · rw [hc] at h; rw [hs]
    cases hp : plainT e with
    | true => exact me_truth (he G h) (plain_ok hp)
    | false => exact ht G h hp
  · rw [hc] at h
    have : p c (.BoolOp op vs pos) = true := h
    rw [hw] at this; cases this
  · rw [hc] at h; cases h
  · rw [hc] at h; cases h
  · rw [hc] at h; cases h
  · rw [hc] at h; cases h
  · rw [hc] at h; cases h
  · rw [hc] at h; cases h
  · rw [hc] at h; rw [hs]; exact mi_val (he G h)
  · rw [hc] at h; rw [hs]
    cases o with
    | none => cases h
    | some e => exact mo_some (he G h)
  · rw [hc] at h; cases h
  · rw [hc] at h; cases h
/-- a statement's -/
theorem sndS {t : T} {p : C0 → Stmt → Bool} {f : SS} (hc : chk E.st t = { s := p }) (hs : sem E t = { s := f }) (he : ∀ {c X W st}, Good E k c X W → p c st = true → PS X st (tDS (kw X) W f)) : Snd E k t := by
  refine ⟨fun {c X W e} G h => ?_, fun {c X W e} G h => ?_, fun {c X W op vs pos} G h => ?_, fun {c X W es} G h => ?_, fun {c X W es} G h => ?_, fun {c X W es} G h => ?_, fun {c X W es} G h => ?_, fun {c X W es} G h => ?_, fun {c X W es} G h => ?_, fun {c X W tg e} G h => ?_, fun {c X W o} G h => ?_, fun {c X W kws} G h => ?_, fun {c X W es} G h => ?_⟩
  all_goals rw [hc] at h
  case refine_6 => rw [hs]; exact he G h
  all_goals cases h
theorem sndI {t : T} {p : C0 → Expr → Expr → Bool} {f : SI} (hc : chk E.st t = { i := p }) (hs : sem E t = { i := f }) (he : ∀ {c X W tg e}, Good E k c X W → p c tg e = true → PI X tg e (tDI (kw X) W f)) : Snd E k t := by
  refine ⟨fun {c X W e} G h => ?_, fun {c X W e} G h => ?_, fun {c X W op vs pos} G h => ?_, fun {c X W es} G h => ?_, fun {c X W es} G h => ?_, fun {c X W es} G h => ?_, fun {c X W es} G h => ?_, fun {c X W es} G h => ?_, fun {c X W es} G h => ?_, fun {c X W tg e} G h => ?_, fun {c X W o} G h => ?_, fun {c X W kws} G h => ?_, fun {c X W es} G h => ?_⟩
  all_goals rw [hc] at h
  case refine_10 => rw [hs]; exact he G h
  all_goals cases h

theorem snd_nil : Snd E k .nil := by
  refine ⟨fun {c X W e} G h => ?_, fun {c X W e} G h => ?_, fun {c X W op vs pos} G h => ?_, fun {c X W es} G h => ?_, fun {c X W es} G h => ?_, fun {c X W es} G h => ?_, fun {c X W es} G h => ?_, fun {c X W es} G h => ?_, fun {c X W es} G h => ?_, fun {c X W tg e} G h => ?_, fun {c X W o} G h => ?_, fun {c X W kws} G h => ?_, fun {c X W es} G h => ?_⟩
  · cases h
  · cases h
  · cases h
  · cases es with
    | nil => exact ⟨ma_nil, fun g S ds S' e => by cases e; rfl⟩
    | cons _ _ => cases h
  · cases es with
    | nil => exact mts_nil
    | cons _ _ => cases h
  · cases h
  · cases es with
    | nil => exact mb_nil
    | cons _ _ => cases h
  · cases h
  · cases es with
    | nil => exact ⟨mgs_nil, rfl, fun ds g S g' S' e => (by cases ds with | nil => rfl | cons _ _ => cases e), (calm_ok (E := E) .nil rfl).2⟩
    | cons _ _ => cases h
  · cases h
  · cases o with
    | none => exact mo_none
    | some _ => cases h
  · cases kws with
    | nil => exact mk_nil
    | cons _ _ => cases h
  · cases es with
    | nil => exact ⟨[], .nil, fun acc σ H Q h => js_nil h⟩
    | cons _ _ => cases h
theorem acons_len {f : SE} {r : SA} {n : Nat} (h : ∀ g S ds S', r g S = .ok ds S' → ds.length = n) : ∀ g S ds S', aCons f r g S = .ok ds S' → ds.length = n + 1 := by
  intro g S ds S' e
  unfold aCons at e
  cases e1 : f g S with
  | ok x S1 =>
    rw [e1, O.bind_ok] at e
    cases e2 : r g S1 with
    | ok y S2 => rw [e2, O.bind_ok] at e; cases e; rw [List.length_cons, h _ _ _ _ e2]
    | ex _ _ => rw [e2] at e; cases e
    | no => rw [e2] at e; cases e
  | ex _ _ => rw [e1] at e; cases e
  | no => rw [e1] at e; cases e
theorem gcons_len {f : SG} {r : SGs} {n : Nat} (h : ∀ ds g S g' S', r ds g S = .ok g' S' → ds.length = n) : ∀ ds g S g' S', gsCons f r ds g S = .ok g' S' → ds.length = n + 1 := by
  intro ds g S g' S' e
  cases ds with
  | nil => cases e
  | cons d ds =>
    have e : (f d g S).bind (fun g S => r ds g S) = .ok g' S' := e
    cases e1 : f d g S with
    | ok x S1 => rw [e1, O.bind_ok] at e; rw [List.length_cons, h _ _ _ _ _ e]
    | ex _ _ => rw [e1] at e; cases e
    | no => rw [e1] at e; cases e
theorem snd_cons {x r : T} (ix : Snd E k x) (ir : Snd E k r) : Snd E k (.cons x r) := by
  refine ⟨fun {c X W e} G h => ?_, fun {c X W e} G h => ?_, fun {c X W op vs pos} G h => ?_, fun {c X W es} G h => ?_, fun {c X W es} G h => ?_, fun {c X W es} G h => ?_, fun {c X W es} G h => ?_, fun {c X W es} G h => ?_, fun {c X W es} G h => ?_, fun {c X W tg e} G h => ?_, fun {c X W o} G h => ?_, fun {c X W kws} G h => ?_, fun {c X W es} G h => ?_⟩
  · cases h
  · cases h
  · cases h
  · cases es with
    | nil => cases h
    | cons e es =>
      have h : (noStar e && (chk E.st x).e c e && (chk E.st r).a c es) = true := h
      simp only [Bool.and_eq_true] at h
      exact ⟨ma_cons (ix.e G h.1.2) (ir.a G h.2).1 (star_ok es h.1.1), acons_len (ir.a G h.2).2⟩
  · cases es with
    | nil => cases h
    | cons e es =>
      cases es with
      | nil => exact pts_one (ix.t G h)
      | cons _ _ => cases h
  · cases h
  · cases es with
    | nil => cases h
    | cons e es =>
      have h : ((chk E.st x).s c e && (chk E.st r).b c es) = true := h
      simp only [Bool.and_eq_true] at h
      exact mb_cons (ix.s G h.1) (ir.b G h.2)
  · cases h
  · cases es with
    | nil => cases h
    | cons e es =>
      have h : (calmT x && noStar e && (chk E.st x).g c e && (chk E.st r).gs c es) = true := h
      simp only [Bool.and_eq_true] at h
      obtain ⟨h1, h2, h3, h4⟩ := ir.gs G h.2
      refine ⟨mgs_cons h4 (ix.g G h.1.2) h1 (by rw [asg_each es h.1.1.2]; rfl), ?_, gcons_len h3, fun ds g S y S' e' => ?_⟩
      · simp only [List.all_cons, h.1.1.2, h2]; rfl
      · cases ds with
        | nil => cases e'
        | cons d ds =>
          have e' : ((sem E x).g d g S).bind (fun g S => (sem E r).gs ds g S) = .ex y S' := e'
          cases q : (sem E x).g d g S with
          | ok g1 S1 => rw [q] at e'; exact h4 _ _ _ _ _ e'
          | ex x1 S1 => exact (calm_ok (E := E) x h.1.1.1).1 _ _ _ _ _ q
          | no => rw [q] at e'; cases e'
  · cases h
  · cases h
  · cases kws with
    | nil => cases h
    | cons e kws =>
      obtain ⟨nm, e, kp⟩ := e
      have h : (noStar e && (chk E.st x).e c e && (chk E.st r).a c (kws.map Keyword.value)) = true := h
      simp only [Bool.and_eq_true] at h
      exact mk_cons (ix.e G h.1.2) (ir.ak G h.2)
  · cases es with
    | nil => cases h
    | cons e es =>
      have h : ((chk E.st x).e c e && (chk E.st r).j c es) = true := h
      simp only [Bool.and_eq_true] at h
      obtain ⟨ts, h1, h2⟩ := ir.j G h.2
      exact ⟨_, .cons (ix.e G h.1) h1, fun acc σ H Q h => js_cons h2 h⟩

theorem snd_var {i : Nat} : Snd E k (.var i) := by
  have e0 : ∀ {c X W e}, Good E k c X W → (chk E.st (.var i)).e c e = true → PE X e (tD (kw X) W (eVar i)) ∧ plainT e = true := by
    intro c X W e G h
    cases e with
    | Name x p =>
      obtain ⟨h1, h2, h3, h4⟩ := vis_of G h
      exact ⟨me_var h1 h2 h3 h4, rfl⟩
    | _ => cases h
  refine ⟨fun {c X W e} G h => (e0 G h).1, fun {c X W e} G h => ?_, fun {c X W op vs pos} G h => ?_, fun {c X W es} G h => ?_, fun {c X W es} G h => ?_, fun {c X W es} G h => ?_, fun {c X W es} G h => ?_, fun {c X W es} G h => ?_, fun {c X W es} G h => ?_, fun {c X W tg e} G h => mi_val (e0 G h).1, fun {c X W o} G h => ?_, fun {c X W kws} G h => ?_, fun {c X W es} G h => ?_⟩
  · exact me_truth (e0 G h).1 (plain_ok (e0 G h).2)
  · cases h
  · cases h
  · cases h
  · cases h
  · cases h
  · cases es with
    | Name x p =>
      obtain ⟨h1, h2, h3, h4⟩ := loc_of G h
      exact mg_var h1 h2 h3 h4
    | _ => cases h
  · cases h
  · cases o with
    | none => cases h
    | some e => exact mo_some (e0 G h).1
  · cases h
  · cases h
theorem snd_glb {y : Str} : Snd E k (.glb y) := by
  refine sndE rfl rfl (fun {c X W e} G h => ?_) (fun {c X W e} G h hp => ?_) rfl
  · cases e with
    | Name x p =>
      simp only [Bool.and_eq_true, decide_eq_true_eq] at h
      obtain ⟨⟨rfl, h1⟩, h2⟩ := h
      obtain ⟨g1, g2, g3⟩ := gl_of G h1
      obtain ⟨d, u, v, e1, e2, e3, e4⟩ := G.gls x h2
      simp only [e1]
      exact me_cst (pe_glob g1 e2 e3 g2) e4
    | _ => cases h
  · cases e with
    | Name x p => cases hp
    | _ => cases h
theorem snd_int {i : Int} : Snd E k (.int i) := by
  refine sndE rfl rfl (fun {c X W e} G h => ?_) (fun {c X W e} G h hp => ?_) rfl
  · cases e with
    | Constant v j p =>
      cases v with
      | int j =>
        simp only [decide_eq_true_eq] at h
        subst h
        exact me_cst pe_int fun m H => .int _
      | _ => cases h
    | _ => cases h
  · cases e with
    | Constant v j p => cases hp
    | _ => cases h
theorem snd_str {i : Str} : Snd E k (.str i) := by
  refine sndE rfl rfl (fun {c X W e} G h => ?_) (fun {c X W e} G h hp => ?_) rfl
  · cases e with
    | Constant v j p =>
      cases v with
      | str j =>
        simp only [decide_eq_true_eq] at h
        subst h
        exact me_cst pe_str fun m H => .str _
      | _ => cases h
    | _ => cases h
  · cases e with
    | Constant v j p => cases hp
    | _ => cases h
theorem snd_bl {i : Bool} : Snd E k (.bl i) := by
  refine sndE rfl rfl (fun {c X W e} G h => ?_) (fun {c X W e} G h hp => ?_) rfl
  · cases e with
    | Constant v j p =>
      cases v with
      | bool j =>
        simp only [decide_eq_true_eq] at h
        subst h
        exact me_cst pe_bl fun m H => .bl _
      | _ => cases h
    | _ => cases h
  · cases e with
    | Constant v j p => cases hp
    | _ => cases h
theorem snd_non : Snd E k .non := by
  refine sndE rfl rfl (fun {c X W e} G h => ?_) (fun {c X W e} G h hp => ?_) rfl
  · cases e with
    | Constant v j p =>
      cases v with
      | none => exact me_cst pe_non fun m H => .non
      | _ => cases h
    | _ => cases h
  · cases e with
    | Constant v j p => cases hp
    | _ => cases h
theorem snd_bin {p : Bop} {a b : T} (ia : Snd E k a) (ib : Snd E k b) : Snd E k (.bin p a b) := by
  refine sndE rfl rfl (fun {c X W e} G h => ?_) (fun {c X W e} G h hp => ?_) rfl
  · cases e with
    | BinOp l op r q =>
      simp only [Bool.and_eq_true, decide_eq_true_eq] at h
      obtain ⟨⟨rfl, h1⟩, h2⟩ := h
      exact me_bin (ob p) (ia.e G h1) (ib.e G h2)
    | _ => cases h
  · cases e with
    | BinOp l op r q => cases hp
    | _ => cases h
theorem cmp_inv {f : C0 → Expr → CmpOp → Expr → Bool} {c : C0} {e : Expr} (h : (match e with | .Compare l [op] [r] _ => f c l op r | _ => false) = true) : ∃ l op r q, e = .Compare l [op] [r] q ∧ f c l op r = true := by
  split at h
  · exact ⟨_, _, _, _, rfl, h⟩
  · cases h
theorem snd_cmp {p : Cop} {a b : T} (ia : Snd E k a) (ib : Snd E k b) : Snd E k (.cmp p a b) := by
  refine sndE rfl rfl (fun {c X W e} G h => ?_) (fun {c X W e} G h hp => ?_) rfl
  · obtain ⟨l, op, r, q, rfl, h⟩ := cmp_inv (f := fun c l op r => decide (op = p.op) && (chk E.st a).e c l && (chk E.st b).e c r && noSet r) h
    simp only [Bool.and_eq_true, decide_eq_true_eq] at h
    obtain ⟨⟨⟨rfl, h1⟩, h2⟩, h3⟩ := h
    exact me_cmp (oc G.room p) (ia.e G h1) (ib.e G h2) (mark_ok h3)
  · obtain ⟨l, op, r, q, rfl, h⟩ := cmp_inv (f := fun c l op r => decide (op = p.op) && (chk E.st a).e c l && (chk E.st b).e c r && noSet r) h
    simp only [Bool.and_eq_true, decide_eq_true_eq] at h
    obtain ⟨⟨⟨rfl, h1⟩, h2⟩, h3⟩ := h
    exact mt_cmp' (semCop_bl p) (oc G.room p) (ia.e G h1) (ib.e G h2) (mark_ok h3)
theorem chain_bl {p q : Cop} {a b c : SE} {g : Sg} {S : Store} {d : D} {S' : Store} (h : eChain p q a b c g S = .ok d S') : ∃ z, d = .bl z := by
  unfold eChain at h
  cases e1 : a g S with
  | ok x S1 =>
    rw [e1, O.bind_ok] at h
    cases e2 : b g S1 with
    | ok y S2 =>
      rw [e2, O.bind_ok] at h
      cases e3 : semCop p x y S2 with
      | ok z S3 =>
        rw [e3, O.bind_ok] at h
        split at h
        · cases e4 : c g S3 with
          | ok w S4 => rw [e4, O.bind_ok] at h; exact semCop_bl q _ _ _ _ _ h
          | ex _ _ => rw [e4] at h; cases h
          | no => rw [e4] at h; cases h
        · cases h; exact ⟨_, rfl⟩
        · cases h
      | ex _ _ => rw [e3] at h; cases h
      | no => rw [e3] at h; cases h
    | ex _ _ => rw [e2] at h; cases h
    | no => rw [e2] at h; cases h
  | ex _ _ => rw [e1] at h; cases h
  | no => rw [e1] at h; cases h
theorem chain_inv {f : C0 → Expr → CmpOp → CmpOp → Expr → Expr → Bool} {c : C0} {e : Expr} (h : (match e with | .Compare l [op, op'] [r, r'] _ => f c l op op' r r' | _ => false) = true) : ∃ l op op' r r' q, e = .Compare l [op, op'] [r, r'] q ∧ f c l op op' r r' = true := by
  split at h
  · exact ⟨_, _, _, _, _, _, rfl, h⟩
  · cases h
theorem tchain_r {X : Cx} {p q : Cop} {fa fb fc : SE} {σ : L2.St} {H : Hp} {Q : VK} (h : tD (kw X) W (eChain p q fa fb fc) σ H Q) : tChain (rD2 (kw X) (semCop p)) (rD2 (kw X) (semCop q)) (tD (kw X) W fa) (tD (kw X) W fb) (tD (kw X) W fc) σ H Q := by
  obtain ⟨m, S, g, hs, hr, hp⟩ := h
  refine ⟨m, S, g, hs, hr, Post.bind hp fun x S1 _ m1 H1 x1 s1 hp v1 r1 => ⟨m1, S1, g, s1, hr.ext hs x1, hp.bind fun y S2 _ m2 H2 x2 s2 hp v2 r2 => ⟨_, m2, S2, x, y, s2, r1.ext s1 x2, r2, hp.bind fun z S3 _ m3 H3 x3 s3 hp v3 r3 => ?_⟩⟩⟩
  split at hp
  · cases r3
    exact ⟨true, rfl, iteT ⟨m3, S3, g, s3, hr.ext hs ((x1.trans x2).trans x3), hp.bind fun w S4 _ m4 H4 x4 s4 hp v4 r4 => ⟨_, m4, S4, y, w, s4, r2.ext s2 (x3.trans x4), r4, hp⟩⟩⟩
  · cases r3
    exact ⟨false, rfl, iteF (PostE.here hp s3 (.bl _))⟩
  · exact hp.elim
theorem snd_chain {p q : Cop} {a b d : T} (ia : Snd E k a) (ib : Snd E k b) (id' : Snd E k d) : Snd E k (.chain p q a b d) := by
  refine sndE rfl rfl (fun {c X W e} G h => ?_) (fun {c X W e} G h hp => ?_) rfl
  · obtain ⟨l, op, op', r, r', q', rfl, h⟩ := chain_inv (f := fun c l op op' r r' => decide (op = p.op) && decide (op' = q.op) && (chk E.st a).e c l && (chk E.st b).e c r && (chk E.st d).e c r' && noSet r') h
    simp only [Bool.and_eq_true, decide_eq_true_eq] at h
    obtain ⟨⟨⟨⟨⟨rfl, rfl⟩, h1⟩, h2⟩, h3⟩, h4⟩ := h
    exact peI (pe_chain (oc G.room p) (oc G.room q) (ia.e G h1) (ib.e G h2) (id'.e G h3) (last_ok h4)) fun σ H Q h => tchain_r h
  · obtain ⟨l, op, op', r, r', q', rfl, h⟩ := chain_inv (f := fun c l op op' r r' => decide (op = p.op) && decide (op' = q.op) && (chk E.st a).e c l && (chk E.st b).e c r && (chk E.st d).e c r' && noSet r') h
    simp only [Bool.and_eq_true, decide_eq_true_eq] at h
    obtain ⟨⟨⟨⟨⟨rfl, rfl⟩, h1⟩, h2⟩, h3⟩, h4⟩ := h
    refine ptI (pt_chain (oc G.room p) (oc G.room q) (ia.e G h1) (ib.e G h2) (id'.e G h3) (last_ok h4)) fun σ H Q ⟨m, S, g, hs, hr, hp⟩ => ?_
    exact tchain_r ⟨m, S, g, hs, hr, tru_post (fun d S' e => chain_bl e) hp⟩
theorem snd_neg {a : T} (ia : Snd E k a) : Snd E k (.neg a) := by
  refine sndE rfl rfl (fun {c X W e} G h => ?_) (fun {c X W e} G h hp => ?_) rfl
  · cases e with
    | UnaryOp op x p =>
      cases op with
      | USub => exact me_neg (ia.e G h)
      | _ => cases h
    | _ => cases h
  · cases e with
    | UnaryOp op x p =>
      cases op with
      | USub => cases hp
      | _ => cases h
    | _ => cases h
end
end Mz

end

section
set_option Elab.async false
set_option linter.all false
set_option maxRecDepth 100000
set_option maxHeartbeats 4000000
namespace Mz
open PySem PySem.Spec L2
section
variable {E : PEnv} {k : Nat} {c : C0} {X : Cx} {W : WX}
theorem sndB {t : T} {p : C0 → Expr → Bool} {f : SE} {tt : ST} (hc : chk E.st t = ckE p) (hs : sem E t = { ofE f with t := tt }) (he : ∀ {c X W e}, Good E k c X W → p c e = true → PE X e (tD (kw X) W f))
    (ht : ∀ {c X W e}, Good E k c X W → p c e = true → PT X e (tDT (kw X) W tt)) (hw : ∀ {c X W op vs pos}, Good E k c X W → p c (.BoolOp op vs pos) = true → PW X (.BoolOp op vs pos) (tDT (kw X) W tt)) : Snd E k t := by
  refine ⟨fun {c X W e} G h => ?_, fun {c X W e} G h => ?_, fun {c X W op vs pos} G h => ?_, fun {c X W es} G h => ?_, fun {c X W es} G h => ?_, fun {c X W es} G h => ?_, fun {c X W es} G h => ?_, fun {c X W es} G h => ?_, fun {c X W es} G h => ?_, fun {c X W tg e} G h => ?_, fun {c X W o} G h => ?_, fun {c X W kws} G h => ?_, fun {c X W es} G h => ?_⟩
  all_goals rw [hc] at h
  · rw [hs]; exact he G h
  · rw [hs]; exact ht G h
  · rw [hs]; exact hw G h
  · cases h
  · cases h
  · cases h
  · cases h
  · cases h
  · cases h
  · rw [hs]; exact mi_val (he G h)
  · rw [hs]
    cases o with
    | none => cases h
    | some e => exact mo_some (he G h)
  · cases h
  · cases h
/-- an expression that is a target, too -/
theorem sndG {t : T} {p q : C0 → Expr → Bool} {f : SE} {g : SG} (hc : chk E.st t = { ckE p with g := q }) (hs : sem E t = { ofE f with g := g }) (he : ∀ {c X W e}, Good E k c X W → p c e = true → PE X e (tD (kw X) W f) ∧ plainT e = true)
    (hg : ∀ {c X W e}, Good E k c X W → q c e = true → PG X e (tDG (kw X) W (slots t) g)) (hw : ∀ {c op vs pos}, p c (.BoolOp op vs pos) = false) : Snd E k t := by
  refine ⟨fun {c X W e} G h => ?_, fun {c X W e} G h => ?_, fun {c X W op vs pos} G h => ?_, fun {c X W es} G h => ?_, fun {c X W es} G h => ?_, fun {c X W es} G h => ?_, fun {c X W es} G h => ?_, fun {c X W es} G h => ?_, fun {c X W es} G h => ?_, fun {c X W tg e} G h => ?_, fun {c X W o} G h => ?_, fun {c X W kws} G h => ?_, fun {c X W es} G h => ?_⟩
  all_goals rw [hc] at h
  · rw [hs]; exact (he G h).1
  · rw [hs]; exact me_truth (he G h).1 (plain_ok (he G h).2)
  · have : p c (.BoolOp op vs pos) = true := h
    rw [hw] at this; cases this
  · cases h
  · cases h
  · cases h
  · cases h
  · rw [hs]; exact hg G h
  · cases h
  · rw [hs]; exact mi_val (he G h).1
  · rw [hs]
    cases o with
    | none => cases h
    | some e => exact mo_some (he G h).1
  · cases h
  · cases h

theorem not_inv {f : C0 → Expr → Bool} {c : C0} {e : Expr} (h : (match e with | .UnaryOp .Not x _ => f c x | _ => false) = true) : ∃ x q, e = .UnaryOp .Not x q ∧ f c x = true := by
  split at h
  · exact ⟨_, _, rfl, h⟩
  · cases h
theorem snd_nt {a : T} (ia : Snd E k a) : Snd E k (.nt a) := by
  refine sndB rfl rfl (fun {c X W e} G h => ?_) (fun {c X W e} G h => ?_) (fun {c X W op vs pos} G h => by cases h)
  · obtain ⟨x, q, rfl, h⟩ := not_inv (f := fun c x => (chk E.st a).e c x) h
    exact me_notV (ia.e G h)
  · obtain ⟨x, q, rfl, h⟩ := not_inv (f := fun c x => (chk E.st a).e c x) h
    exact mt_not (ia.t G h)
theorem and_form {a b : T} {c : C0} {e : Expr} (h : (chk E.st (.and a b)).e c e = true) :
    (∃ x y p, e = .BoolOp .And [x, y] p ∧ (chk E.st a).e c x = true ∧ (chk E.st b).e c y = true) ∨ ∃ x y z r p, e = .BoolOp .And (x :: y :: z :: r) p ∧ (chk E.st a).e c x = true ∧ (chk E.st b).e c (.BoolOp .And (y :: z :: r) p) = true := by
  have h : (match (generalizing := false) e with | .BoolOp .And [x, y] _ => (chk E.st a).e c x && (chk E.st b).e c y | .BoolOp .And (x :: y :: z :: r) p => (chk E.st a).e c x && (chk E.st b).e c (.BoolOp .And (y :: z :: r) p) | _ => false) = true := h
  split at h
  · simp only [Bool.and_eq_true] at h
    exact .inl ⟨_, _, _, rfl, h.1, h.2⟩
  · simp only [Bool.and_eq_true] at h
    exact .inr ⟨_, _, _, _, _, rfl, h.1, h.2⟩
  · cases h
theorem or_form {a b : T} {c : C0} {e : Expr} (h : (chk E.st (.or a b)).e c e = true) :
    (∃ x y p, e = .BoolOp .Or [x, y] p ∧ (chk E.st a).e c x = true ∧ (chk E.st b).e c y = true) ∨ ∃ x y z r p, e = .BoolOp .Or (x :: y :: z :: r) p ∧ (chk E.st a).e c x = true ∧ (chk E.st b).e c (.BoolOp .Or (y :: z :: r) p) = true := by
  have h : (match (generalizing := false) e with | .BoolOp .Or [x, y] _ => (chk E.st a).e c x && (chk E.st b).e c y | .BoolOp .Or (x :: y :: z :: r) p => (chk E.st a).e c x && (chk E.st b).e c (.BoolOp .Or (y :: z :: r) p) | _ => false) = true := h
  split at h
  · simp only [Bool.and_eq_true] at h
    exact .inl ⟨_, _, _, rfl, h.1, h.2⟩
  · simp only [Bool.and_eq_true] at h
    exact .inr ⟨_, _, _, _, _, rfl, h.1, h.2⟩
  · cases h
theorem snd_and {a b : T} (ia : Snd E k a) (ib : Snd E k b) : Snd E k (.and a b) := by
  have w : ∀ {c X W e}, Good E k c X W → (chk E.st (.and a b)).e c e = true → PE X e (tD (kw X) W (eAnd (sem E a).e (sem E b).e)) ∧ PW X e (tDT (kw X) W (tAndS (sem E a).t (sem E b).t)) := by
    intro c X W e G h
    rcases and_form h with ⟨x, y, p, rfl, h1, h2⟩ | ⟨x, y, z, r, p, rfl, h1, h2⟩
    · exact ⟨me_and (ia.e G h1) (pe_one (ib.e G h2)), mw_and (ia.t G h1) (pw_and1 (ib.t G h2))⟩
    · exact ⟨me_and (ia.e G h1) (ib.e G h2), mw_and (ia.t G h1) (ib.w G h2)⟩
  exact sndB rfl rfl (fun G h => (w G h).1) (fun G h => (w G h).2.pt) (fun G h => (w G h).2)
theorem snd_or {a b : T} (ia : Snd E k a) (ib : Snd E k b) : Snd E k (.or a b) := by
  have w : ∀ {c X W e}, Good E k c X W → (chk E.st (.or a b)).e c e = true → PE X e (tD (kw X) W (eOr (sem E a).e (sem E b).e)) ∧ PW X e (tDT (kw X) W (tOrS (sem E a).t (sem E b).t)) := by
    intro c X W e G h
    rcases or_form h with ⟨x, y, p, rfl, h1, h2⟩ | ⟨x, y, z, r, p, rfl, h1, h2⟩
    · exact ⟨me_or (ia.e G h1) (pe_one (ib.e G h2)), mw_or (ia.t G h1) (pw_or1 (ib.t G h2))⟩
    · exact ⟨me_or (ia.e G h1) (ib.e G h2), mw_or (ia.t G h1) (ib.w G h2)⟩
  exact sndB rfl rfl (fun G h => (w G h).1) (fun G h => (w G h).2.pt) (fun G h => (w G h).2)
theorem pt_ife {a b t : Expr} {pos : Pos} {ft fa fb : ST} (ht : PT X t (tDT (kw X) W ft)) (ha : PT X a (tDT (kw X) W fa)) (hb : PT X b (tDT (kw X) W fb)) : PT X (.IfExp t a b pos) (tDT (kw X) W (tIfS' ft fa fb)) := by
  refine ⟨fun pins s σ H Q I hw => ?_⟩
  obtain ⟨m, S, g, hs, hr, hp⟩ := hw
  refine PyProof.Rows.isTrue_IfExp (thn (ht.run pins s σ H (fun c H1 => if c = true then tDT (kw X) W fa σ H1 Q else tDT (kw X) W fb σ H1 Q) I ⟨m, S, g, hs, hr, Post.bind hp fun d S1 _ m1 H1 x1 s1 hp => ?_⟩) fun c s1 ⟨H1, I1, q⟩ => ?_)
  · cases d with
    | true => rw [if_pos rfl] at hp; exact iteT ⟨m1, S1, g, s1, hr.ext hs x1, hp⟩
    | false => rw [if_neg Bool.false_ne_true] at hp; exact iteF ⟨m1, S1, g, s1, hr.ext hs x1, hp⟩
  · cases c with
    | true => rw [if_pos rfl] at q ⊢; exact ha.run pins s1 σ H1 Q I1 q
    | false => rw [if_neg Bool.false_ne_true] at q ⊢; exact hb.run pins s1 σ H1 Q I1 q
theorem snd_ife {t a b : T} (it : Snd E k t) (ia : Snd E k a) (ib : Snd E k b) : Snd E k (.ife t a b) := by
  refine sndB rfl rfl (fun {c X W e} G h => ?_) (fun {c X W e} G h => ?_) (fun {c X W op vs pos} G h => by cases h)
  · cases e with
    | IfExp x y z p =>
      simp only [Bool.and_eq_true] at h
      exact me_if (it.t G h.1.1) (ia.e G h.1.2) (ib.e G h.2)
    | _ => cases h
  · cases e with
    | IfExp x y z p =>
      simp only [Bool.and_eq_true] at h
      exact pt_ife (it.t G h.1.1) (ia.t G h.1.2) (ib.t G h.2)
    | _ => cases h
theorem snd_tup {as : T} (ia : Snd E k as) : Snd E k (.tup as) := by
  refine sndG rfl rfl (fun {c X W e} G h => ?_) (fun {c X W e} G h => ?_) rfl
  · cases e with
    | Tuple es j p => exact ⟨me_tup (ia.a G h).1, rfl⟩
    | _ => cases h
  · cases e with
    | Tuple es j p =>
      obtain ⟨h1, h2, h3, h4⟩ := ia.gs G h
      exact mg_tup h4 G.calm h1 h3 (asg_len h2) (asg_idx h2)
    | _ => cases h
theorem snd_lst {as : T} (ia : Snd E k as) : Snd E k (.lst as) := by
  refine sndE rfl rfl (fun {c X W e} G h => ?_) (fun {c X W e} G h hp => ?_) rfl
  · cases e with
    | List es p => exact me_lst (ia.a G h).1
    | _ => cases h
  · cases e with
    | List es p => cases hp
    | _ => cases h
theorem snd_sub {a b : T} (ia : Snd E k a) (ib : Snd E k b) : Snd E k (.sub a b) := by
  refine sndG rfl rfl (fun {c X W e} G h => ?_) (fun {c X W e} G h => ?_) rfl
  · cases e with
    | Subscript x y p =>
      simp only [Bool.and_eq_true] at h
      exact ⟨me_item (ia.e G h.1.1) (ib.e G h.1.2) (ix_ok h.2), rfl⟩
    | _ => cases h
  · cases e with
    | Subscript x y p =>
      simp only [Bool.and_eq_true] at h
      exact mg_sub (ia.e G h.1.1) (ib.e G h.1.2) (asg_sub h.2)
    | _ => cases h
theorem sli_inv {f : C0 → Expr → Option Expr → Option Expr → Bool} {c : C0} {e : Expr} (h : (match e with | .Subscript x (.Slice l h none _) _ => f c x l h | _ => false) = true) : ∃ x l u q p, e = .Subscript x (.Slice l u none q) p ∧ f c x l u = true := by
  split at h
  · exact ⟨_, _, _, _, _, rfl, h⟩
  · cases h
theorem snd_sli {a lo hi : T} (ia : Snd E k a) (il : Snd E k lo) (ih : Snd E k hi) : Snd E k (.sli a lo hi) := by
  refine sndE rfl rfl (fun {c X W e} G h => ?_) (fun {c X W e} G h hp => ?_) rfl
  · obtain ⟨x, l, u, q, p, rfl, h⟩ := sli_inv (f := fun c x l u => (chk E.st a).e c x && (chk E.st lo).o c l && (chk E.st hi).o c u) h
    simp only [Bool.and_eq_true] at h
    exact me_sli (ia.e G h.1.1) (il.o G h.1.2) (ih.o G h.2)
  · obtain ⟨x, l, u, q, p, rfl, h⟩ := sli_inv (f := fun c x l u => (chk E.st a).e c x && (chk E.st lo).o c l && (chk E.st hi).o c u) h
    cases hp
theorem rev_inv {f : C0 → Expr → Bool} {c : C0} {e : Expr} (h : (match e with | .Subscript x (.Slice none none (some (.UnaryOp .USub (.Constant (.int 1) _ _) _)) _) _ => f c x | _ => false) = true) :
    ∃ x j p1 p2 p3 p, e = .Subscript x (.Slice none none (some (.UnaryOp .USub (.Constant (.int 1) j p1) p2)) p3) p ∧ f c x = true := by
  split at h
  · exact ⟨_, _, _, _, _, _, rfl, h⟩
  · cases h
theorem snd_rev {a : T} (ia : Snd E k a) : Snd E k (.rev a) := by
  refine sndE rfl rfl (fun {c X W e} G h => ?_) (fun {c X W e} G h hp => ?_) rfl
  · obtain ⟨x, j, p1, p2, p3, p, rfl, h⟩ := rev_inv (f := fun c x => (chk E.st a).e c x) h
    exact me_rev (ia.e G h)
  · obtain ⟨x, j, p1, p2, p3, p, rfl, h⟩ := rev_inv (f := fun c x => (chk E.st a).e c x) h
    cases hp
theorem call_inv {f : C0 → Str → List Expr → Bool} {c : C0} {e : Expr} (h : (match e with | .Call (.Name x _) es [] _ => f c x es | _ => false) = true) : ∃ x es p q, e = .Call (.Name x p) es [] q ∧ f c x es = true := by
  split at h
  · exact ⟨_, _, _, _, rfl, h⟩
  · cases h
theorem snd_call {f : Str} {as : T} (ia : Snd E k as) : Snd E k (.call f as) := by
  have inv : ∀ {c : C0} {e : Expr}, (chk E.st (.call f as)).e c e = true → ∃ es p q, e = .Call (.Name f p) es [] q ∧ glB c f = true ∧ f ∈ E.st.fns ∧ es.length = E.st.ar f ∧ (chk E.st as).a c es = true ∧ es.all noStar = true ∧ (f, es.length) ∈ E.st.cal := by
    intro c e h
    obtain ⟨x, es, p, q, rfl, h⟩ := call_inv (f := fun c x es => decide (x = f) && glB c x && decide (x ∈ E.st.fns) && (decide (es.length = E.st.ar f) && decide ((f, es.length) ∈ E.st.cal)) && (chk E.st as).a c es && es.all noStar) h
    have h : (decide (x = f) && glB c x && decide (x ∈ E.st.fns) && (decide (es.length = E.st.ar f) && decide ((f, es.length) ∈ E.st.cal)) && (chk E.st as).a c es && es.all noStar) = true := h
    rw [Bool.and_eq_true, Bool.and_eq_true, Bool.and_eq_true, Bool.and_eq_true, Bool.and_eq_true] at h
    obtain ⟨⟨⟨⟨⟨h0, h1⟩, h2⟩, h3⟩, h4⟩, h5⟩ := h
    have h0 := of_decide_eq_true h0
    subst h0
    rw [Bool.and_eq_true] at h3
    exact ⟨es, p, q, rfl, h1, of_decide_eq_true h2, of_decide_eq_true h3.1, h4, h5, of_decide_eq_true h3.2⟩
  refine sndE rfl rfl (fun {c X W e} G h => ?_) (fun {c X W e} G h hp => ?_) rfl
  · obtain ⟨es, p, q, rfl, h1, h2, h3, h4, h5, h6⟩ := inv h
    obtain ⟨g1, g2, g3⟩ := gl_of G h1
    obtain ⟨a, fd, ps, e2, e3, fa⟩ := G.fns f h2
    have e5 := fa.ok
    have e4 := fa.full h6 h3
    rw [← h3] at e5
    obtain ⟨pa, pl⟩ := ia.a G h4
    cases es with
    | nil =>
      refine me_call (peI (Fg.callG0 e5 (G.room.mono (Nat.le_succ _)) G.gd g1 e2 e3 e4 .nil (fun σ => passAt G.tk σ) g2) fun σ H Q h => ?_) pl
      cases as with
      | nil =>
        obtain ⟨m, S, g, hs, hr, hp⟩ := h
        exact hp.now hs [] .nil
      | _ => cases h4
    | cons e es =>
      simp only [List.all_cons, Bool.and_eq_true] at h5
      exact me_call (Fg.callG e5 (G.room.mono (Nat.le_succ _)) G.gd g1 e2 e3 e4 .nil (fun σ => passAt G.tk σ) pa g2 (star_ok es h5.1) (star_any _ h5.2)) pl
  · obtain ⟨es, p, q, rfl, _⟩ := inv h
    cases hp
end
end Mz

end

section
set_option Elab.async false
set_option linter.all false
set_option maxRecDepth 100000
set_option maxHeartbeats 4000000
namespace Mz
open PySem PySem.Spec L2
section
variable {E : PEnv} {k : Nat} {c : C0} {X : Cx} {W : WX}
theorem and2 {a b : Bool} (h : (a && b) = true) : a = true ∧ b = true := Bool.and_eq_true_iff.mp h
theorem blt_mem : ∀ p : Blt, p.name ∈ bltNames
  | .len => by decide +kernel | .abs => by decide +kernel | .max2 => by decide +kernel | .min2 => by decide +kernel | .int1 => by decide +kernel | .str1 => by decide +kernel | .ord1 => by decide +kernel
  | .list1 => by decide +kernel | .tuple1 => by decide +kernel | .all1 => by decide +kernel | .any1 => by decide +kernel | .sum1 => by decide +kernel
theorem blt_inv {f : C0 → Str → List Expr → Bool} {c : C0} {e : Expr} (h : (match e with | .Call (.Name x _) (e :: es) [] _ => f c x (e :: es) | _ => false) = true) : ∃ x e0 es p q, e = .Call (.Name x p) (e0 :: es) [] q ∧ f c x (e0 :: es) = true := by
  split at h
  · exact ⟨_, _, _, _, _, rfl, h⟩
  · cases h
theorem snd_blt {p : Blt} {as : T} (ia : Snd E k as) : Snd E k (.blt p as) := by
  have inv : ∀ {c : C0} {e : Expr}, (chk E.st (.blt p as)).e c e = true → ∃ e0 es p1 q, e = .Call (.Name p.name p1) (e0 :: es) [] q ∧ glB c p.name = true ∧ (chk E.st as).a c (e0 :: es) = true ∧ (e0 :: es).all noStar = true := by
    intro c e h
    obtain ⟨x, e0, es, p1, q, rfl, h⟩ := blt_inv (f := fun c x es => decide (x = p.name) && glB c x && (chk E.st as).a c es && es.all noStar) h
    have h : (decide (x = p.name) && glB c x && (chk E.st as).a c (e0 :: es) && (e0 :: es).all noStar) = true := h
    obtain ⟨h, h5⟩ := and2 h
    obtain ⟨h, h4⟩ := and2 h
    obtain ⟨h0, h1⟩ := and2 h
    have h0 := of_decide_eq_true h0
    subst h0
    exact ⟨e0, es, p1, q, rfl, h1, h4, h5⟩
  refine sndE rfl rfl (fun {c X W e} G h => ?_) (fun {c X W e} G h hp => ?_) rfl
  · obtain ⟨e0, es, p1, q, rfl, h1, h4, h5⟩ := inv h
    obtain ⟨g1, g2, g3⟩ := gl_of G h1
    have hm := G.blt _ (blt_mem p)
    have pa := (ia.a G h4).1
    rw [List.all_cons] at h5
    obtain ⟨h5, h6⟩ := and2 h5
    refine me_blt ?_
    have ok := blt_ok (X := X) G.calm p
    have bo := blt_boot p
    cases p <;> first
      | exact pe_callB ok g1 hm bo pa g3 g2 (star_ok es h5) (star_any _ h6)
      | exact pe_callTy ok g1 hm bo pa g3 g2 (star_ok es h5) (star_any _ h6)
  · obtain ⟨e0, es, p1, q, rfl, _⟩ := inv h
    cases hp
theorem mth_inv {f : C0 → Expr → Str → Pos → List Expr → Pos → Bool} {c : C0} {e : Expr} (h : (match e with | .Call (.Attribute x n q) es [] r => f c x n q es r | _ => false) = true) : ∃ x n q es r, e = .Call (.Attribute x n q) es [] r ∧ f c x n q es r = true := by
  split at h
  · exact ⟨_, _, _, _, _, rfl, h⟩
  · cases h
theorem snd_mth {p : Mth} {o as : T} (io : Snd E k o) (ia : Snd E k as) : Snd E k (.mth p o as) := by
  have inv : ∀ {c : C0} {e : Expr}, (chk E.st (.mth p o as)).e c e = true → ∃ x q es r, e = .Call (.Attribute x p.name q) es [] r ∧ (q.endLine == r.line) = true ∧ noCall0 x = true ∧ (chk E.st o).e c x = true ∧ (chk E.st as).a c es = true ∧ es.all noStar = true ∧ es.length < 29 := by
    intro c e h
    obtain ⟨x, n, q, es, r, rfl, h⟩ := mth_inv (f := fun c x n q es r => decide (n = p.name) && (q.endLine == r.line) && noCall0 x && (chk E.st o).e c x && (chk E.st as).a c es && es.all noStar && decide (es.length < 29)) h
    have h : (decide (n = p.name) && (q.endLine == r.line) && noCall0 x && (chk E.st o).e c x && (chk E.st as).a c es && es.all noStar && decide (es.length < 29)) = true := h
    obtain ⟨h, h6⟩ := and2 h
    obtain ⟨h, h5⟩ := and2 h
    obtain ⟨h, h4⟩ := and2 h
    obtain ⟨h, h3⟩ := and2 h
    obtain ⟨h, h2⟩ := and2 h
    obtain ⟨h0, h1⟩ := and2 h
    have h0 := of_decide_eq_true h0
    subst h0
    exact ⟨x, q, es, r, rfl, h1, h2, h3, h4, h5, of_decide_eq_true h6⟩
  refine sndE rfl rfl (fun {c X W e} G h => ?_) (fun {c X W e} G h hp => ?_) rfl
  · obtain ⟨x, q, es, r, rfl, h1, h2, h3, h4, h5, h6⟩ := inv h
    have pa := (ia.a G h4).1
    have po := io.e G h3
    have at' := mth_at p
    cases es with
    | nil =>
      cases as with
      | nil => exact me_mth0 (pe_bm0 at'.pa at'.slot at'.ty (mm_ok G.room p) po (base_ok h2) h1)
      | _ => cases h4
    | cons e es =>
      rw [List.all_cons] at h5
      obtain ⟨h5, h7⟩ := and2 h5
      refine me_mth (pe_bm at'.pa at'.slot at'.ty (mm_ok G.room p) po pa (base_ok h2) ?_ h1 (star_ok es h5) (star_any _ h7))
      have z := star_all (env := X.env) r (es := e :: es) (by rw [List.all_cons, h5, h7]; rfl)
      rw [z]
      have l : (e :: es).length + ([] : List Keyword).length + (if ([] : List Keyword).isEmpty then 0 else 1) < 30 := by
        show (e :: es).length + 0 + 0 < 30
        omega
      rw [decide_eq_true l]
      rfl
  · obtain ⟨x, q, es, r, rfl, _⟩ := inv h
    cases hp
theorem lc_inv {Ki : C0 → Expr → Expr → Bool} {g : C0 → Expr → Bool} {ts : C0 → List Expr → Bool} {el : C0 → Expr → Bool} {own is : List Nat} {c : C0} {e : Expr} (h : ckLc Ki g ts el own is c e = true) :
    ∃ elt tg iter ifs scope pos own', e = .ListComp elt [⟨tg, iter, ifs, 0⟩] scope pos ∧ own'.map (·.2) = own ∧ blkC c.N c.sc scope own' = true ∧ Ki c tg iter = true ∧ noSet iter = true ∧ g ⟨c.N, relS scope c.sc, false⟩ tg = true ∧ ts ⟨c.N, relS scope c.sc, false⟩ ifs = true ∧ el ⟨c.N, relS scope c.sc, false⟩ elt = true ∧ ∀ i ∈ is, i ∈ own := by
  unfold ckLc at h
  split at h
  · obtain ⟨h, h7⟩ := and2 h
    obtain ⟨h, h6⟩ := and2 h
    obtain ⟨h, h5⟩ := and2 h
    obtain ⟨h, h4⟩ := and2 h
    obtain ⟨h, h3⟩ := and2 h
    obtain ⟨h, h2⟩ := and2 h
    obtain ⟨h0, h1⟩ := and2 h
    exact ⟨_, _, _, _, _, _, _, rfl, of_decide_eq_true h0, h1, h2, h3, h4, h5, h6, fun i hi => of_decide_eq_true (List.all_eq_true.mp h7 i hi)⟩
  · cases h
theorem relS_kind {scope sc : Scope} {N : List Str} {own : List (Str × Nat)} (h : blkC N sc scope own = true) : scope.kind = .function := (blkOk_by h).kind
theorem lc_ok {tg it ts el : T} {own : List Nat} (itg : Snd E k tg) (iit : Snd E k it) (its : Snd E k ts) (iel : Snd E k el) {c : C0} {X : Cx} {W : WX} {e : Expr} (G : Good E k c X W)
    (h : ckLc (chk E.st it).i (chk E.st tg).g (chk E.st ts).ts (chk E.st el).e own (slots tg) c e = true) : PE X e (tD (kw X) W (eLc own (sem E it).i (sem E tg).g (sem E ts).t (sem E el).e)) ∧ plainT e = true := by
  obtain ⟨elt, tg', iter, ifs, scope, pos, own', rfl, ho, hb, hi, hset, hg, hts, hel, his⟩ := lc_inv h
  have ok := blkOk_by hb
  refine ⟨peI (t := tLc (tDI (kw X) W (sem E it).i) (tDG (kw X) W0 (slots tg) (sem E tg).g) (tDT (kw X) W0 (sem E ts).t) (tD (kw X) W0 (sem E el).e) (own'.map (·.2))) (pe_lc (own := own') G.calm (by rw [G.hN]; exact G.nd) (iit.i G hi) (by rw [G.hN, G.sc]; exact ok) (fun s H C cl fp => ?_) (fun s H C cl fp => ?_) (fun s H C cl fp => ?_) (set_ok hset)) (fun σ H Q h => ?_), rfl⟩
  · exact itg.g (G.blk scope ok.kind s H C cl fp) hg
  · exact its.ts (G.blk scope ok.kind s H C cl fp) hts
  · exact iel.e (G.blk scope ok.kind s H C cl fp) hel
  · rw [ho]
    exact lc_r his h
theorem snd_lc {tg it ts el : T} {own : List Nat} (itg : Snd E k tg) (iit : Snd E k it) (its : Snd E k ts) (iel : Snd E k el) : Snd E k (.lc own tg it ts el) := by
  refine sndE rfl rfl (fun {c X W e} G h => (lc_ok itg iit its iel G h).1) (fun {c X W e} G h hp => ?_) rfl
  rw [(lc_ok itg iit its iel G h).2] at hp
  cases hp
theorem lc2_inv {Ki Ki1 : C0 → Expr → Expr → Bool} {g g1 : C0 → Expr → Bool} {ts ts1 : C0 → List Expr → Bool} {el : C0 → Expr → Bool} {own is is1 : List Nat} {c : C0} {e : Expr} (h : ckLc2 Ki g ts Ki1 g1 ts1 el own is is1 c e = true) :
    ∃ elt tg iter ifs tg1 iter1 ifs1 scope pos own', e = .ListComp elt [⟨tg, iter, ifs, 0⟩, ⟨tg1, iter1, ifs1, 0⟩] scope pos ∧ own'.map (·.2) = own ∧ blkC c.N c.sc scope own' = true ∧ Ki c tg iter = true ∧ noSet iter = true ∧ g ⟨c.N, relS scope c.sc, false⟩ tg = true ∧ ts ⟨c.N, relS scope c.sc, false⟩ ifs = true ∧
      Ki1 ⟨c.N, relS scope c.sc, false⟩ tg1 iter1 = true ∧ noSet iter1 = true ∧ g1 ⟨c.N, relS scope c.sc, false⟩ tg1 = true ∧ ts1 ⟨c.N, relS scope c.sc, false⟩ ifs1 = true ∧ el ⟨c.N, relS scope c.sc, false⟩ elt = true ∧ (∀ i ∈ is, i ∈ own) ∧ ∀ i ∈ is1, i ∈ own := by
  unfold ckLc2 at h
  split at h
  · obtain ⟨h, h12⟩ := and2 h
    obtain ⟨h, h11⟩ := and2 h
    obtain ⟨h, h10⟩ := and2 h
    obtain ⟨h, h9⟩ := and2 h
    obtain ⟨h, h8⟩ := and2 h
    obtain ⟨h, h7⟩ := and2 h
    obtain ⟨h, h6⟩ := and2 h
    obtain ⟨h, h5⟩ := and2 h
    obtain ⟨h, h4⟩ := and2 h
    obtain ⟨h, h3⟩ := and2 h
    obtain ⟨h, h2⟩ := and2 h
    obtain ⟨h0, h1⟩ := and2 h
    exact ⟨_, _, _, _, _, _, _, _, _, _, rfl, of_decide_eq_true h0, h1, h2, h3, h4, h5, h6, h7, h8, h9, h10, fun i hi => of_decide_eq_true (List.all_eq_true.mp h11 i hi), fun i hi => of_decide_eq_true (List.all_eq_true.mp h12 i hi)⟩
  · cases h
theorem lc2_ok {tg it ts tg1 it1 ts1 el : T} {own : List Nat} (itg : Snd E k tg) (iit : Snd E k it) (its : Snd E k ts) (itg1 : Snd E k tg1) (iit1 : Snd E k it1) (its1 : Snd E k ts1) (iel : Snd E k el) {c : C0} {X : Cx} {W : WX} {e : Expr} (G : Good E k c X W)
    (h : ckLc2 (chk E.st it).i (chk E.st tg).g (chk E.st ts).ts (chk E.st it1).i (chk E.st tg1).g (chk E.st ts1).ts (chk E.st el).e own (slots tg) (slots tg1) c e = true) :
    PE X e (tD (kw X) W (eLc2 own (slots tg1) (sem E it).i (sem E tg).g (sem E ts).t (sem E it1).i (sem E tg1).g (sem E ts1).t (sem E el).e)) ∧ plainT e = true := by
  obtain ⟨elt, tg', iter, ifs, tg1', iter1, ifs1, scope, pos, own', rfl, ho, hb, hi, hset, hg, hts, hi1, hset1, hg1, hts1, hel, his, his1⟩ := lc2_inv h
  have ok := blkOk_by hb
  refine ⟨peI (t := tLc2 (tDI (kw X) W (sem E it).i) (tDG (kw X) W0 (slots tg) (sem E tg).g) (tDT (kw X) W0 (sem E ts).t) (tDI (kw X) W0 (sem E it1).i) (tDG (kw X) W0 (slots tg1) (sem E tg1).g) (tDT (kw X) W0 (sem E ts1).t) (tD (kw X) W0 (sem E el).e) (own'.map (·.2)) (slots tg1))
    (pe_lc2 (own := own') G.calm (by rw [G.hN]; exact G.nd) (iit.i G hi) (by rw [G.hN, G.sc]; exact ok) (by rw [ho]; exact his1) (fun s H C cl fp => ?_) (fun s H C cl fp => ?_) (fun s H C cl fp => ?_) (fun s H C cl fp => ?_) (fun s H C cl fp => ?_) (fun s H C cl fp => ?_) (set_ok hset) (fun _ => set_ok hset1)) (fun σ H Q h => ?_), rfl⟩
  · exact itg.g (G.blk scope ok.kind s H C cl fp) hg
  · exact its.ts (G.blk scope ok.kind s H C cl fp) hts
  · exact iit1.i (G.blk scope ok.kind s H C cl fp) hi1
  · exact itg1.g (G.blk scope ok.kind s H C cl fp) hg1
  · exact its1.ts (G.blk scope ok.kind s H C cl fp) hts1
  · exact iel.e (G.blk scope ok.kind s H C cl fp) hel
  · rw [ho]
    exact lc2_r his (fun _ h => h) h
theorem snd_lc2 {tg it ts tg1 it1 ts1 el : T} {own : List Nat} (itg : Snd E k tg) (iit : Snd E k it) (its : Snd E k ts) (itg1 : Snd E k tg1) (iit1 : Snd E k it1) (its1 : Snd E k ts1) (iel : Snd E k el) : Snd E k (.lc2 own tg it ts tg1 it1 ts1 el) := by
  refine sndE rfl rfl (fun {c X W e} G h => (lc2_ok itg iit its itg1 iit1 its1 iel G h).1) (fun {c X W e} G h hp => ?_) rfl
  rw [(lc2_ok itg iit its itg1 iit1 its1 iel G h).2] at hp
  cases hp
theorem snd_sls {a lo hi : T} (ia : Snd E k a) (il : Snd E k lo) (ih : Snd E k hi) : Snd E k (.sls a lo hi) := by
  refine ⟨fun {c X W e} G h => ?_, fun {c X W e} G h => ?_, fun {c X W op vs pos} G h => ?_, fun {c X W es} G h => ?_, fun {c X W es} G h => ?_, fun {c X W es} G h => ?_, fun {c X W es} G h => ?_, fun {c X W e} G h => ?_, fun {c X W es} G h => ?_, fun {c X W tg e} G h => ?_, fun {c X W o} G h => ?_, fun {c X W kws} G h => ?_, fun {c X W es} G h => ?_⟩
  case refine_8 =>
    have h : (match (generalizing := false) e with | .Subscript x (.Slice l h none _) _ => (chk E.st a).e c x && (chk E.st lo).o c l && (chk E.st hi).o c h | _ => false) = true := h
    split at h
    · obtain ⟨h, h3⟩ := and2 h
      obtain ⟨h1, h2⟩ := and2 h
      exact mg_sl (ia.e G h1) (il.o G h2) (ih.o G h3)
    · cases h
  all_goals cases h
theorem fst_inv {f : C0 → List Expr → Bool} {c : C0} {e : Expr} (h : (match e with | .JoinedStr (x :: y :: r) _ => f c (x :: y :: r) | _ => false) = true) : ∃ x y r p, e = .JoinedStr (x :: y :: r) p ∧ f c (x :: y :: r) = true := by
  split at h
  · exact ⟨_, _, _, _, rfl, h⟩
  · cases h
theorem snd_fst {as : T} (ia : Snd E k as) : Snd E k (.fst as) := by
  refine sndE rfl rfl (fun {c X W e} G h => ?_) (fun {c X W e} G h hp => ?_) rfl
  · obtain ⟨x, y, r, p, rfl, h⟩ := fst_inv (f := fun c es => (chk E.st as).j c es) h
    obtain ⟨ts, h1, h2⟩ := ia.j G h
    exact peI (pe_joined h1) fun σ H Q h => h2 _ _ _ _ h
  · obtain ⟨x, y, r, p, rfl, h⟩ := fst_inv (f := fun c es => (chk E.st as).j c es) h
    cases hp
theorem fmt_inv {f : C0 → Expr → Bool} {c : C0} {e : Expr} (h : (match e with | .FormattedValue x (-1) none _ => f c x | _ => false) = true) : ∃ x p, e = .FormattedValue x (-1) none p ∧ f c x = true := by
  split at h
  · exact ⟨_, _, rfl, h⟩
  · cases h
theorem snd_fmt {a : T} (ia : Snd E k a) : Snd E k (.fmt a) := by
  refine sndE rfl rfl (fun {c X W e} G h => ?_) (fun {c X W e} G h hp => ?_) rfl
  · obtain ⟨x, p, rfl, h⟩ := fmt_inv (f := fun c x => (chk E.st a).e c x) h
    exact me_fmt (ia.e G h)
  · obtain ⟨x, p, rfl, h⟩ := fmt_inv (f := fun c x => (chk E.st a).e c x) h
    cases hp
theorem isi_inv {f : C0 → Str → Expr → Str → Bool} {c : C0} {e : Expr} (h : (match e with | .Call (.Name x _) [y, .Name z _] [] _ => f c x y z | _ => false) = true) : ∃ x y z p1 p2 q, e = .Call (.Name x p1) [y, .Name z p2] [] q ∧ f c x y z = true := by
  split at h
  · exact ⟨_, _, _, _, _, _, rfl, h⟩
  · cases h
theorem isi_boot : ∀ p : Ity, bootBuiltins (p.nm : Str) = some (.type p.nm)
  | .int => by decide +kernel | .bool => by decide +kernel | .str => by decide +kernel | .tuple => by decide +kernel | .list => by decide +kernel
theorem isi_mem : ∀ p : Ity, (p.nm : Str) ∈ bltNames
  | .int => by decide +kernel | .bool => by decide +kernel | .str => by decide +kernel | .tuple => by decide +kernel | .list => by decide +kernel
theorem snd_isi {p : Ity} {a : T} (ia : Snd E k a) : Snd E k (.isi p a) := by
  have inv : ∀ {c : C0} {e : Expr}, (chk E.st (.isi p a)).e c e = true → ∃ y p1 p2 q, e = .Call (.Name "isinstance" p1) [y, .Name (p.nm : Str) p2] [] q ∧ glB c "isinstance" = true ∧ glB c (p.nm : Str) = true ∧ (chk E.st a).e c y = true ∧ noStar y = true := by
    intro c e h
    obtain ⟨x, y, z, p1, p2, q, rfl, h⟩ := isi_inv (f := fun c x y z => decide (x = ("isinstance" : Str)) && decide (z = (p.nm : Str)) && glB c x && glB c z && (chk E.st a).e c y && noStar y) h
    have h : (decide (x = ("isinstance" : Str)) && decide (z = (p.nm : Str)) && glB c x && glB c z && (chk E.st a).e c y && noStar y) = true := h
    obtain ⟨h, h5⟩ := and2 h
    obtain ⟨h, h4⟩ := and2 h
    obtain ⟨h, h3⟩ := and2 h
    obtain ⟨h, h2⟩ := and2 h
    obtain ⟨h0, h1⟩ := and2 h
    have h0 := of_decide_eq_true h0
    have h1 := of_decide_eq_true h1
    subst h0 h1
    exact ⟨y, p1, p2, q, rfl, h2, h3, h4, h5⟩
  refine sndE rfl rfl (fun {c X W e} G h => ?_) (fun {c X W e} G h hp => ?_) rfl
  · obtain ⟨y, p1, p2, q, rfl, h2, h3, h4, h5⟩ := inv h
    obtain ⟨g1, _, _⟩ := gl_of G h2
    obtain ⟨g4, g5, g6⟩ := gl_of G h3
    exact me_isi g1 (G.blt _ (by decide +kernel)) (ia.e G h4) (pe_bltn g4 (G.blt _ (isi_mem p)) (isi_boot p) rfl g6 g5) (star_ok _ h5)
  · obtain ⟨y, p1, p2, q, rfl, _⟩ := inv h
    cases hp
theorem mem_range : ("range" : Str) ∈ bltNames := by decide +kernel
theorem mem_enum : ("enumerate" : Str) ∈ bltNames := by decide +kernel
theorem mem_zip : ("zip" : Str) ∈ bltNames := by decide +kernel
theorem snd_irng {as : T} (ia : Snd E k as) : Snd E k (.irng as) := by
  refine sndI rfl rfl fun {c X W tg e} G h => ?_
  obtain ⟨x, es, p, q, rfl, h⟩ := call_inv (f := fun c x es => decide (x = ("range" : Str)) && glB c x && (chk E.st as).a c es && es.all noStar && (es.length == 1 || es.length == 2 || es.length == 3)) h
  have h : (decide (x = ("range" : Str)) && glB c x && (chk E.st as).a c es && es.all noStar && (es.length == 1 || es.length == 2 || es.length == 3)) = true := h
  obtain ⟨h, h4⟩ := and2 h
  obtain ⟨h, h3⟩ := and2 h
  obtain ⟨h, h2⟩ := and2 h
  obtain ⟨h0, h1⟩ := and2 h
  have h0 := of_decide_eq_true h0
  subst h0
  obtain ⟨g1, g2, g3⟩ := gl_of G h1
  have hm := G.blt _ mem_range
  obtain ⟨pa, pl⟩ := ia.a G h2
  cases es with
  | nil => cases h4
  | cons a es =>
    rw [List.all_cons] at h3
    obtain ⟨n3, h5⟩ := and2 h3
    cases es with
    | nil => exact mi_rng1 g1 hm pa (star_ok [] n3) pl
    | cons b es =>
      rw [List.all_cons] at h5
      obtain ⟨n5, h6⟩ := and2 h5
      cases es with
      | nil => exact mi_rng2 g1 hm pa (by rw [star_ok _ n3, star_ok _ n5]; rfl) (star_ok [] n5) pl
      | cons d es =>
        rw [List.all_cons] at h6
        obtain ⟨n7, h8⟩ := and2 h6
        cases es with
        | nil => exact mi_rng3 g1 hm pa (star_ok _ n3) (star_any _ (by simp only [List.all_cons, List.all_nil, Bool.and_true, Bool.and_eq_true]; exact ⟨n5, n7⟩)) pl
        | cons d es => simp at h4
theorem snd_ienum {as : T} (ia : Snd E k as) : Snd E k (.ienum as) := by
  refine sndI rfl rfl fun {c X W tg e} G h => ?_
  obtain ⟨x, es, p, q, rfl, h⟩ := call_inv (f := fun c x es => decide (x = ("enumerate" : Str)) && !(noTup tg) && glB c x && (chk E.st as).a c es && es.all noStar && es.length == 1) h
  have h : (decide (x = ("enumerate" : Str)) && !(noTup tg) && glB c x && (chk E.st as).a c es && es.all noStar && es.length == 1) = true := h
  obtain ⟨h, h4⟩ := and2 h
  obtain ⟨h, h3⟩ := and2 h
  obtain ⟨h, h2⟩ := and2 h
  obtain ⟨h, h1⟩ := and2 h
  obtain ⟨h0, ht⟩ := and2 h
  have h0 := of_decide_eq_true h0
  subst h0
  obtain ⟨g1, g2, g3⟩ := gl_of G h1
  have hm := G.blt _ mem_enum
  obtain ⟨pa, pl⟩ := ia.a G h2
  cases tg with
  | Tuple ts kk tp =>
    cases es with
    | nil => cases h4
    | cons a es =>
      rw [List.all_cons] at h3
      obtain ⟨n3, h5⟩ := and2 h3
      cases es with
      | nil => exact mi_enum g1 hm pa (star_ok [] n3)
      | cons b es => simp at h4
  | _ => cases ht
theorem snd_izip {as : T} (ia : Snd E k as) : Snd E k (.izip as) := by
  refine sndI rfl rfl fun {c X W tg e} G h => ?_
  obtain ⟨x, es, p, q, rfl, h⟩ := call_inv (f := fun c x es => decide (x = ("zip" : Str)) && !(noTup tg) && glB c x && (chk E.st as).a c es && es.all noStar && es.length == 2) h
  have h : (decide (x = ("zip" : Str)) && !(noTup tg) && glB c x && (chk E.st as).a c es && es.all noStar && es.length == 2) = true := h
  obtain ⟨h, h4⟩ := and2 h
  obtain ⟨h, h3⟩ := and2 h
  obtain ⟨h, h2⟩ := and2 h
  obtain ⟨h, h1⟩ := and2 h
  obtain ⟨h0, ht⟩ := and2 h
  have h0 := of_decide_eq_true h0
  subst h0
  obtain ⟨g1, g2, g3⟩ := gl_of G h1
  have hm := G.blt _ mem_zip
  obtain ⟨pa, pl⟩ := ia.a G h2
  cases tg with
  | Tuple ts kk tp =>
    cases es with
    | nil => cases h4
    | cons a es =>
      rw [List.all_cons] at h3
      obtain ⟨n3, h5⟩ := and2 h3
      cases es with
      | nil => cases h4
      | cons b es =>
        rw [List.all_cons] at h5
        obtain ⟨n5, h6⟩ := and2 h5
        cases es with
        | nil => exact mi_zip (pi_zip g1 hm pa (star_ok _ n3) (star_any _ (by rw [List.all_cons, n5]; rfl)))
        | cons d es => simp at h4
  | _ => cases ht

/-! ### statements -/
theorem asg_inv {f : C0 → Str → Pos → Expr → Pos → Bool} {f' : C0 → Expr → Expr → Bool} {c : C0} {s : Stmt} (h : (match s with | .Assign [.Name x p] v q => f c x p v q | .Assign [t] v _ => f' c t v | _ => false) = true) :
    (∃ x p v q, s = .Assign [.Name x p] v q ∧ f c x p v q = true) ∨ ∃ t v q, s = .Assign [t] v q ∧ f' c t v = true := by
  split at h
  · exact .inl ⟨_, _, _, _, rfl, h⟩
  · exact .inr ⟨_, _, _, rfl, h⟩
  · cases h
theorem snd_asg {tg e : T} (itg : Snd E k tg) (ie : Snd E k e) : Snd E k (.asg tg e) := by
  refine sndS rfl rfl fun {c X W st} G h => ?_
  rcases asg_inv (f := fun c x p v q => (chk E.st e).e c v && (noComp v || (match c.sc.names.lookup x with | some .local => false | _ => true)) && (chk E.st tg).g c (.Name x p) && (match (generalizing := false) tg with | .var i => locB c x i | _ => false)) (f' := fun c t v => (chk E.st e).e c v && noComp v && (noTup v || isSub t) && (chk E.st tg).g c t) h with ⟨x, p, v, q, rfl, hh⟩ | ⟨t, v, q, rfl, hh⟩
  · obtain ⟨h, h4⟩ := and2 hh
    obtain ⟨h, h3⟩ := and2 h
    obtain ⟨h1, h2⟩ := and2 h
    cases tg with
    | var i =>
      obtain ⟨l1, l2, l3, l4⟩ := loc_of G h4
      refine ms_set (ps_set l1 l2 l3 (ie.e G h1) ?_ l4)
      rcases Bool.or_eq_true _ _ ▸ h2 with h2 | h2
      · exact sw_ok h2
      · exact sw_cell (by rw [G.sc]; exact h2)
    | _ => cases h4
  · obtain ⟨h, h4⟩ := and2 hh
    obtain ⟨h, h3⟩ := and2 h
    obtain ⟨h1, h2⟩ := and2 h
    refine ms_asg (ps_asg (ie.e G h1) (itg.g G h4) (sw_ok h2) (stores_sub h3) ?_)
    cases t <;> first | rfl | skip
    -- a starred target has no rule
    cases tg <;> cases h4
theorem alc_inv {f : C0 → Str → Pos → Expr → Bool} {c : C0} {s : Stmt} (h : (match s with | .Assign [.Name y p] v q => f c y p v | _ => false) = true) : ∃ y p v q, s = .Assign [.Name y p] v q ∧ f c y p v = true := by
  split at h
  · exact ⟨_, _, _, _, rfl, h⟩
  · cases h
theorem snd_alc {i : Nat} {own : List Nat} {tg it ts el : T} (itg : Snd E k tg) (iit : Snd E k it) (its : Snd E k ts) (iel : Snd E k el) : Snd E k (.alc i own tg it ts el) := by
  refine sndS rfl rfl fun {c X W st} G h => ?_
  obtain ⟨y, p, v, q, rfl, h⟩ := alc_inv (f := fun c y p v => ckLc (chk E.st it).i (chk E.st tg).g (chk E.st ts).ts (chk E.st el).e own (slots tg) c v && lclB c y i && swB c y p.line v) h
  obtain ⟨h, h3⟩ := and2 h
  obtain ⟨h1, h2⟩ := and2 h
  obtain ⟨l1, l2, l3⟩ := lcl_of G h2
  obtain ⟨elt, tg', iter, ifs, scope, pos, own', rfl, ho, hb, hi, hset, hg, hts, hel, his⟩ := lc_inv h1
  have ok := blkOk_by hb
  have h3 : ((match c.sc.names.lookup y with | some .local => true | _ => false) && (p.line == pos.line) && !(scope.names.any fun (n, k) => n == y && (k == .local || k == .cell))) = true := h3
  obtain ⟨h3, h6⟩ := and2 h3
  obtain ⟨h4, h5⟩ := and2 h3
  have hsw := sw_true (elt := elt) (gs := [⟨tg', iter, ifs, 0⟩]) (scope := scope) (pos := pos) (py := p) (y := y) (l := q.line) (env := X.env) (by rw [G.sc]; exact G.kd) l3 h5 (by simpa using h6)
  refine ms_set (psI (t := tAsg (tLc (tDI (kw X) W (sem E it).i) (tDG (kw X) W0 (slots tg) (sem E tg).g) (tDT (kw X) W0 (sem E ts).t) (tD (kw X) W0 (sem E el).e) (own'.map (·.2))) (gName i)) (ps_setLc (own := own') G.calm l1 l2 l3 hsw (iit.i G hi) (by rw [G.hN, G.sc]; exact ok) (fun s H C cl fp => ?_) (fun s H C cl fp => ?_) (fun s H C cl fp => ?_) (set_ok hset)) (fun D σ H h => ?_))
  · exact itg.g (G.blk scope ok.kind s H C cl fp) hg
  · exact its.ts (G.blk scope ok.kind s H C cl fp) hts
  · exact iel.e (G.blk scope ok.kind s H C cl fp) hel
  · rw [ho]
    exact lc_r his h
theorem snd_aug {i : Nat} {p : Bop} {e : T} (ie : Snd E k e) : Snd E k (.aug i p e) := by
  refine sndS rfl rfl fun {c X W st} G h => ?_
  split at h
  · obtain ⟨h, h4⟩ := and2 h
    obtain ⟨h, h3⟩ := and2 h
    obtain ⟨h1, h2⟩ := and2 h
    have h1 := of_decide_eq_true h1
    subst h1
    obtain ⟨l1, l2, l3, l4⟩ := loc_of G h3
    refine ms_aug l1 l2 l3 l4 (ie.e G h4) ?_
    cases p <;> first | exact .inl rfl | exact .inr rfl | cases h2
  · cases h
theorem snd_ifs {t a b : T} (it : Snd E k t) (ia : Snd E k a) (ib : Snd E k b) : Snd E k (.ifs t a b) := by
  refine sndS rfl rfl fun {c X W st} G h => ?_
  split at h
  · obtain ⟨h, h3⟩ := and2 h
    obtain ⟨h1, h2⟩ := and2 h
    exact ms_if (it.t G h1) (ia.b G h2) (ib.b G h3)
  · cases h
theorem snd_whl {n : Nat} {t b : T} (it : Snd E k t) (ib : Snd E k b) : Snd E k (.whl n t b) := by
  refine sndS rfl rfl fun {c X W st} G h => ?_
  split at h
  · obtain ⟨h1, h2⟩ := and2 h
    exact ms_while n G.po (it.t G h1) (ib.b G h2)
  · cases h
theorem snd_for {tg it b : T} (itg : Snd E k tg) (iit : Snd E k it) (ib : Snd E k b) : Snd E k (.for_ tg it b) := by
  refine sndS rfl rfl fun {c X W st} G h => ?_
  split at h
  · obtain ⟨h, h4⟩ := and2 h
    obtain ⟨h, h3⟩ := and2 h
    obtain ⟨h1, h2⟩ := and2 h
    exact ms_for G.po G.calm (iit.i G h1) (itg.g G h3) (ib.b G h4) (set_ok h2)
  · cases h
theorem snd_ret {e : T} (ie : Snd E k e) : Snd E k (.ret e) := by
  refine sndS rfl rfl fun {c X W st} G h => ?_
  split at h
  · exact ms_ret (ie.e G h)
  · cases h
theorem snd_retN : Snd E k .retN := by
  refine sndS rfl rfl fun {c X W st} G h => ?_
  split at h
  · exact ms_retN
  · cases h
theorem snd_ex {e : T} (ie : Snd E k e) : Snd E k (.ex e) := by
  refine sndS rfl rfl fun {c X W st} G h => ?_
  split at h
  · obtain ⟨h1, h2⟩ := and2 h
    exact ms_ex (ps_expr (ie.e G h1) (sw_ok h2))
  · cases h
theorem snd_pas : Snd E k .pas := by
  refine sndS rfl rfl fun {c X W st} G h => ?_
  split at h
  · exact ms_pass
  · cases h
theorem snd_brk : Snd E k .brk := by
  refine sndS rfl rfl fun {c X W st} G h => ?_
  split at h
  · exact ms_brk
  · cases h
theorem snd_cnt : Snd E k .cnt := by
  refine sndS rfl rfl fun {c X W st} G h => ?_
  split at h
  · exact ms_cnt
  · cases h
end
end Mz

end

section
set_option Elab.async false
set_option linter.all false
set_option maxRecDepth 100000
set_option maxHeartbeats 4000000
namespace Mz
open PySem PySem.Spec L2
section
variable {E : PEnv} {k : Nat}
theorem snd_fld {o : T} {f : Str} (io : Snd E k o) : Snd E k (.fld o f) := by
  refine sndE rfl rfl (fun {c X W e} G h => ?_) (fun {c X W e} G h hp => ?_) rfl
  · cases e with
    | Attribute x n p =>
      obtain ⟨h, h3⟩ := and2 h
      obtain ⟨h1, h2⟩ := and2 h
      have h1 := of_decide_eq_true h1
      subst h1
      exact me_fld G.fls (io.e G h3) (base_ok h2)
    | _ => cases h
  · cases e with
    | Attribute x n p => cases hp
    | _ => cases h
theorem snd_fasg {o e : T} {f : Str} (io : Snd E k o) (ie : Snd E k e) : Snd E k (.fasg o f e) := by
  refine sndS rfl rfl fun {c X W st} G h => ?_
  split at h
  · obtain ⟨h, h4⟩ := and2 h
    obtain ⟨h, h3⟩ := and2 h
    obtain ⟨h1, h2⟩ := and2 h
    have h1 := of_decide_eq_true h1
    subst h1
    exact ms_fasg G.fls (io.e G h2) (ie.e G h3) (sw_ok h4)
  · cases h
theorem snd_faug {o e : T} {f : Str} {p : Bop} (io : Snd E k o) (ie : Snd E k e) : Snd E k (.faug o f p e) := by
  refine sndS rfl rfl fun {c X W st} G h => ?_
  split at h
  · obtain ⟨h, h5⟩ := and2 h
    obtain ⟨h, h4⟩ := and2 h
    obtain ⟨h, h3⟩ := and2 h
    obtain ⟨h1, h2⟩ := and2 h
    have h1 := of_decide_eq_true h1
    subst h1
    have h2 := of_decide_eq_true h2
    subst h2
    refine ms_faug ?_ G.fls (io.e G h4) (ie.e G h5)
    rw [Bool.or_eq_true] at h3
    rcases h3 with h3 | h3
    · exact .inl (eq_of_beq h3)
    · exact .inr (eq_of_beq h3)
  · cases h
theorem snd_stkE : Snd E k .stkE := by
  refine sndE rfl rfl (fun {c X W e} G h => ⟨fun pins s σ H Q I q => ?_⟩) (fun {c X W e} G h hp => ?_) rfl
  · obtain ⟨m, S, g, hs, hr, hp⟩ := q
    exact hp.elim
  · have h : plainT e = true := h
    rw [h] at hp; cases hp
theorem snd_stk : Snd E k .stk := by
  refine sndS (p := fun _ _ => true) rfl rfl fun {c X W st} G h => ⟨fun pins s σ H D I q => ?_⟩
  obtain ⟨m, S, g, hs, hr, hp⟩ := q
  exact False.elim hp
theorem snd_rai {C : Str} : Snd E k (.rai C) := by
  refine sndS rfl rfl fun {c X W st} G h => ?_
  split at h
  · obtain ⟨h, h3⟩ := and2 h
    obtain ⟨h1, h2⟩ := and2 h
    have h1 := of_decide_eq_true h1
    subst h1
    obtain ⟨g1, g2, g3⟩ := gl_of G h2
    obtain ⟨c, k1, k2, k3⟩ := G.xcl _ (of_decide_eq_true h3)
    exact ms_rai G.calm G.tk k3 k2 k1 g1 g2
  · cases h
theorem Good.tr {c : C0} {X : Cx} {W W' : WX} (G : Good E k c X W) (pn : List (Addr × Obj)) (xe : Value → Shared → Prop) (tk : Takes (X.tr pn xe) W') (po : PassesOwn (model X.prog X.w) X.A X.env xe) : Good E k c (X.tr pn xe) W' :=
  ⟨G.hN, G.nd, G.sc, G.kd, G.calm, G.fn, G.tp, tk, po, G.room, G.gd, G.fns, G.mts, G.mks, G.fls, G.xcl, G.xms, G.gls, G.blt⟩
theorem Good.nox {c : C0} {X : Cx} {W : WX} (G : Good E k c X W) : Good E k c X.nox (fun _ _ _ _ => False) :=
  ⟨G.hN, G.nd, G.sc, G.kd, G.calm, G.fn, G.tp, takes0, PassesOwn.never, G.room, G.gd, G.fns, G.mts, G.mks, G.fls, G.xcl, G.xms, G.gls, G.blt⟩
theorem snd_try {b : T} {C : Str} {i j : Nat} (ib : Snd E k b) : Snd E k (.try_ b C i j) := by
  refine sndS rfl rfl fun {c X W st} G h => ?_
  split at h
  · obtain ⟨h, h10⟩ := and2 h
    obtain ⟨h, h9⟩ := and2 h
    obtain ⟨h, h8⟩ := and2 h
    obtain ⟨h, h7⟩ := and2 h
    obtain ⟨h, h6⟩ := and2 h
    obtain ⟨h, h5⟩ := and2 h
    obtain ⟨h, h4⟩ := and2 h
    obtain ⟨h, h3⟩ := and2 h
    obtain ⟨h1, h2⟩ := and2 h
    have h2 := of_decide_eq_true h2
    subst h2
    have h4 := of_decide_eq_true h4
    subst h4
    obtain ⟨g1, g2, g3⟩ := gl_of G h3
    obtain ⟨l1, l2, l3⟩ := lcl_of G h5
    obtain ⟨_, l5, l6⟩ := lcl_of G h6
    obtain ⟨t1, t2⟩ := G.tp h9
    obtain ⟨⟨A, C', bb⟩, me, e⟩ := List.mem_map.mp (of_decide_eq_true h10)
    cases e
    obtain ⟨_, cc, _, k2, _⟩ := G.xms _ _ _ me
    exact ms_try t1 t2 l1 l2 l5 l3 l6 g1 g2 (by simpa using h7) (by simpa using h8) G.xms k2 G.tk fun W' pn xe tk po => ib.b (G.tr pn xe tk po) h1
  · cases h
theorem snd_thru {b : T} (ib : Snd E k b) : Snd E k (.thru b) := by
  refine sndS rfl rfl fun {c X W st} G h => ?_
  split at h
  · exact ms_thru (ib.b G.nox h)
  · cases h
theorem meth_inv {f : C0 → Expr → Str → Pos → List Expr → Pos → Bool} {c : C0} {e : Expr} (h : (match e with | .Call (.Attribute y n q) es [] r => f c y n q es r | _ => false) = true) : ∃ y n q es r, e = .Call (.Attribute y n q) es [] r ∧ f c y n q es r = true := by
  split at h
  · exact ⟨_, _, _, _, _, rfl, h⟩
  · cases h
theorem snd_meth {C m x : Str} {o as : T} (io : Snd E k o) (ia : Snd E k as) : Snd E k (.meth C m x o as) := by
  have inv : ∀ {c : C0} {e : Expr}, (chk E.st (.meth C m x o as)).e c e = true → ∃ y q es r, e = .Call (.Attribute y m q) es [] r ∧ (q.endLine == r.line) = true ∧ noCall0 y = true ∧ (chk E.st o).e c y = true ∧ (chk E.st as).a c es = true ∧ es.all noStar = true ∧ es.length < 29 ∧ (C, m, x) ∈ E.st.mts ∧ (x, es.length + 1) ∈ E.st.cal ∧ es.length = lenT as := by
    intro c e h
    obtain ⟨y, n, q, es, r, rfl, h⟩ := meth_inv (f := fun c y n q es r => decide (n = m) && (q.endLine == r.line) && noCall0 y && (chk E.st o).e c y && (chk E.st as).a c es && es.all noStar && decide (es.length < 29) && decide ((C, m, x) ∈ E.st.mts) && decide ((x, es.length + 1) ∈ E.st.cal) && decide (es.length = lenT as)) h
    obtain ⟨h, h10⟩ := and2 h
    obtain ⟨h, h9⟩ := and2 h
    obtain ⟨h, h8⟩ := and2 h
    obtain ⟨h, h7⟩ := and2 h
    obtain ⟨h, h6⟩ := and2 h
    obtain ⟨h, h5⟩ := and2 h
    obtain ⟨h, h4⟩ := and2 h
    obtain ⟨h, h3⟩ := and2 h
    obtain ⟨h1, h2⟩ := and2 h
    have h1 := of_decide_eq_true h1
    subst h1
    exact ⟨y, q, es, r, rfl, h2, h3, h4, h5, h6, of_decide_eq_true h7, of_decide_eq_true h8, of_decide_eq_true h9, of_decide_eq_true h10⟩
  refine sndE rfl rfl (fun {c X W e} G h => ?_) (fun {c X W e} G h hp => ?_) rfl
  · obtain ⟨y, q, es, r, rfl, h2, h3, h4, h5, h6, h7, h8, h9, h10⟩ := inv h
    obtain ⟨cl, a, fd, ps, k1, k2, k3, fa⟩ := G.mts C m x h8
    obtain ⟨ds, dvs, b1, b2, b3, b4⟩ := fa.cal _ h9
    obtain ⟨pa, pl⟩ := ia.a G h5
    rw [h10] at b4 b3
    have ok := fa.ok
    rw [show E.st.ar x = es.length + (E.st.dfl x (lenT as + 1)).length + 1 by rw [h10]; omega] at ok
    refine me_meth (es := es) k1 b3 ?_ pl
    cases es with
    | nil =>
      refine peI (Fg.methG0 (io.e G h4) k2 k3 ok (G.room.mono (Nat.le_succ _)) G.gd b1 b2 (fun σ => passAt G.tk σ) (meth_tree h3 h6 h7 h2)) fun σ H Q hq => ?_
      cases as with
      | nil =>
        obtain ⟨m1, S, g, hs, hr, hp⟩ := hq
        refine ⟨m1, S, g, hs, hr, Post.mono (fun d m2 H2 z v r => ?_) hp⟩
        obtain ⟨a1, dx, fs, e1, e2, e3, m3, S3, g3, s3, r3, hp3⟩ := z v r
        exact ⟨a1, dx, fs, e1, e2, e3, hp3.now s3 [] .nil⟩
      | _ => cases h5
    | cons e es =>
      simp only [List.all_cons, Bool.and_eq_true] at h6
      exact Fg.methG (io.e G h4) k2 k3 ok (G.room.mono (Nat.le_succ _)) G.gd b1 b2 (fun σ => passAt G.tk σ) pa (star_ok es h6.1) (star_any _ h6.2) (meth_tree h3 (by simp only [List.all_cons, Bool.and_eq_true]; exact h6) h7 h2)
  · obtain ⟨y, q, es, r, rfl, _⟩ := inv h
    cases hp
theorem snd_make {C x : Str} {as : T} (ia : Snd E k as) : Snd E k (.make C x as) := by
  have inv : ∀ {c : C0} {e : Expr}, (chk E.st (.make C x as)).e c e = true → ∃ es p q, e = .Call (.Name C p) es [] q ∧ glB c C = true ∧ (chk E.st as).a c es = true ∧ es.all noStar = true ∧ (C, x) ∈ E.st.mks ∧ (x, es.length + 1) ∈ E.st.cal ∧ es.length = lenT as := by
    intro c e h
    obtain ⟨y, es, p, q, rfl, h⟩ := call_inv (f := fun c y es => decide (y = C) && glB c y && (chk E.st as).a c es && es.all noStar && decide ((C, x) ∈ E.st.mks) && decide ((x, es.length + 1) ∈ E.st.cal) && decide (es.length = lenT as)) h
    obtain ⟨h, h7⟩ := and2 h
    obtain ⟨h, h6⟩ := and2 h
    obtain ⟨h, h5⟩ := and2 h
    obtain ⟨h, h4⟩ := and2 h
    obtain ⟨h, h3⟩ := and2 h
    obtain ⟨h1, h2⟩ := and2 h
    have h1 := of_decide_eq_true h1
    subst h1
    exact ⟨es, p, q, rfl, h2, h3, h4, of_decide_eq_true h5, of_decide_eq_true h6, of_decide_eq_true h7⟩
  refine sndE rfl rfl (fun {c X W e} G h => ?_) (fun {c X W e} G h hp => ?_) rfl
  · obtain ⟨es, p, q, rfl, h1, h3, h4, h5, h6, h7⟩ := inv h
    obtain ⟨g1, g2, g3⟩ := gl_of G h1
    obtain ⟨cl, a, fd, ps, k0, k1, k2, fa⟩ := G.mks C x h5
    obtain ⟨pa, pl⟩ := ia.a G h3
    obtain ⟨ds, dvs, b1, b2, b3, b4⟩ := fa.cal _ h6
    rw [h7] at b4 b3
    have ok := fa.ok
    rw [show E.st.ar x = es.length + (E.st.dfl x (lenT as + 1)).length + 1 by rw [h7]; omega] at ok
    refine me_make (es := es) k1 b3 ?_ pl
    cases es with
    | nil =>
      refine peI (Fg.makeG0 k2 ok G.room G.gd g1 k0 b1 b2 (fun σ => passAt G.tk σ) g2) fun σ H Q hq => ?_
      cases as with
      | nil =>
        obtain ⟨m1, S, g, hs, hr, hp⟩ := hq
        exact hp.now hs [] .nil
      | _ => cases h3
    | cons e es =>
      simp only [List.all_cons, Bool.and_eq_true] at h4
      exact Fg.makeG k2 ok G.room G.gd g1 k0 b1 b2 (fun σ => passAt G.tk σ) pa g2 (star_ok es h4.1) (star_any _ h4.2)
  · obtain ⟨es, p, q, rfl, _⟩ := inv h
    cases hp
theorem snd_cald {f : Str} {as : T} (ia : Snd E k as) : Snd E k (.cald f as) := by
  have inv : ∀ {c : C0} {e : Expr}, (chk E.st (.cald f as)).e c e = true → ∃ es p q, e = .Call (.Name f p) es [] q ∧ glB c f = true ∧ f ∈ E.st.fns ∧ (chk E.st as).a c es = true ∧ es.all noStar = true ∧ (f, es.length) ∈ E.st.cal ∧ es.length = lenT as := by
    intro c e h
    obtain ⟨x, es, p, q, rfl, h⟩ := call_inv (f := fun c x es => decide (x = f) && glB c x && decide (x ∈ E.st.fns) && (chk E.st as).a c es && es.all noStar && decide ((x, es.length) ∈ E.st.cal) && decide (es.length = lenT as)) h
    obtain ⟨h, h7⟩ := and2 h
    obtain ⟨h, h6⟩ := and2 h
    obtain ⟨h, h5⟩ := and2 h
    obtain ⟨h, h4⟩ := and2 h
    obtain ⟨h, h3⟩ := and2 h
    obtain ⟨h1, h2⟩ := and2 h
    have h1 := of_decide_eq_true h1
    subst h1
    exact ⟨es, p, q, rfl, h2, of_decide_eq_true h3, h4, h5, of_decide_eq_true h6, of_decide_eq_true h7⟩
  refine sndE rfl rfl (fun {c X W e} G h => ?_) (fun {c X W e} G h hp => ?_) rfl
  · obtain ⟨es, p, q, rfl, h1, h2, h4, h5, h6, h7⟩ := inv h
    obtain ⟨g1, g2, g3⟩ := gl_of G h1
    obtain ⟨a, fd, ps, e2, e3, fa⟩ := G.fns f h2
    obtain ⟨ds, dvs, b1, b2, b3, b4⟩ := fa.cal _ h6
    rw [h7] at b4 b3
    obtain ⟨pa, pl⟩ := ia.a G h4
    have key : ∀ {e : Expr}, PE X e (tCallSD (spD (kw X) (E.st.ar f) (E.F f)) dvs (WE W) (tDA (kw X) W (sem E as).a)) → PE X e (tD (kw X) W (eL (fun ds S => E.F f (ds ++ E.st.dfl f (lenT as)) S) (sem E as).a)) := fun h =>
      peI h fun σ H Q ⟨m, S, g, hs, hr, hp⟩ => ⟨m, S, g, hs, hr, hp.bind fun ds S1 e1 m1 H1 x1 s1 hp v1 r1 => by
        have rr := r1.append (b3 m1 H1)
        refine ⟨?_, m1, S1, _, s1, rr, hp⟩
        rw [← rr.length, List.length_append, pl _ _ _ _ e1, h7]; exact b4⟩
    cases es with
    | nil =>
      refine key (peI (Fg.callG0 fa.ok (G.room.mono (Nat.le_succ _)) G.gd g1 e2 e3 b1 b2 (fun σ => passAt G.tk σ) g2) fun σ H Q h => ?_)
      cases as with
      | nil =>
        obtain ⟨m, S, g, hs, hr, hp⟩ := h
        exact hp.now hs [] .nil
      | _ => cases h4
    | cons e es =>
      simp only [List.all_cons, Bool.and_eq_true] at h5
      exact key (Fg.callG fa.ok (G.room.mono (Nat.le_succ _)) G.gd g1 e2 e3 b1 b2 (fun σ => passAt G.tk σ) pa g2 (star_ok es h5.1) (star_any _ h5.2))
  · obtain ⟨es, p, q, rfl, _⟩ := inv h
    cases hp
theorem kw_inv {f : C0 → Str → List Expr → Keyword → List Keyword → Bool} {c : C0} {e : Expr} (h : (match e with | .Call (.Name x _) es (w :: ws) _ => f c x es w ws | _ => false) = true) : ∃ x es w ws p q, e = .Call (.Name x p) es (w :: ws) q ∧ f c x es w ws = true := by
  split at h
  · exact ⟨_, _, _, _, _, _, rfl, h⟩
  · cases h
theorem snd_kcall {f : Str} {ks : List Str} {as kas : T} (ia : Snd E k as) (ik : Snd E k kas) : Snd E k (.kcall f ks as kas) := by
  have inv : ∀ {c : C0} {e : Expr}, (chk E.st (.kcall f ks as kas)).e c e = true → ∃ es w ws p q, e = .Call (.Name f p) es (w :: ws) q ∧ glB c f = true ∧ f ∈ E.st.fns ∧ (chk E.st as).a c es = true ∧ es.all noStar = true ∧ (chk E.st kas).a c ((w :: ws).map Keyword.value) = true ∧ (w :: ws).map Keyword.arg = ks.map some ∧ (f, es.length, ks) ∈ E.st.kal ∧ es.length = lenT as := by
    intro c e h
    obtain ⟨x, es, w, ws, p, q, rfl, h⟩ := kw_inv (f := fun c x es w ws => decide (x = f) && glB c x && decide (x ∈ E.st.fns) && (chk E.st as).a c es && es.all noStar && (chk E.st kas).a c ((w :: ws).map Keyword.value) && decide ((w :: ws).map Keyword.arg = ks.map some) && decide ((x, es.length, ks) ∈ E.st.kal) && decide (es.length = lenT as)) h
    obtain ⟨h, h9⟩ := and2 h
    obtain ⟨h, h8⟩ := and2 h
    obtain ⟨h, h7⟩ := and2 h
    obtain ⟨h, h6⟩ := and2 h
    obtain ⟨h, h5⟩ := and2 h
    obtain ⟨h, h4⟩ := and2 h
    obtain ⟨h, h3⟩ := and2 h
    obtain ⟨h1, h2⟩ := and2 h
    have h1 := of_decide_eq_true h1
    subst h1
    exact ⟨es, w, ws, p, q, rfl, h2, of_decide_eq_true h3, h4, h5, h6, of_decide_eq_true h7, of_decide_eq_true h8, of_decide_eq_true h9⟩
  refine sndE rfl rfl (fun {c X W e} G h => ?_) (fun {c X W e} G h hp => ?_) rfl
  · obtain ⟨es, w, ws, p, q, rfl, h1, h2, h4, h5, h6, h7, h8, h9⟩ := inv h
    obtain ⟨g1, g2, g3⟩ := gl_of G h1
    obtain ⟨a, fd, ps, e2, e3, fa⟩ := G.fns f h2
    obtain ⟨⟨gg, gV, b1, b2⟩, b3⟩ := fa.kwd _ _ h8
    obtain ⟨pa, pl⟩ := ia.a G h4
    obtain ⟨_, pk⟩ := ik.a G h6
    have ak := ik.ak G h6
    have kl : ((w :: ws).map Keyword.value).length = ks.length := by
      have := congrArg List.length h7
      rw [List.length_map, List.length_map] at this
      rw [List.length_map]; exact this
    have ok := fa.ok
    rw [← fa.len, ← b3] at ok
    rw [h9] at b1 b2 ok pl
    refine me_kw (n := lenT as) (ks := ks) b2 ?_ pl fun g S ds S' e => (pk g S ds S' e).trans kl
    cases es with
    | nil =>
      cases as with
      | nil =>
        refine peI (Fg.callGN0 (g := gg) ok (G.room.mono (Nat.le_succ _)) G.gd g1 e2 e3 b1 (fun σ => passAt G.tk σ) ak (kw_all h7).1 (kw_all h7).2.1 g2 (by rw [(kw_all h7).2.2]; rfl)) fun σ H Q hq => ?_
        obtain ⟨m1, S, g, hs, hr, hp⟩ := hq
        exact hp.now hs [] .nil
      | _ => cases h4
    | cons e es =>
      have h5' := h5
      simp only [List.all_cons, Bool.and_eq_true] at h5'
      exact Fg.callGN (g := gg) ok (G.room.mono (Nat.le_succ _)) G.gd g1 e2 e3 b1 (fun σ => passAt G.tk σ) pa ak (kw_all h7).1 (kw_all h7).2.1 g2 (star_ok es h5'.1) (by rw [star_any _ h5, (kw_all h7).2.2]; rfl)
  · obtain ⟨es, w, ws, p, q, rfl, _⟩ := inv h
    cases hp
theorem snd_kmake {C x : Str} {ks : List Str} {as kas : T} (ia : Snd E k as) (ik : Snd E k kas) : Snd E k (.kmake C x ks as kas) := by
  have inv : ∀ {c : C0} {e : Expr}, (chk E.st (.kmake C x ks as kas)).e c e = true → ∃ es w ws p q, e = .Call (.Name C p) es (w :: ws) q ∧ glB c C = true ∧ (chk E.st as).a c es = true ∧ es.all noStar = true ∧ (chk E.st kas).a c ((w :: ws).map Keyword.value) = true ∧ (w :: ws).map Keyword.arg = ks.map some ∧ (C, x) ∈ E.st.mks ∧ (x, es.length + 1, ks) ∈ E.st.kal ∧ es.length = lenT as := by
    intro c e h
    obtain ⟨y, es, w, ws, p, q, rfl, h⟩ := kw_inv (f := fun c y es w ws => decide (y = C) && glB c y && (chk E.st as).a c es && es.all noStar && (chk E.st kas).a c ((w :: ws).map Keyword.value) && decide ((w :: ws).map Keyword.arg = ks.map some) && decide ((C, x) ∈ E.st.mks) && decide ((x, es.length + 1, ks) ∈ E.st.kal) && decide (es.length = lenT as)) h
    obtain ⟨h, h9⟩ := and2 h
    obtain ⟨h, h8⟩ := and2 h
    obtain ⟨h, h3⟩ := and2 h
    obtain ⟨h, h7⟩ := and2 h
    obtain ⟨h, h6⟩ := and2 h
    obtain ⟨h, h5⟩ := and2 h
    obtain ⟨h, h4⟩ := and2 h
    obtain ⟨h1, h2⟩ := and2 h
    have h1 := of_decide_eq_true h1
    subst h1
    exact ⟨es, w, ws, p, q, rfl, h2, h4, h5, h6, of_decide_eq_true h7, of_decide_eq_true h3, of_decide_eq_true h8, of_decide_eq_true h9⟩
  refine sndE rfl rfl (fun {c X W e} G h => ?_) (fun {c X W e} G h hp => ?_) rfl
  · obtain ⟨es, w, ws, p, q, rfl, h1, h4, h5, h6, h7, h2, h8, h9⟩ := inv h
    obtain ⟨g1, g2, g3⟩ := gl_of G h1
    obtain ⟨cl, a, fd, ps, k0, c1, c2, fa⟩ := G.mks C x h2
    obtain ⟨⟨gg, gV, b1, b2⟩, b3⟩ := fa.kwd _ _ h8
    obtain ⟨pa, pl⟩ := ia.a G h4
    obtain ⟨_, pk⟩ := ik.a G h6
    have ak := ik.ak G h6
    have kl : ((w :: ws).map Keyword.value).length = ks.length := by
      have := congrArg List.length h7
      rw [List.length_map, List.length_map] at this
      rw [List.length_map]; exact this
    have ok := fa.ok
    rw [← fa.len, ← b3] at ok
    rw [h9] at b1 b2 ok pl
    refine me_mkw (n := lenT as) (ks := ks) c1 b2 ?_ pl fun g S ds S' e => (pk g S ds S' e).trans kl
    cases es with
    | nil =>
      cases as with
      | nil =>
        refine peI (Fg.makeGN0 (g := gg) c2 ok G.room G.gd g1 k0 b1 (fun σ => passAt G.tk σ) ak (kw_all h7).1 (kw_all h7).2.1 g2 (by rw [(kw_all h7).2.2]; rfl)) fun σ H Q hq => ?_
        obtain ⟨m1, S, g, hs, hr, hp⟩ := hq
        exact hp.now hs [] .nil
      | _ => cases h4
    | cons e es =>
      have h5' := h5
      simp only [List.all_cons, Bool.and_eq_true] at h5'
      exact Fg.makeGN (g := gg) c2 ok G.room G.gd g1 k0 b1 (fun σ => passAt G.tk σ) pa ak (kw_all h7).1 (kw_all h7).2.1 g2 (star_ok es h5'.1) (by rw [star_any _ h5, (kw_all h7).2.2]; rfl)
  · obtain ⟨es, w, ws, p, q, rfl, _⟩ := inv h
    cases hp
theorem lrg_inv {f : C0 → Str → Str → Expr → Bool} {c : C0} {e : Expr} (h : (match e with | .Call (.Name x _) [.Call (.Name y _) [z] [] _] [] _ => f c x y z | _ => false) = true) : ∃ x y z p p2 q r, e = .Call (.Name x p) [.Call (.Name y p2) [z] [] q] [] r ∧ f c x y z = true := by
  split at h
  · exact ⟨_, _, _, _, _, _, _, rfl, h⟩
  · cases h
theorem mem_list1 : ("list" : Str) ∈ bltNames := by decide +kernel
theorem snd_lrg {a : T} (ia : Snd E k a) : Snd E k (.lrg a) := by
  have inv : ∀ {c : C0} {e : Expr}, (chk E.st (.lrg a)).e c e = true → ∃ z p p2 q r, e = .Call (.Name "list" p) [.Call (.Name "range" p2) [z] [] q] [] r ∧ glB c "list" = true ∧ glB c "range" = true ∧ (chk E.st a).e c z = true ∧ noStar z = true := by
    intro c e h
    obtain ⟨x, y, z, p, p2, q, r, rfl, h⟩ := lrg_inv (f := fun c x y z => decide (x = ("list" : Str)) && glB c x && decide (y = ("range" : Str)) && glB c y && (chk E.st a).e c z && noStar z) h
    obtain ⟨h, h6⟩ := and2 h
    obtain ⟨h, h5⟩ := and2 h
    obtain ⟨h, h4⟩ := and2 h
    obtain ⟨h, h3⟩ := and2 h
    obtain ⟨h1, h2⟩ := and2 h
    have h1 := of_decide_eq_true h1
    have h3 := of_decide_eq_true h3
    subst h1
    subst h3
    exact ⟨z, p, p2, q, r, rfl, h2, h4, h5, h6⟩
  refine sndE rfl rfl (fun {c X W e} G h => ?_) (fun {c X W e} G h hp => ?_) rfl
  · obtain ⟨z, p, p2, q, r, rfl, h1, h2, h3, h4⟩ := inv h
    exact me_lrg G.calm (gl_of G h1).1 (G.blt _ mem_list1) (gl_of G h2).1 (G.blt _ mem_range) (ia.e G h3) (star_ok [] h4)
  · obtain ⟨z, p, p2, q, r, rfl, _⟩ := inv h
    cases hp
end
end Mz

end

section
set_option Elab.async false
set_option linter.all false
set_option maxRecDepth 100000
set_option maxHeartbeats 4000000
namespace Mz
open PySem PySem.Spec L2
section
variable {E : PEnv} {k : Nat} {c : C0} {X : Cx} {W : WX}
theorem par_ok {x y : Str} {p p' q1 q2 : Pos} {a b : Expr} {k1 k2 : Nat} {env : Env} (hk : env.scope.kind = .function) (hx : env.scope.names.lookup x = some .local) (hy : env.scope.names.lookup y = some .local) (hl : (p'.line == p.line) = true)
    (hst : [a, b].all noStar = true) (hd : [x, y].eraseDups.length = [x, y].length) (hf : [a, b].all (foldedForSure 8) = false) (hc : [a, b].all (constantsAlone 8) = false) :
    swappedStores [.Tuple [.Name x p, .Name y p'] k1 q1] (.Tuple [a, b] k2 q2) env = pure (some [x, y]) := by
  have bk : env.blockKind = .function := by unfold Env.blockKind; rw [hk]; rfl
  have kx : env.kindOf x = some .local := hx
  have ky : env.kindOf y = some .local := hy
  simp only [List.all_cons, List.all_nil, Bool.and_true, Bool.and_eq_true] at hst
  unfold swappedStores
  simp only [bk, hf, hc]
  simp [kx, ky, Expr.pos, eq_of_beq hl]
  rw [if_neg ?_]
  · rw [if_pos (by simpa using hd)]
  · intro h
    rcases h with h | h
    · cases a with
      | Starred _ _ => exact absurd hst.1 Bool.false_ne_true
      | _ => cases h
    · cases b with
      | Starred _ _ => exact absurd hst.2 Bool.false_ne_true
      | _ => cases h
theorem snd_par {i j : Nat} {as : T} (ia : Snd E k as) : Snd E k (.par i j as) := by
  refine sndS rfl rfl fun {c X W st} G h => ?_
  split at h
  · rename_i x p y p' k1 q1 vs k2 q2 q
    obtain ⟨h, h6⟩ := and2 h
    obtain ⟨h, h5⟩ := and2 h
    obtain ⟨h, h4⟩ := and2 h
    obtain ⟨h, h3⟩ := and2 h
    obtain ⟨h1, h2⟩ := and2 h
    obtain ⟨l1, l2, l3⟩ := lcl_of G h1
    obtain ⟨_, l5, l6⟩ := lcl_of G h2
    obtain ⟨pa, pl⟩ := ia.a G h4
    unfold parB at h6
    obtain ⟨h6, e5⟩ := and2 h6
    obtain ⟨h6, e4⟩ := and2 h6
    obtain ⟨h6, e3⟩ := and2 h6
    obtain ⟨e1, e2⟩ := and2 h6
    cases vs with
    | nil => cases h5
    | cons a vs =>
      cases vs with
      | nil => cases h5
      | cons b vs =>
        cases vs with
        | cons _ _ => simp at h5
        | nil =>
          simp only [List.all_cons, List.all_nil, Bool.and_true, Bool.and_eq_true] at e2
          refine ms_par (ps_par G.calm l1 l2 l5 (of_decide_eq_true h3) l3 l6 pa (par_ok (by rw [G.sc]; exact G.kd) l3 l6 ?_ e1 (of_decide_eq_true e3) ?_ ?_) rfl)
          · exact e2.2.2
          · rw [Bool.not_eq_true'] at e4; exact e4
          · rw [Bool.not_eq_true'] at e5; exact e5
  · cases h
theorem snd_all : ∀ t : T, Snd E k t := by
  intro t
  induction t with
  | nil => exact snd_nil
  | cons a b ia ib => exact snd_cons ia ib
  | var i => exact snd_var
  | glb x => exact snd_glb
  | int i => exact snd_int
  | str i => exact snd_str
  | bl i => exact snd_bl
  | non => exact snd_non
  | bin p a b ia ib => exact snd_bin ia ib
  | cmp p a b ia ib => exact snd_cmp ia ib
  | chain p q a b c ia ib ic => exact snd_chain ia ib ic
  | neg a ia => exact snd_neg ia
  | nt a ia => exact snd_nt ia
  | and a b ia ib => exact snd_and ia ib
  | or a b ia ib => exact snd_or ia ib
  | ife t a b it ia ib => exact snd_ife it ia ib
  | tup a ia => exact snd_tup ia
  | lst a ia => exact snd_lst ia
  | sub a b ia ib => exact snd_sub ia ib
  | sli a b c ia ib ic => exact snd_sli ia ib ic
  | rev a ia => exact snd_rev ia
  | call f a ia => exact snd_call ia
  | blt f a ia => exact snd_blt ia
  | mth f o a io ia => exact snd_mth io ia
  | lc own tg it ts el itg iit its iel => exact snd_lc itg iit its iel
  | fst a ia => exact snd_fst ia
  | fmt a ia => exact snd_fmt ia
  | isi p a ia => exact snd_isi ia
  | irng a ia => exact snd_irng ia
  | ienum a ia => exact snd_ienum ia
  | izip a ia => exact snd_izip ia
  | asg a b ia ib => exact snd_asg ia ib
  | alc i own tg it ts el itg iit its iel => exact snd_alc itg iit its iel
  | aug i p e ie => exact snd_aug ie
  | par i j a ia => exact snd_par ia
  | par3 i j l a ia => exact sndS (p := fun _ _ => false) rfl rfl fun _ h => by cases h
  | ifs t a b it ia ib => exact snd_ifs it ia ib
  | whl n t b it ib => exact snd_whl it ib
  | for_ t i b it ii ib => exact snd_for it ii ib
  | ret e ie => exact snd_ret ie
  | retN => exact snd_retN
  | ex e ie => exact snd_ex ie
  | pas => exact snd_pas
  | brk => exact snd_brk
  | cnt => exact snd_cnt
  | fld o f io => exact snd_fld io
  | fasg o f e io ie => exact snd_fasg io ie
  | faug o f p e io ie => exact snd_faug io ie
  | meth C m x o a io ia => exact snd_meth io ia
  | make C x a ia => exact snd_make ia
  | cald f a ia => exact snd_cald ia
  | stkE => exact snd_stkE
  | stk => exact snd_stk
  | rai C => exact snd_rai
  | try_ b C i j ib => exact snd_try ib
  | thru b ib => exact snd_thru ib
  | kcall f ks a b ia ib => exact snd_kcall ia ib
  | kmake C x ks a b ia ib => exact snd_kmake ia ib
  | lrg a ia => exact snd_lrg ia
  | lc2 own tg it ts tg1 it1 ts1 el itg iit its itg1 iit1 its1 iel => exact snd_lc2 itg iit its itg1 iit1 its1 iel
  | sls a lo hi ia il ih => exact snd_sls ia il ih
end

/-! ### defs -/
structure Def0 where
  ar : Nat
  n : Nat
  body : T
def endR : R → O D
  | .rt d S => .ok d S
  | .nx _ S => .ok .non S
  | .ex x _ S => .ex x S
  | _ => .no
def startG (n : Nat) (ds : List D) : Sg := ds.map some ++ List.replicate (n - ds.length) none
def runBody (n : Nat) (b : SS) (ds : List D) (S : Store) : O D := endR (b (startG n ds) S)
theorem RVs.start {K : Fw} {m : List Addr} {H : Hp} {N : List Str} : ∀ {ds : List D} {vs : List V}, RVs K m H ds vs → RVo K m H (startG N.length ds) (L2.start N vs) := by
  intro ds vs r
  unfold startG L2.start
  refine ⟨by simp [r.length], fun i d h => ?_⟩
  by_cases hi : i < ds.length
  · rw [List.getElem?_append_left (by simpa using hi), List.getElem?_map] at h
    cases q : ds[i]? with
    | none => rw [q] at h; cases h
    | some d' =>
      rw [q] at h
      cases h
      obtain ⟨v, e, rv⟩ := r.get q
      refine ⟨v, ?_, rv⟩
      rw [List.getElem?_append_left (by rw [List.length_map, ← r.length]; exact hi), List.getElem?_map, e]
      rfl
  · rw [List.getElem?_append_right (by simpa using hi)] at h
    rw [List.getElem?_replicate] at h
    split at h <;> cases h
/-- a def as it stands, whatever its defaults -/
def FunA (K : PySem.W.Frag) (st : Stmt) (f : Addr) (fd : FuncData) : Prop := ∃ (x qual : Str) (oc : Value) (od : Option Addr) (dV kV doc pm : Value) (an : Option Addr) (cdv ct : Value) (osl : Array (Option Value)),
  fd = PySem.W.fnOf x qual (defArgs st) (defBody st) (defScope st) dV kV doc pm an cdv ct ∧ K.lookup f = some ⟨oc, od, .func fd, osl⟩ ∧ PySem.W.codeIn K cdv qual = true
/-- what a def's body may lean on -/
structure Top (P : Program) (w : World) (K : PySem.W.Frag) (mg : Str → Option Value) (base : Heap) (E : PEnv) (k : Nat) : Prop where
  fns : ∀ f ∈ E.st.fns, ∃ a fd ps, mg f = some (.ref a) ∧ PySem.W.keepIn K (.ref a) = true ∧ FnAt P w K mg base E.st f k a fd ps (E.F f)
  mts : ∀ C m x, (C, m, x) ∈ E.st.mts → ∃ c a fd ps, clsOf ⟨K, w⟩ C c ∧ Cls K c ∧ Meth K c m a ∧ FnAt P w K mg base E.st x k a fd ps (E.F x)
  mks : ∀ C x, (C, x) ∈ E.st.mks → ∃ c a fd ps, mg C = some (.ref c) ∧ clsOf ⟨K, w⟩ C c ∧ Mk K c a ∧ FnAt P w K mg base E.st x k a fd ps (E.F x)
  fls : ∀ C f, (C, f) ∈ E.st.fls → ∃ c, clsOf ⟨K, w⟩ C c ∧ Cls K c ∧ NoAttr K c f
  xcl : ∀ C ∈ E.st.xcl, ∃ c, mg C = some (.ref c) ∧ clsOf ⟨K, w⟩ C c ∧ XcC K c
  xms : ∀ A C b, (A, C, b) ∈ E.st.xms → ∃ a c, clsOf ⟨K, w⟩ A a ∧ mg C = some (.ref c) ∧ PySem.W.exmOne K (.ref a) (.ref c) = some b
  gls : ∀ x ∈ E.st.gls, ∃ d u v, E.G x = some d ∧ mg x = some u ∧ RelV v u ∧ ∀ m H, RV ⟨K, w⟩ m H d v
  blt : ∀ x ∈ bltNames, mg x = none
theorem fn_ok {P : Program} {w : World} {K : PySem.W.Frag} {mg : Str → Option Value} {base : Heap} {E : PEnv} {k : Nat} {st : Stmt} {f : Addr} {fd : FuncData} {N ps : List Str} {body : T} (F : FunA K st f fd) (S : FnScope N ps (defScope st))
    (tp : Top P w K mg base E k) (ck : (chk E.st body).b ⟨N, defScope st, true⟩ (defBody st) = true) : Fg.FnG P w K mg base (L2.CX P w) (k + 2) f fd ps (spD ⟨K, w⟩ ps.length (fun ds S => runBody N.length (sem E body).b ds S)) := by
  obtain ⟨x, qual, oc, od, dV, kV, doc, pm, an, cdv, ct, osl, rfl, lk, hcd⟩ := F
  refine Fg.fnG_of lk hcd S (fun vs H Q E h => h.1) fun A outer s H vs Q E' hr hgd h => ?_
  have G : Good E k ⟨N, defScope st, true⟩ (cxOf (L2.CX P w) P w K mg base N qual (defScope st) f cdv A outer s H E') (fun cls d _ H => E' cls d H) :=
    ⟨rfl, S.nd, rfl, S.kind, rfl, fun _ _ => rfl, fun _ => ⟨rfl, rfl⟩, takes_of rfl rfl rfl rfl, passes_of rfl, hr, hgd, tp.fns, tp.mts, tp.mks, tp.fls, tp.xcl, tp.xms, tp.gls, tp.blt⟩
  refine ⟨_, (snd_all body).b G ck, ?_⟩
  obtain ⟨_, m, S0, ds, hs, rs, hp⟩ := h
  refine ⟨m, S0, startG N.length ds, hs, rs.start, ?_⟩
  have hp : PostE ⟨K, w⟩ E' m H Q (endR ((sem E body).b (startG N.length ds) S0)) := hp
  show PostS ⟨K, w⟩ _ m H _ ((sem E body).b (startG N.length ds) S0)
  cases e : (sem E body).b (startG N.length ds) S0 with
  | nx g S1 => rw [e] at hp; exact fun σ m' H' x' s' _ => hp m' H' x' s' .non .non
  | rt d S1 => rw [e] at hp; exact fun v m' H' x' s' r => hp m' H' x' s' v r
  | bk g S1 => rw [e] at hp; exact hp.elim
  | ct g S1 => rw [e] at hp; exact hp.elim
  | ex x g S1 => rw [e] at hp; exact fun σ m' H' c d x' s' _ xr => hp m' H' c d x' s' xr
  | no => rw [e] at hp; exact hp.elim

/-! ### the whole program, by fuel -/
structure Prg where
  tab : List (Str × Def0)
  G : List (Str × D)
  tops : List Str := tab.map (·.1)
  mts : List (Str × Str × Str) := []
  mks : List (Str × Str) := []
  fls : List (Str × Str) := []
  xcl : List Str := []
  xms : List (Str × Str × Bool) := []
  cal : List (Str × Nat) := []
  dfl : List (Str × List D) := []
  kws : List ((Str × Nat × List Str) × List KS) := []
def Prg.ar (p : Prg) (f : Str) : Nat := match p.tab.lookup f with | some d => d.ar | none => 0
def Prg.df (p : Prg) (f : Str) (n : Nat) : List D := match p.dfl.lookup f with | some ds => ds.drop (ds.length - (p.ar f - n)) | none => []
def Prg.kp (p : Prg) (f : Str) (n : Nat) (ks : List Str) : List KS := match p.kws.find? fun q => decide (q.1 = (f, n, ks)) with | some q => q.2 | none => []
def Prg.st (p : Prg) : PSt := ⟨p.ar, p.tops, p.G.map (·.1), p.df, p.cal, p.mts, p.mks, p.fls, p.xcl, p.xms, p.kws.map (·.1), p.kp⟩
def Prg.env (p : Prg) (F : Str → List D → Store → O D) : PEnv := ⟨F, fun x => p.G.lookup x, p.st⟩
def Prg.run (p : Prg) : Nat → Str → List D → Store → O D
  | 0 => fun _ _ _ => .no
  | k + 1 => fun f ds S => match p.tab.lookup f with
    | some d => if ds.length = d.ar then runBody d.n (sem (p.env (p.run k)) d.body).b ds S else .no
    | none => .no
/-- a def of the table stands in the text -/
structure At (K : PySem.W.Frag) (w : World) (p : Prg) (x : Str) (d : Def0) (ps N : List Str) (st : Stmt) (a : Addr) (fd : FuncData) : Prop where
  fu : FunA K st a fd
  ca : ∀ n, (x, n) ∈ p.cal → ∃ ds dvs, Binds K fd ps ds ∧ Vals dvs ds ∧ (∀ m H, RVs ⟨K, w⟩ m H (p.df x n) dvs) ∧ n + (p.df x n).length = d.ar
  kw : ∀ n ks, (x, n, ks) ∈ p.kws.map (·.1) → KwOk ⟨K, w⟩ fd ps n ks (p.kp x n ks)
  sc : FnScope N ps (defScope st)
  ar : ps.length = d.ar
  n : N.length = d.n
  ck : (chk p.st d.body).b ⟨N, defScope st, true⟩ (defBody st) = true
theorem spD_no {K : Fw} {n : Nat} {vs : List V} {H : Hp} {Q : VK} {E : XK} : ¬ spD K n (fun _ _ => .no) vs H Q E := fun h => by
  obtain ⟨_, m, S, ds, hs, rs, hp⟩ := h
  exact hp
/-- the program's text as it is told of -/
structure PrgAt (K : PySem.W.Frag) (w : World) (mg : Str → Option Value) (p : Prg) : Prop where
  fns : ∀ f ∈ p.tops, ∃ d a fd ps N st, p.tab.lookup f = some d ∧ At K w p f d ps N st a fd ∧ mg f = some (.ref a) ∧ PySem.W.keepIn K (.ref a) = true
  mts : ∀ C m x, (C, m, x) ∈ p.mts → ∃ d c a fd ps N st, p.tab.lookup x = some d ∧ At K w p x d ps N st a fd ∧ clsOf ⟨K, w⟩ C c ∧ Cls K c ∧ Meth K c m a
  mks : ∀ C x, (C, x) ∈ p.mks → ∃ d c a fd ps N st, p.tab.lookup x = some d ∧ At K w p x d ps N st a fd ∧ mg C = some (.ref c) ∧ clsOf ⟨K, w⟩ C c ∧ Mk K c a
  fls : ∀ C f, (C, f) ∈ p.fls → ∃ c, clsOf ⟨K, w⟩ C c ∧ Cls K c ∧ NoAttr K c f
  xcl : ∀ C ∈ p.xcl, ∃ c, mg C = some (.ref c) ∧ clsOf ⟨K, w⟩ C c ∧ XcC K c
  xms : ∀ A C b, (A, C, b) ∈ p.xms → ∃ a c, clsOf ⟨K, w⟩ A a ∧ mg C = some (.ref c) ∧ PySem.W.exmOne K (.ref a) (.ref c) = some b
  gls : ∀ x ∈ p.G.map (·.1), ∃ d u v, p.G.lookup x = some d ∧ mg x = some u ∧ RelV v u ∧ ∀ m H, RV ⟨K, w⟩ m H d v
  blt : ∀ x ∈ bltNames, mg x = none
theorem prg_ok {P : Program} {w : World} {K : PySem.W.Frag} {mg : Str → Option Value} {base : Heap} (p : Prg) (pa : PrgAt K w mg p) :
    ∀ k x d ps N st a fd, p.tab.lookup x = some d → At K w p x d ps N st a fd → Fg.FnG P w K mg base (L2.CX P w) (2 * k) a fd ps (spD ⟨K, w⟩ d.ar (p.run k x)) := by
  intro k
  induction k with
  | zero =>
    intro x d ps N st a fd h at'
    exact ⟨fun vs H Q E h => absurd h spD_no, fun A outer s H args us vs Q E _ _ _ _ _ h => absurd h spD_no⟩
  | succ k ih =>
    have fnat : ∀ x d ps N st a fd, p.tab.lookup x = some d → At K w p x d ps N st a fd → FnAt P w K mg base p.st x (2 * k) a fd ps (p.run k x) := by
      intro x d ps N st a fd h at'
      have ea : p.st.ar x = d.ar := by show p.ar x = d.ar; unfold Prg.ar; rw [h]
      exact ⟨by rw [ea]; exact at'.ar, by rw [ea]; exact ih x d ps N st a fd h at', fun n hn => by rw [ea]; exact at'.ca n hn, at'.kw⟩
    have tp : Top P w K mg base (p.env (p.run k)) (2 * k) := by
      refine ⟨fun f hf => ?_, fun C m x hx => ?_, fun C x hx => ?_, pa.fls, pa.xcl, pa.xms, pa.gls, pa.blt⟩
      · obtain ⟨d, a, fd, ps, N, st, h1, h2, h3, h4⟩ := pa.fns f hf
        exact ⟨a, fd, ps, h3, h4, fnat f d ps N st a fd h1 h2⟩
      · obtain ⟨d, c, a, fd, ps, N, st, h1, h2, h3, h4, h5⟩ := pa.mts C m x hx
        exact ⟨c, a, fd, ps, h3, h4, h5, fnat x d ps N st a fd h1 h2⟩
      · obtain ⟨d, c, a, fd, ps, N, st, h1, h2, h3, h4, h5⟩ := pa.mks C x hx
        exact ⟨c, a, fd, ps, h3, h4, h5, fnat x d ps N st a fd h1 h2⟩
    intro x d ps N st a fd h at'
    have F := fn_ok (P := P) (w := w) (base := base) (E := p.env (p.run k)) (k := 2 * k) at'.fu at'.sc tp at'.ck
    rw [at'.ar, at'.n] at F
    refine (show 2 * (k + 1) = 2 * k + 2 by omega) ▸ F.imp fun vs H Q E q => ⟨q.1, ?_⟩
    obtain ⟨hl, m, S, ds, hs, rs, hp⟩ := q
    refine ⟨m, S, ds, hs, rs, ?_⟩
    have e : p.run (k + 1) x ds S = runBody d.n (sem (p.env (p.run k)) d.body).b ds S := by
      show (match p.tab.lookup x with | some d => if ds.length = d.ar then runBody d.n (sem (p.env (p.run k)) d.body).b ds S else .no | none => .no) = _
      rw [h]
      show (if ds.length = d.ar then runBody d.n (sem (p.env (p.run k)) d.body).b ds S else .no) = _
      rw [if_pos (by rw [rs.length]; exact hl)]
    rw [e] at hp
    exact hp
theorem lk_cons {x y : Str} {d e : Def0} {r : List (Str × Def0)} (h : ((y, e) :: r).lookup x = some d) : (y = x ∧ e = d) ∨ r.lookup x = some d := by
  rw [List.lookup_cons] at h
  split at h
  · rename_i hb
    exact .inl ⟨(eq_of_beq hb).symm, Option.some.inj h⟩
  · exact .inr h
/-- the law's promise at its end -/
theorem law_end {K : Fw} {f : List D → Store → O D} (hf : ∀ ns : List Int, ns.length ≤ 63 → ∃ S, f [.cl (ns.map .int)] [] = .ok (.bl true) S) :
    ∀ (H : Hp) (a : Addr) (ns : List Int), ns.length ≤ 63 → Only H → SqL K.K H a (ns.map V.int) → spD K 1 f [.ref a] H (fun v _ => v = .bl true) fun _ _ _ => False := by
  intro H a ns hl ho hq
  have hc : SqC K H a (ns.map V.int) := by
    rcases hq with (h | ⟨o, h⟩) | h
    · rcases ho a with e | ⟨o, xs, e⟩
      · rw [e] at h; cases h
      · rw [e] at h; cases h
    · exact .inl ⟨o, h⟩
    · exact .inr h
  have rs : ∀ ns : List Int, RVs K [] H (ns.map D.int) (ns.map V.int) := by
    intro ns
    induction ns with
    | nil => exact .nil
    | cons n ns ih => exact .cons (.int n) ih
  refine ⟨rfl, [], [], [.cl (ns.map .int)], ⟨rfl, fun i j a h => by simp at h, fun n a c h => by simp at h⟩, .cons (.cl hc (rs ns)) .nil, ?_⟩
  obtain ⟨S, e⟩ := hf ns hl
  rw [e]
  intro v m' H' _ _ r
  cases r
  rfl
end Mz
namespace Mz
open PySem PySem.Spec L2
theorem cal_in {l : List (Str × Nat)} {x : Str} {ns : List Nat} (h : (l.filter fun p => decide (p.1 = x)).map (·.2) = ns) {n : Nat} (hn : (x, n) ∈ l) : n ∈ ns := by
  rw [← h]
  exact List.mem_map.mpr ⟨(x, n), List.mem_filter.mpr ⟨hn, by simp⟩, rfl⟩
theorem df_none {p : Prg} {x : Str} {n : Nat} (h : (p.dfl.lookup x).isNone = true) : p.df x n = [] := by
  unfold Prg.df
  rw [Option.isNone_iff_eq_none.mp h]
theorem df_nil {p : Prg} {x : Str} {n : Nat} {K : Fw} {m : List Addr} {H : Hp} (h : (p.dfl.lookup x).isNone = true) : RVs K m H (p.df x n) [] := by
  rw [df_none h]; exact .nil
theorem cx_no {P : Program} {w : World} {H : Hp} {s s' : Shared} {e : Value} (h : L2.CX P w [] H s (fun _ _ _ => False) e s') : False := by
  obtain ⟨_, _, _, _, _, _, _, _, _, _, _, _, _, _, _, _, z⟩ := h
end Mz

end

section
set_option Elab.async false
set_option linter.all false
set_option maxRecDepth 100000
namespace Mz
open PySem PySem.Spec L2
/-! ### how a call with keywords binds -/
inductive PS where
  | p (i : Nat) | m (i : Nat) | k (i : Nat)
def PS.at {α : Type} (us mv ws : List α) : PS → Option α
  | .p i => us[i]? | .m i => mv[i]? | .k i => ws[i]?
def pick (pl : List PS) {α : Type} (us mv ws : List α) : List α := pl.filterMap (PS.at us mv ws)
theorem vals_get {vs : List V} {us : List Value} (r : Vals vs us) (i : Nat) : (vs[i]? = none ∧ us[i]? = none) ∨ ∃ v u, vs[i]? = some v ∧ us[i]? = some u ∧ RelV v u := by
  by_cases h : i < vs.length
  · obtain ⟨u, e1, e2⟩ := r.get (List.getElem?_eq_getElem h)
    exact .inr ⟨_, u, List.getElem?_eq_getElem h, e1, e2⟩
  · exact .inl ⟨List.getElem?_eq_none (by omega), List.getElem?_eq_none (by rw [← r.length]; omega)⟩
theorem pick_rel (pl : List PS) {vs mz zs : List V} {us mv ws : List Value} (r1 : Vals vs us) (r2 : Vals mz mv) (r3 : Vals zs ws) : Vals (pick pl vs mz zs) (pick pl us mv ws) := by
  have one : ∀ s : PS, (PS.at vs mz zs s = none ∧ PS.at us mv ws s = none) ∨ ∃ v u, PS.at vs mz zs s = some v ∧ PS.at us mv ws s = some u ∧ RelV v u
    | .p i => vals_get r1 i | .m i => vals_get r2 i | .k i => vals_get r3 i
  induction pl with
  | nil => exact .nil
  | cons s pl ih =>
    unfold pick at ih ⊢
    rcases one s with ⟨e1, e2⟩ | ⟨v, u, e1, e2, r⟩
    · rw [List.filterMap_cons_none e1, List.filterMap_cons_none e2]; exact ih
    · rw [List.filterMap_cons_some e1, List.filterMap_cons_some e2]; exact .cons r ih
inductive KR (K : Fw) (n m : Nat) (mz : List V) : KS → PS → Prop
  | p {i : Nat} : i < n → KR K n m mz (.p i) (.p i)
  | k {i : Nat} : i < m → KR K n m mz (.k i) (.k i)
  | c {d : D} {i : Nat} {v : V} : mz[i]? = some v → (∀ m H, RV K m H d v) → KR K n m mz (.c d) (.m i)
inductive KRs (K : Fw) (n m : Nat) (mz : List V) : List KS → List PS → Prop
  | nil : KRs K n m mz [] []
  | cons {a : KS} {b : PS} {as : List KS} {bs : List PS} : KR K n m mz a b → KRs K n m mz as bs → KRs K n m mz (a :: as) (b :: bs)
theorem rvs_getD {K : Fw} {m : List Addr} {H : Hp} {ds : List D} {vs : List V} (r : RVs K m H ds vs) {i : Nat} (h : i < ds.length) : ∃ v, vs[i]? = some v ∧ RV K m H (ds.getD i .non) v := by
  obtain ⟨v, e1, e2⟩ := r.get (List.getElem?_eq_getElem h)
  refine ⟨v, e1, ?_⟩
  rw [List.getD_eq_getElem?_getD, List.getElem?_eq_getElem h]
  exact e2
theorem gath_ok {K : Fw} {n m : Nat} {mz : List V} {kpl : List KS} {pl : List PS} (r : KRs K n m mz kpl pl) {a : List Addr} {H : Hp} {ds es : List D} {vs zs : List V} (r1 : RVs K a H ds vs) (r2 : RVs K a H es zs) (l1 : ds.length = n) (l2 : es.length = m) : RVs K a H (gath kpl ds es) (pick pl vs mz zs) := by
  induction r with
  | nil => exact .nil
  | cons h _ ih =>
    unfold gath pick at *
    cases h with
    | p hi =>
      obtain ⟨v, e1, e2⟩ := rvs_getD r1 (l1 ▸ hi)
      rw [List.filterMap_cons_some (show PS.at vs mz zs (.p _) = some v from e1)]
      exact .cons e2 ih
    | k hi =>
      obtain ⟨v, e1, e2⟩ := rvs_getD r2 (l2 ▸ hi)
      rw [List.filterMap_cons_some (show PS.at vs mz zs (.k _) = some v from e1)]
      exact .cons e2 ih
    | c e1 e2 =>
      rw [List.filterMap_cons_some (show PS.at vs mz zs (.m _) = some _ from e1)]
      exact .cons (e2 _ _) ih
theorem KRs.len {K : Fw} {n m : Nat} {mz : List V} {kpl : List KS} {pl : List PS} (r : KRs K n m mz kpl pl) : kpl.length = pl.length := by
  induction r with
  | nil => rfl
  | cons _ _ ih => rw [List.length_cons, List.length_cons, ih]
section
variable {K : PySem.W.Frag} {w : World} {x qual : Str} {params : Arguments} {body : List Stmt} {scope : Scope} {kws : List (Str × V)} {f : Addr} {fd : FuncData} {ps ks : List Str} {n : Nat} {kpl : List KS}
/-- keyword-only defaults, no others -/
theorem kw_mk0 (F : FunD K x qual params body scope [] kws f fd) (ms : List (Str × V)) (pl : List PS) (hk : kws ≠ []) (hms : ∀ q ∈ ms, q ∈ kws) (r : KRs ⟨K, w⟩ n ks.length (ms.map (·.2)) kpl pl) (hl : pl.length = ps.length)
    (h : ∀ (D : Addr) (doc pm : Value) (an : Option Addr) (cdv ct : Value) (us mv ws : List Value), us.length = n → mv.length = ms.length → ws.length = ks.length →
      KwChain D ((ms.map (·.1)).zip mv) (bindArgs (PySem.W.fnOf x qual params body scope .none (.ref D) doc pm an cdv ct) ⟨us, ks.zip ws⟩) (ps.zip (pick pl us mv ws))) : KwOk ⟨K, w⟩ fd ps n ks kpl := by
  obtain ⟨mv, hb⟩ := FunD.kbinds0 F n ks ms (pick pl) hk hms (pick_rel pl) h
  exact ⟨⟨_, _, hb, fun m H ds vs es zs r1 r2 l1 l2 => gath_ok r r1 r2 l1 l2⟩, by rw [r.len, hl]⟩
/-- no defaults -/
theorem kw_mkN {kV doc pm cdv ct : Value} {an : Option Addr} (pl : List PS) (r : KRs ⟨K, w⟩ n ks.length [] kpl pl) (hl : pl.length = ps.length)
    (h : ∀ us ws : List Value, us.length = n → ws.length = ks.length → bindArgs (PySem.W.fnOf x qual params body scope .none kV doc pm an cdv ct) ⟨us, ks.zip ws⟩ = pure (ps.zip (pick pl us [] ws))) : KwOk ⟨K, w⟩ (PySem.W.fnOf x qual params body scope .none kV doc pm an cdv ct) ps n ks kpl :=
  ⟨⟨fun us ws => pick pl us [] ws, fun vs zs => pick pl vs [] zs, ⟨fun s us ws _ l1 l2 => .of_eq (h us ws l1 l2), fun r1 r2 => pick_rel pl r1 .nil r2⟩, fun m H ds vs es zs r1 r2 l1 l2 => gath_ok r r1 r2 l1 l2⟩, by rw [r.len, hl]⟩
/-- defaults by place -/
theorem kw_mkD {dvs : List V} (F : FunD K x qual params body scope dvs kws f fd) (pl : List PS) (hd : dvs ≠ []) (r : KRs ⟨K, w⟩ n ks.length dvs kpl pl) (hl : pl.length = ps.length)
    (h : ∀ (T : Addr) (kV doc pm : Value) (an : Option Addr) (cdv ct : Value) (us its ws : List Value), us.length = n → its.length = dvs.length → ws.length = ks.length →
      ∃ k, bindArgs (PySem.W.fnOf x qual params body scope (.ref T) kV doc pm an cdv ct) ⟨us, ks.zip ws⟩ = seqItems? (.ref T) >>= k ∧ k (some its.toArray) = pure (ps.zip (pick pl us its ws))) : KwOk ⟨K, w⟩ fd ps n ks kpl := by
  obtain ⟨its, hb⟩ := FunD.kbindsD F n ks (pick pl) hd (pick_rel pl) h
  exact ⟨⟨_, _, hb, fun m H ds vs es zs r1 r2 l1 l2 => gath_ok r r1 r2 l1 l2⟩, by rw [r.len, hl]⟩
theorem kw_no {l : List (Str × Nat × List Str)} {x : Str} (h : (l.filter fun p => decide (p.1 = x)) = []) {n : Nat} {ks : List Str} (hn : (x, n, ks) ∈ l) {P : Prop} : P := by
  have : (x, n, ks) ∈ l.filter fun p => decide (p.1 = x) := List.mem_filter.mpr ⟨hn, by simp⟩
  rw [h] at this
  cases this
theorem kw_in {l : List (Str × Nat × List Str)} {x : Str} {ns : List (Nat × List Str)} (h : (l.filter fun p => decide (p.1 = x)).map (·.2) = ns) {n : Nat} {ks : List Str} (hn : (x, n, ks) ∈ l) : (n, ks) ∈ ns := by
  rw [← h]
  exact List.mem_map.mpr ⟨(x, n, ks), List.mem_filter.mpr ⟨hn, by simp⟩, rfl⟩
end
end Mz

end

section
set_option Elab.async false
set_option linter.all false
set_option maxRecDepth 100000
namespace Mz
open PySem PySem.Spec L2

/-! ### what an outcome is to be: Y, Z what an exception is to be -/
def SatX {α : Type} (Y : Xc → Store → Prop) (o : O α) (Q : α → Store → Prop) : Prop := match o with
  | .ok a S => Q a S
  | .ex x S => Y x S
  | .no => False
def SatRX (Z : Xc → Sg → Store → Prop) (r : R) (N : Sg → Store → Prop) (Rt : D → Store → Prop) (B C : Sg → Store → Prop) : Prop := match r with
  | .nx g S => N g S
  | .rt d S => Rt d S
  | .bk g S => B g S
  | .ct g S => C g S
  | .ex x g S => Z x g S
  | .no => False
/-- .. none -/
abbrev Sat {α : Type} (o : O α) (Q : α → Store → Prop) : Prop := SatX (fun _ _ => False) o Q
abbrev SatR (r : R) (N : Sg → Store → Prop) (Rt : D → Store → Prop) (B C : Sg → Store → Prop) : Prop := SatRX (fun _ _ _ => False) r N Rt B C
section
variable {α β : Type} {a : α} {S : Store} {Q Q' : α → Store → Prop} {o : O α} {Y Y' : Xc → Store → Prop} {Z : Xc → Sg → Store → Prop}
theorem SatX.mono (h : SatX Y o Q) (i : ∀ a S, Q a S → Q' a S) : SatX Y o Q' := by
  cases o with | ok a S => exact i a S h | ex _ _ => exact h | no => exact h
theorem Sat.mono (h : Sat o Q) (i : ∀ a S, Q a S → Q' a S) : Sat o Q' := SatX.mono h i
theorem SatX.monoX (h : SatX Y o Q) (i : ∀ a S, Q a S → Q' a S) (j : ∀ x S, Y x S → Y' x S) : SatX Y' o Q' := by
  cases o with | ok a S => exact i a S h | ex x S => exact j x S h | no => exact h
/-- what raises nothing, where something might be -/
theorem Sat.up (h : Sat o Q) (i : ∀ a S, Q a S → Q' a S) : SatX Y o Q' := SatX.monoX h i fun _ _ z => z.elim
theorem Sat.ex (h : Sat o Q) : ∃ a S, o = .ok a S ∧ Q a S := by
  cases o with | ok a S => exact ⟨a, S, rfl, h⟩ | ex _ _ => exact h.elim | no => exact h.elim
theorem Sat.of {a : α} (h : o = .ok a S) (q : Q a S) : SatX Y o Q := by rw [h]; exact q
theorem sat_ok : SatX Y (.ok a S) Q ↔ Q a S := Iff.rfl
theorem sat_no : SatX Y (.no : O α) Q ↔ False := Iff.rfl
theorem sat_ex {x : Xc} : SatX Y (.ex x S : O α) Q ↔ Y x S := Iff.rfl
theorem sat_bind {k : β → Store → O α} {o : O β} : SatX Y (o.bind k) Q ↔ SatX Y o fun a S => SatX Y (k a S) Q := by
  cases o <;> exact Iff.rfl
theorem sat_ite {c : Prop} [Decidable c] {o o' : O α} : SatX Y (if c then o else o') Q ↔ (c → SatX Y o Q) ∧ (¬ c → SatX Y o' Q) := by
  by_cases h : c
  · rw [if_pos h]; exact ⟨fun q => ⟨fun _ => q, fun n => absurd h n⟩, fun q => q.1 h⟩
  · rw [if_neg h]; exact ⟨fun q => ⟨fun n => absurd n h, fun _ => q⟩, fun q => q.2 h⟩
variable {r : R} {N N' B C : Sg → Store → Prop} {Rt : D → Store → Prop} {g : Sg}
theorem SatRX.mono (h : SatRX Z r N Rt B C) (i : ∀ g S, N g S → N' g S) : SatRX Z r N' Rt B C := by
  cases r <;> first | exact i _ _ h | exact h
theorem SatR.mono (h : SatR r N Rt B C) (i : ∀ g S, N g S → N' g S) : SatR r N' Rt B C := SatRX.mono h i
theorem satR_nx : SatRX Z (.nx g S) N Rt B C ↔ N g S := Iff.rfl
theorem satR_rt {d : D} : SatRX Z (.rt d S) N Rt B C ↔ Rt d S := Iff.rfl
theorem satR_bk : SatRX Z (.bk g S) N Rt B C ↔ B g S := Iff.rfl
theorem satR_ct : SatRX Z (.ct g S) N Rt B C ↔ C g S := Iff.rfl
theorem satR_ex {x : Xc} : SatRX Z (.ex x g S) N Rt B C ↔ Z x g S := Iff.rfl
theorem satR_no : SatRX Z .no N Rt B C ↔ False := Iff.rfl
theorem satR_bindR {g : Sg} {o : O α} {k : α → Store → R} : SatRX Z (bindR g o k) N Rt B C ↔ SatX (fun x S => Z x g S) o fun a S => SatRX Z (k a S) N Rt B C := by
  cases o <;> exact Iff.rfl
theorem satR_ite {c : Prop} [Decidable c] {o o' : R} : SatRX Z (if c then o else o') N Rt B C ↔ (c → SatRX Z o N Rt B C) ∧ (¬ c → SatRX Z o' N Rt B C) := by
  by_cases h : c
  · rw [if_pos h]; exact ⟨fun q => ⟨fun _ => q, fun n => absurd h n⟩, fun q => q.1 h⟩
  · rw [if_neg h]; exact ⟨fun q => ⟨fun n => absurd n h, fun _ => q⟩, fun q => q.2 h⟩
theorem satR_cons {a b : SS} : SatRX Z (sCons a b g S) N Rt B C ↔ SatRX Z (a g S) (fun g S => SatRX Z (b g S) N Rt B C) Rt B C := by
  unfold sCons
  cases a g S <;> exact Iff.rfl
theorem sat_endR {Q : D → Store → Prop} : SatX Y (endR r) Q ↔ SatRX (fun x _ S => Y x S) r (fun _ S => Q .non S) Q (fun _ _ => False) (fun _ _ => False) := by
  cases r <;> exact Iff.rfl
theorem satX_runBody {n : Nat} {b : SS} {ds : List D} {Q : D → Store → Prop} : SatX Y (runBody n b ds S) Q ↔ SatRX (fun x _ S => Y x S) (b (startG n ds) S) (fun _ S => Q .non S) Q (fun _ _ => False) (fun _ _ => False) := sat_endR
theorem sat_runBody {n : Nat} {b : SS} {ds : List D} {Q : D → Store → Prop} : Sat (runBody n b ds S) Q ↔ SatR (b (startG n ds) S) (fun _ S => Q .non S) Q (fun _ _ => False) (fun _ _ => False) := sat_endR
end

theorem sat_guard {α : Type} {c : Prop} [Decidable c] {o : O α} {Q : α → Store → Prop} {Y : Xc → Store → Prop} : SatX Y (if c then o else .no) Q ↔ c ∧ SatX Y o Q := by
  by_cases h : c
  · rw [if_pos h]; exact ⟨fun q => ⟨h, q⟩, fun q => q.2⟩
  · rw [if_neg h]; exact ⟨fun q => q.elim, fun q => absurd q.1 h⟩

/-! ### statements, one by one -/
section
variable {f : SE} {t : ST} {a b : SS} {g g' : Sg} {S S' S1 : Store} {d : D} {N B C : Sg → Store → Prop} {Rt : D → Store → Prop} {Y : Xc → Store → Prop} {Z : Xc → Sg → Store → Prop}
theorem q_cons (h : SatRX Z (a g S) (fun g S => SatRX Z (b g S) N Rt B C) Rt B C) : SatRX Z (sCons a b g S) N Rt B C := satR_cons.mpr h
theorem q_nil (h : N g S) : SatRX Z (sNil g S) N Rt B C := h
theorem q_asg {i : Nat} (h : f g S = .ok d S') (k : N (g.set i (some d)) S') : SatRX Z (sAsg f (gVar i) g S) N Rt B C := by
  unfold sAsg
  rw [h]
  exact k
theorem q_asgS {i : Nat} (h : SatX (fun x S => Z x g S) (f g S) fun d S' => N (g.set i (some d)) S') : SatRX Z (sAsg f (gVar i) g S) N Rt B C := by
  unfold sAsg
  rw [satR_bindR]
  exact h
theorem q_asgG {tg : SG} (h : f g S = .ok d S1) (h2 : tg d g S1 = .ok g' S') (k : N g' S') : SatRX Z (sAsg f tg g S) N Rt B C := by
  unfold sAsg
  rw [h]
  show SatRX Z (bindR g (tg d g S1) _) N Rt B C
  rw [h2]
  exact k
theorem q_asgGS {tg : SG} (h : SatX (fun x S => Z x g S) (f g S) fun d S1 => SatX (fun x S => Z x g S) (tg d g S1) fun g' S' => N g' S') : SatRX Z (sAsg f tg g S) N Rt B C := by
  unfold sAsg
  rw [satR_bindR]
  exact h.mono fun d S1 h => satR_bindR.mpr h
theorem q_if {c : Bool} (h : t g S = .ok c S') (ht : c = true → SatRX Z (a g S') N Rt B C) (hf : c = false → SatRX Z (b g S') N Rt B C) : SatRX Z (sIf t a b g S) N Rt B C := by
  unfold sIf
  rw [h]
  cases c with
  | true => exact ht rfl
  | false => exact hf rfl
theorem q_ifS (h : SatX (fun x S => Z x g S) (t g S) fun c S' => (c = true → SatRX Z (a g S') N Rt B C) ∧ (c = false → SatRX Z (b g S') N Rt B C)) : SatRX Z (sIf t a b g S) N Rt B C := by
  unfold sIf
  rw [satR_bindR]
  refine h.mono fun c S' h => ?_
  cases c with
  | true => exact h.1 rfl
  | false => exact h.2 rfl
theorem q_ret (h : f g S = .ok d S') (k : Rt d S') : SatRX Z (sRet f g S) N Rt B C := by
  unfold sRet
  rw [h]
  exact k
theorem q_retS (h : SatX (fun x S => Z x g S) (f g S) Rt) : SatRX Z (sRet f g S) N Rt B C := by
  unfold sRet
  rw [satR_bindR]
  exact h
theorem q_ex (h : f g S = .ok d S') (k : N g S') : SatRX Z (sEx f g S) N Rt B C := by
  unfold sEx
  rw [h]
  exact k
theorem q_exS (h : SatX (fun x S => Z x g S) (f g S) fun _ S' => N g S') : SatRX Z (sEx f g S) N Rt B C := by
  unfold sEx
  rw [satR_bindR]
  exact h
theorem q_for {it : SI} {tg : SG} {ik : IK} (h : it g S = .ok ik S') (k : SatRX Z (floop ik tg b (ibound ik S') 0 g S') N Rt B C) : SatRX Z (sFor it tg b g S) N Rt B C := by
  unfold sFor
  rw [h]
  exact k
theorem q_forS {it : SI} {tg : SG} (h : SatX (fun x S => Z x g S) (it g S) fun ik S' => SatRX Z (floop ik tg b (ibound ik S') 0 g S') N Rt B C) : SatRX Z (sFor it tg b g S) N Rt B C := by
  unfold sFor
  rw [satR_bindR]
  exact h
end

theorem atI_of0 {α : Type} {xs : List α} {i : Int} {x : α} (h0 : 0 ≤ i) (h : xs[i.toNat]? = some x) : L2.atI xs i = some x := by
  have := atI_nat h
  rwa [Int.toNat_of_nonneg h0] at this
/-! ### the same, by the small text -/
section
variable {E : PEnv} {t e x r a b tg it : T} {g g' : Sg} {S S' S1 : Store} {d : D} {N B C : Sg → Store → Prop} {Rt : D → Store → Prop} {Y : Xc → Store → Prop} {Z : Xc → Sg → Store → Prop}
theorem k_cons (h : SatRX Z ((sem E x).s g S) (fun g S => SatRX Z ((sem E r).b g S) N Rt B C) Rt B C) : SatRX Z ((sem E (.cons x r)).b g S) N Rt B C := q_cons h
theorem k_nil (h : N g S) : SatRX Z ((sem E .nil).b g S) N Rt B C := h
theorem k_asg {i : Nat} (h : (sem E e).e g S = .ok d S') (k : N (g.set i (some d)) S') : SatRX Z ((sem E (.asg (.var i) e)).s g S) N Rt B C := q_asg h k
theorem k_asgS {i : Nat} (h : SatX (fun x S => Z x g S) ((sem E e).e g S) fun d S' => N (g.set i (some d)) S') : SatRX Z ((sem E (.asg (.var i) e)).s g S) N Rt B C := q_asgS h
theorem k_asgG (h : (sem E e).e g S = .ok d S1) (h2 : (sem E tg).g d g S1 = .ok g' S') (k : N g' S') : SatRX Z ((sem E (.asg tg e)).s g S) N Rt B C := q_asgG h h2 k
theorem k_asgGS (h : SatX (fun x S => Z x g S) ((sem E e).e g S) fun d S1 => SatX (fun x S => Z x g S) ((sem E tg).g d g S1) fun g' S' => N g' S') : SatRX Z ((sem E (.asg tg e)).s g S) N Rt B C := q_asgGS h
theorem k_if {c : Bool} (h : (sem E t).t g S = .ok c S') (ht : c = true → SatRX Z ((sem E a).b g S') N Rt B C) (hf : c = false → SatRX Z ((sem E b).b g S') N Rt B C) : SatRX Z ((sem E (.ifs t a b)).s g S) N Rt B C := q_if h ht hf
theorem k_ifS (h : SatX (fun x S => Z x g S) ((sem E t).t g S) fun c S' => (c = true → SatRX Z ((sem E a).b g S') N Rt B C) ∧ (c = false → SatRX Z ((sem E b).b g S') N Rt B C)) : SatRX Z ((sem E (.ifs t a b)).s g S) N Rt B C := q_ifS h
theorem k_ret (h : (sem E e).e g S = .ok d S') (k : Rt d S') : SatRX Z ((sem E (.ret e)).s g S) N Rt B C := q_ret h k
theorem k_retS (h : SatX (fun x S => Z x g S) ((sem E e).e g S) Rt) : SatRX Z ((sem E (.ret e)).s g S) N Rt B C := q_retS h
theorem k_ex (h : (sem E e).e g S = .ok d S') (k : N g S') : SatRX Z ((sem E (.ex e)).s g S) N Rt B C := q_ex h k
theorem k_exS (h : SatX (fun x S => Z x g S) ((sem E e).e g S) fun _ S' => N g S') : SatRX Z ((sem E (.ex e)).s g S) N Rt B C := q_exS h
theorem k_for {ik : IK} (h : (sem E it).i g S = .ok ik S') (k : SatRX Z (floop ik (sem E tg).g (sem E b).b (ibound ik S') 0 g S') N Rt B C) : SatRX Z ((sem E (.for_ tg it b)).s g S) N Rt B C := q_for h k
theorem k_forS (h : SatX (fun x S => Z x g S) ((sem E it).i g S) fun ik S' => SatRX Z (floop ik (sem E tg).g (sem E b).b (ibound ik S') 0 g S') N Rt B C) : SatRX Z ((sem E (.for_ tg it b)).s g S) N Rt B C := q_forS h
end

/-! ### values that are read -/
section
variable {α : Type} {a b c d e f x : α} {r : List α}
theorem at0 : L2.atI (a :: r) 0 = some a := atI_of0 (by decide) rfl
theorem at1 : L2.atI (a :: b :: r) 1 = some b := atI_of0 (by decide) rfl
theorem at2 : L2.atI (a :: b :: c :: r) 2 = some c := atI_of0 (by decide) rfl
theorem at3 : L2.atI (a :: b :: c :: d :: r) 3 = some d := atI_of0 (by decide) rfl
theorem at4 : L2.atI (a :: b :: c :: d :: e :: r) 4 = some e := atI_of0 (by decide) rfl
theorem at5 : L2.atI (a :: b :: c :: d :: e :: f :: r) 5 = some f := atI_of0 (by decide) rfl
end

theorem atI_of {α : Type} {xs : List α} {i : Int} {x : α} (h0 : 0 ≤ i) (h : xs[i.toNat]? = some x) : L2.atI xs i = some x := by
  have := atI_nat h
  rwa [Int.toNat_of_nonneg h0] at this
section
variable {S : Store} {Q : D → Store → Prop} {Y : Xc → Store → Prop} {Z : Xc → Sg → Store → Prop}
theorem item_tup {xs : List D} {i : Int} {x : D} (h0 : 0 ≤ i) (h : xs[i.toNat]? = some x) : semItem (.tup xs) (.int i) S = .ok x S := by
  show (match L2.atI xs i with | some x => O.ok x S | none => .no) = _
  rw [atI_of h0 h]
theorem item_lst {l : Nat} {xs : List D} {i : Int} {x : D} (hS : S[l]? = some (.lst xs)) (h0 : 0 ≤ i) (h : xs[i.toNat]? = some x) : semItem (.loc l) (.int i) S = .ok x S := by
  have e : seqAt S (.loc l) = some xs := by
    show (match S[l]? with | some (.lst xs) => some xs | _ => none) = _
    rw [hS]
  unfold semItem
  simp only [e, atI_of h0 h]
theorem item_cl {xs : List D} {i : Int} {x : D} (h0 : 0 ≤ i) (h : xs[i.toNat]? = some x) : semItem (.cl xs) (.int i) S = .ok x S := by
  show (match L2.atI xs i with | some x => O.ok x S | none => .no) = _
  rw [atI_of h0 h]
theorem item_str {z : Str} {i : Int} {c : Nat} (hz : z.length ≤ sizeLine) (h0 : 0 ≤ i) (h : z.cps.toList[i.toNat]? = some c) : semItem (.str z) (.int i) S = .ok (.str ⟨#[c]⟩) S := by
  show (if z.length ≤ sizeLine then (match L2.atI z.cps.toList i with | some c => O.ok (D.str ⟨#[c]⟩) S | none => .no) else .no) = _
  rw [if_pos hz, atI_of h0 h]
end

/-! ### loops -/
section
variable {ik : IK} {t : SG} {b : SS} {Rt : D → Store → Prop} {B C N : Sg → Store → Prop} {Y : Xc → Store → Prop} {Z : Xc → Sg → Store → Prop}
/-- a loop over fixed values, by an invariant -/
theorem floop_vals {xs : List D} (P : Nat → Sg → Store → Prop)
    (turn : ∀ i d g S, xs[i]? = some d → P i g S → SatX (fun x S => Z x g S) (t d g S) fun g S => SatRX Z (b g S) (P (i + 1)) Rt N (P (i + 1))) (done : ∀ g S, P xs.length g S → N g S) :
    ∀ n i g S, i + n = xs.length + 1 → i ≤ xs.length → P i g S → SatRX Z (floop (.vals xs) t b n i g S) N Rt B C := by
  intro n
  induction n with
  | zero => intro i g S h1 h2; omega
  | succ n ih =>
    intro i g S h1 h2 p
    show SatRX Z (match istep (.vals xs) i S with
      | some (some d) => bindR g (t d g S) fun g S => match b g S with
        | .nx g S => floop (.vals xs) t b n (i + 1) g S
        | .ct g S => floop (.vals xs) t b n (i + 1) g S
        | .bk g S => .nx g S
        | r => r
      | some none => .nx g S
      | none => .no) N Rt B C
    have e : istep (.vals xs) i S = some xs[i]? := rfl
    rw [e]
    by_cases hi : i < xs.length
    · rw [List.getElem?_eq_getElem hi]
      show SatRX Z (bindR g (t xs[i] g S) _) N Rt B C
      rw [satR_bindR]
      refine (turn i xs[i] g S (List.getElem?_eq_getElem hi) p).mono fun g1 S1 h => ?_
      cases q : b g1 S1 with
      | nx g2 S2 => rw [q] at h; exact ih (i + 1) g2 S2 (by omega) (by omega) h
      | ct g2 S2 => rw [q] at h; exact ih (i + 1) g2 S2 (by omega) (by omega) h
      | bk g2 S2 => rw [q] at h; exact h
      | rt d S2 => rw [q] at h; exact h
      | ex x g2 S2 => rw [q] at h; exact h
      | no => rw [q] at h; exact h
    · have e : i = xs.length := by omega
      subst e
      rw [List.getElem?_eq_none (Nat.le_refl _)]
      exact done g S p
/-- a comprehension over fixed values -/
theorem lcLoop_vals {xs : List D} {ts : ST} {el : SE} {g0 : Sg} {Q : List D → Store → Prop} (P : Nat → List D → Store → Prop)
    (turn : ∀ i d acc S, xs[i]? = some d → P i acc S → SatX Y (t d g0 S) fun g S => SatX Y (ts g S) fun c S => (c = true → SatX Y (el g S) fun y S => acc.length < sizeLine ∧ P (i + 1) (acc ++ [y]) S) ∧ (c = false → P (i + 1) acc S))
    (done : ∀ acc S, P xs.length acc S → Q acc S) : ∀ n i acc S, i + n = xs.length + 1 → i ≤ xs.length → P i acc S → SatX Y (lcLoop (.vals xs) t ts el g0 n i acc S) Q := by
  intro n
  induction n with
  | zero => intro i acc S h1 h2; omega
  | succ n ih =>
    intro i acc S h1 h2 p
    show SatX Y (match istep (.vals xs) i S with
      | some (some d) => (t d g0 S).bind fun g S => (ts g S).bind fun c S => if c = true then (el g S).bind fun y S => if acc.length < sizeLine then lcLoop (.vals xs) t ts el g0 n (i + 1) (acc ++ [y]) S else .no else lcLoop (.vals xs) t ts el g0 n (i + 1) acc S
      | some none => .ok acc S
      | none => .no) Q
    have e : istep (.vals xs) i S = some xs[i]? := rfl
    rw [e]
    by_cases hi : i < xs.length
    · rw [List.getElem?_eq_getElem hi]
      show SatX Y ((t xs[i] g0 S).bind _) Q
      rw [sat_bind]
      refine (turn i xs[i] acc S (List.getElem?_eq_getElem hi) p).mono fun g1 S1 h => ?_
      rw [sat_bind]
      refine h.mono fun c S2 h => ?_
      cases c with
      | true =>
        rw [if_pos rfl, sat_bind]
        refine (h.1 rfl).mono fun y S3 h => ?_
        rw [if_pos h.1]
        exact ih (i + 1) _ S3 (by omega) (by omega) h.2
      | false =>
        rw [if_neg Bool.false_ne_true]
        exact ih (i + 1) _ S2 (by omega) (by omega) (h.2 rfl)
    · have e : i = xs.length := by omega
      subst e
      rw [List.getElem?_eq_none (Nat.le_refl _)]
      exact done acc S p
/-- a while loop by an invariant and a measure -/
theorem wloop_inv {c : ST} (P : Nat → Sg → Store → Prop)
    (turn : ∀ m g S, P m g S → SatX (fun x S => Z x g S) (c g S) fun k S => (k = true → SatRX Z (b g S) (fun g S => ∃ m', m' < m ∧ P m' g S) Rt N (fun g S => ∃ m', m' < m ∧ P m' g S)) ∧ (k = false → N g S)) :
    ∀ n m g S, m < n → P m g S → SatRX Z (wloop c b n g S) N Rt B C := by
  intro n
  induction n with
  | zero => intro m g S h; omega
  | succ n ih =>
    intro m g S h p
    show SatRX Z (bindR g (c g S) fun k S => if k = true then (match b g S with
      | .nx g S => wloop c b n g S
      | .ct g S => wloop c b n g S
      | .bk g S => .nx g S
      | r => r) else .nx g S) N Rt B C
    rw [satR_bindR]
    refine (turn m g S p).mono fun k S1 h1 => ?_
    cases k with
    | true =>
      rw [if_pos rfl]
      have h1 := h1.1 rfl
      cases q : b g S1 with
      | nx g2 S2 => rw [q] at h1; obtain ⟨m', hm, p'⟩ := h1; exact ih m' g2 S2 (by omega) p'
      | ct g2 S2 => rw [q] at h1; obtain ⟨m', hm, p'⟩ := h1; exact ih m' g2 S2 (by omega) p'
      | bk g2 S2 => rw [q] at h1; exact h1
      | rt d S2 => rw [q] at h1; exact h1
      | ex x g2 S2 => rw [q] at h1; exact h1
      | no => rw [q] at h1; exact h1
    | false =>
      rw [if_neg Bool.false_ne_true]
      exact h1.2 rfl
end
end Mz

end

section
set_option Elab.async false
set_option linter.all false
set_option maxRecDepth 100000
namespace Mz
open PySem PySem.Spec L2

/-! ### stores -/
def Keep (n : Nat) (S S' : Store) : Prop := S.length ≤ S'.length ∧ ∀ i : Nat, i < S.length → i ≠ n → S'[i]? = S[i]?
theorem Keep.refl (n : Nat) (S : Store) : Keep n S S := ⟨Nat.le_refl _, fun _ _ _ => rfl⟩
theorem Keep.trans {n : Nat} {S S1 S2 : Store} (a : Keep n S S1) (b : Keep n S1 S2) : Keep n S S2 := ⟨Nat.le_trans a.1 b.1, fun i h1 h2 => (b.2 i (by have := a.1; omega) h2).trans (a.2 i h1 h2)⟩
theorem Keep.set {n : Nat} {S : Store} {c : Cell} : Keep n S (S.set n c) := ⟨by simp, fun i h1 h2 => List.getElem?_set_ne (Ne.symm h2)⟩
theorem Keep.app {n : Nat} {S : Store} {c : List Cell} : Keep n S (S ++ c) := ⟨by simp, fun i h1 h2 => List.getElem?_append_left h1⟩
theorem lt_of {S : Store} {n : Nat} {c : Cell} (h : S[n]? = some c) : n < S.length := (List.getElem?_eq_some_iff.mp h).1
theorem Keep.at {n i : Nat} {S S' : Store} {c : Cell} (k : Keep n S S') (h : S[i]? = some c) (ne : i ≠ n) : S'[i]? = some c := (k.2 i (lt_of h) ne).trans h
theorem app_at {S : Store} {i : Nat} {c : Cell} {r : List Cell} (h : S[i]? = some c) : (S ++ r)[i]? = some c := by rw [List.getElem?_append_left (lt_of h)]; exact h
theorem new_at {S : Store} {c : Cell} : (S ++ [c])[S.length]? = some c := by rw [List.getElem?_append_right (Nat.le_refl _)]; simp
theorem set_at {S : Store} {n : Nat} {c c' : Cell} (h : S[n]? = some c') : (S.set n c)[n]? = some c := List.getElem?_set_self (lt_of h)
theorem lstAt_loc {S : Store} {n : Nat} {xs : List D} (h : S[n]? = some (.lst xs)) : lstAt S (.loc n) = some (n, xs) := by
  show (match S[n]? with | some (.lst xs) => some (n, xs) | _ => none) = _
  rw [h]
theorem listAt_loc {S : Store} {n : Nat} {xs : List D} (h : S[n]? = some (.lst xs)) : listAt S (.loc n) = some xs := by
  show (match S[n]? with | some (.lst xs) => some xs | _ => none) = _
  rw [h]
theorem seqAt_loc {S : Store} {n : Nat} {xs : List D} (h : S[n]? = some (.lst xs)) : seqAt S (.loc n) = some xs := listAt_loc h

/-! ### guards -/
theorem mulOk_l {i j : Int} (h1 : -(2 ^ 64) < i) (h2 : i < 2 ^ 64) : mulOk i j = true := by
  unfold mulOk
  rw [decide_eq_true h1, decide_eq_true h2]
  rfl
theorem mulOk_r {i j : Int} (h1 : -(2 ^ 64) < j) (h2 : j < 2 ^ 64) : mulOk i j = true := by
  unfold mulOk
  rw [decide_eq_true h1, decide_eq_true h2]
  simp
theorem divOk_of {j : Int} (h1 : 0 < j) (h2 : j < 2 ^ 64) : divOk j = true := by
  unfold divOk
  rw [decide_eq_true h1]
  have h3 : j.natAbs < 2 ^ 64 := by omega
  have h4 : j.natAbs.log2 < 64 := (Nat.log2_lt (by omega)).mpr h3
  rw [decide_eq_true (by omega)]
  rfl
theorem powOk_of {i j : Int} (h1 : 0 ≤ j) (h2 : j ≤ 1000000) (h3 : i.natAbs < 2 ^ 64) : powOk i j = true := by
  unfold powOk
  rw [decide_eq_true h1, decide_eq_true h2, decide_eq_true h3]
  rfl

/-! ### data of ints -/
theorem py_ints {S : Store} {n : Nat} : ∀ ns : List Int, (ns.map D.int).mapM (toPy S (n + 1)) = some (ns.map PyData.int)
  | [] => rfl
  | x :: ns => by
    rw [List.map_cons, List.mapM_cons, py_ints ns]
    rfl
theorem lay_ints : ∀ ns : List Int, PyData.canLayAll0 (ns.map PyData.int) = true
  | [] => rfl
  | x :: ns => by
    show (PyData.canLay0 (.int x) && PyData.canLayAll0 (ns.map PyData.int)) = true
    rw [lay_ints ns]; rfl
theorem depth_ints : ∀ ns : List Int, PyData.depthAll (ns.map PyData.int) = 0
  | [] => rfl
  | x :: ns => by
    show max (PyData.depth (.int x)) (PyData.depthAll (ns.map PyData.int)) = 0
    rw [depth_ints ns]; rfl
theorem shaped_ints (ns : List Int) : SeqAt.shaped (.list (ns.map PyData.int)) = true := by
  unfold SeqAt.shaped
  have h1 : PyData.canLay0 (.list (ns.map PyData.int)) = true := lay_ints ns
  have h2 : PyData.depth (.list (ns.map PyData.int)) = 1 := by
    show PyData.depthAll (ns.map PyData.int) + 1 = 1
    rw [depth_ints]
  rw [h1, h2]
  decide
theorem py_loc {S : Store} {n l : Nat} {xs : List D} (h : S[l]? = some (.lst xs)) : toPy S (n + 1) (.loc l) = (xs.mapM (toPy S n)).map PyData.list := by
  show (match S[l]? with | some (.lst xs) => (xs.mapM (toPy S n)).map PyData.list | _ => none) = _
  rw [h]
theorem eqv_nil (ps : List PyData) : PyData.eqv (.list ps) (.list []) = ps.isEmpty := by
  cases ps <;> rfl
/-- xs != [] of a list of ints -/
theorem ne_nil {S : Store} {l : Nat} {ns : List Int} (h : S[l]? = some (.lst (ns.map .int))) : semCop .ne (.loc l) (.loc S.length) (S ++ [.lst []]) = .ok (.bl (!ns.isEmpty)) (S ++ [.lst []]) := by
  have e : eqD (.loc l) (.loc S.length) (S ++ [.lst []]) = some ns.isEmpty := by
    unfold eqD
    simp only
    rw [py_loc (app_at h), py_ints, py_loc new_at]
    show (if (SeqAt.shaped (.list (ns.map PyData.int)) && SeqAt.shaped (.list [])) = true then some (PyData.eqv (.list (ns.map PyData.int)) (.list [])) else none) = _
    rw [shaped_ints, eqv_nil, if_pos (by decide)]
    cases ns <;> rfl
  unfold semCop
  simp only [e]

/-! ### the dice of pages and patches -/
structure Dice (S : Store) (n l : Nat) (ns : List Int) (a : Int) : Prop where
  c : ∃ b c, S[n]? = some (.lst [.loc l, .int a, .int b, .int c])
  hl : S[l]? = some (.lst (ns.map .int))
  ne : n ≠ l
theorem Dice.keep {S S' : Store} {n l : Nat} {ns : List Int} {a a' b c : Int} (h : Dice S n l ns a) (k : Keep n S S') (e : S'[n]? = some (.lst [.loc l, .int a', .int b, .int c])) : Dice S' n l ns a' :=
  ⟨⟨b, c, e⟩, k.at h.hl (Ne.symm h.ne), h.ne⟩
theorem Dice.app {S : Store} {n l : Nat} {ns : List Int} {a : Int} (h : Dice S n l ns a) (r : List Cell) : Dice (S ++ r) n l ns a :=
  let ⟨b, c, e⟩ := h.c
  ⟨⟨b, c, app_at e⟩, app_at h.hl, h.ne⟩
end Mz

end

section
set_option Elab.async false
set_option linter.all false
set_option maxRecDepth 100000
local macro_rules | `(tactic| walk_at "ev") => `(tactic| ((try simp only [Mz.sem, Mz.ofE, Mz.eBin, Mz.eUn, Mz.eVar, Mz.eCst, Mz.eNeg, Mz.eL, Mz.aCons, Mz.aNil, Mz.eTup, Mz.eTru, Mz.tOrS, Mz.tAndS, Mz.tNotS, Mz.O.bind_ok, Mz.startG, Mz.gVar, Mz.gSubD, List.map_cons, List.map_nil, List.length_cons, List.length_nil, List.cons_append, List.nil_append, List.getElem?_cons_zero, List.getElem?_cons_succ, List.set_cons_zero, List.set_cons_succ, List.replicate, Nat.zero_add, Nat.reduceAdd, Nat.reduceSub, Mz.semItem, Mz.seqAt, Mz.listAt, Mz.lstAt, Mz.at0, Mz.at1, Mz.at2, Mz.at3, Mz.semBop, Mz.semCop, Mz.eqD, Mz.ltD, Mz.truD, Mz.semBlt, Mz.setAt, if_true, if_false, *]); try rfl))
namespace Mz
open PySem PySem.Spec L2
def t_roll : T := (.cons (.ifs (.cmp .eq (.sub (.var 0) (.int 2)) (.int 0)) (.cons (.asg (.var 3) (.sub (.var 0) (.int 1))) (.cons (.asg (.sub (.var 0) (.int 1)) (.bin .add (.var 3) (.int 1))) (.cons (.asg (.var 4) (.int 0)) (.cons (.ifs (.cmp .ne (.sub (.var 0) (.int 0)) (.lst .nil)) (.cons (.asg (.var 4) (.sub (.sub (.var 0) (.int 0)) (.bin .mod (.var 3) (.blt .len (.cons (.sub (.var 0) (.int 0)) .nil))))) .nil) .nil) (.cons (.ifs (.or (.cmp .ge (.var 3) (.blt .len (.cons (.sub (.var 0) (.int 0)) .nil))) (.cmp .lt (.var 4) (.bin .pow (.int 10) (.int 18)))) (.cons (.asg (.var 5) (.bin .mod (.bin .mul (.bin .add (.bin .mod (.var 4) (.int 999953)) (.int 37)) (.bin .add (.bin .add (.bin .mul (.var 3) (.var 3)) (.bin .mul (.int 79) (.var 3))) (.int 4001))) (.int 1000003))) (.cons (.asg (.var 5) (.bin .mod (.bin .pow (.var 5) (.int 3)) (.int 998244353))) (.cons (.ret (.bin .mod (.bin .fdiv (.bin .mod (.bin .add (.var 5) (.bin .mul (.int 7109) (.var 3))) (.int 1000033)) (.int 2)) (.var 1))) .nil))) .nil) (.cons (.asg (.sub (.var 0) (.int 2)) (.int 30)) (.cons (.asg (.sub (.var 0) (.int 3)) (.bin .sub (.var 4) (.bin .pow (.int 10) (.int 18)))) .nil))))))) .nil) (.cons (.asg (.sub (.var 0) (.int 2)) (.bin .sub (.sub (.var 0) (.int 2)) (.int 1))) (.cons (.asg (.var 2) (.sub (.var 0) (.int 3))) (.cons (.asg (.sub (.var 0) (.int 3)) (.bin .fdiv (.var 2) (.var 1))) (.cons (.ret (.bin .mod (.var 2) (.var 1))) .nil)))))
/-- what a roll does -/
def RollTo (S : Store) (n l : Nat) (ns : List Int) (a size : Int) : D → Store → Prop := fun d S' => ∃ r a', d = .int r ∧ 0 ≤ r ∧ r < size ∧ a ≤ a' ∧ a' ≤ a + 1 ∧ Dice S' n l ns a' ∧ Keep n S S'
def t_rollEnd : T := (.cons (.asg (.sub (.var 0) (.int 2)) (.bin .sub (.sub (.var 0) (.int 2)) (.int 1))) (.cons (.asg (.var 2) (.sub (.var 0) (.int 3))) (.cons (.asg (.sub (.var 0) (.int 3)) (.bin .fdiv (.var 2) (.var 1))) (.cons (.ret (.bin .mod (.var 2) (.var 1))) .nil))))
/-- its last rows -/
theorem roll_end {E : PEnv} {S : Store} {n l : Nat} {ns : List Int} {a b c size : Int} {v2 v3 v4 v5 : Option D} {N B C : Sg → Store → Prop} (hc : S[n]? = some (.lst [.loc l, .int a, .int b, .int c])) (hs : 0 < size) (hv : divOk size = true) {Q : D → Store → Prop}
    (q : ∀ b c S', Keep n S S' → S'[n]? = some (.lst [.loc l, .int a, .int b, .int c]) → ∀ r, 0 ≤ r → r < size → Q (.int r) S') :
    SatR ((sem E t_rollEnd).b [some (.loc n), some (.int size), v2, v3, v4, v5] S) N Q B C := by
  refine k_cons (k_asgG (d := .int (b - 1)) (S1 := S) (g' := [some (.loc n), some (.int size), v2, v3, v4, v5]) (S' := S.set n (.lst [.loc l, .int a, .int (b - 1), .int c])) (by walk_at "ev") (by walk_at "ev") ?_)
  have k1 : Keep n S (S.set n (.lst [.loc l, .int a, .int (b - 1), .int c])) := Keep.set
  have h1 := set_at (c := .lst [.loc l, .int a, .int (b - 1), .int c]) hc
  generalize List.set S n (.lst [.loc l, .int a, .int (b - 1), .int c]) = S1 at k1 h1 ⊢
  refine k_cons (k_asg (d := .int c) (S' := S1) (by walk_at "ev") ?_)
  refine k_cons (k_asgG (d := .int (c / size)) (S1 := S1) (g' := [some (.loc n), some (.int size), some (.int c), v3, v4, v5]) (S' := S1.set n (.lst [.loc l, .int a, .int (b - 1), .int (c / size)])) (by walk_at "ev") (by walk_at "ev") ?_)
  have k2 : Keep n S1 (S1.set n (.lst [.loc l, .int a, .int (b - 1), .int (c / size)])) := Keep.set
  have h2 := set_at (c := .lst [.loc l, .int a, .int (b - 1), .int (c / size)]) h1
  generalize List.set S1 n (.lst [.loc l, .int a, .int (b - 1), .int (c / size)]) = S2 at k2 h2 ⊢
  refine k_cons (k_ret (d := .int (c % size)) (S' := S2) (by walk_at "ev") ?_)
  exact q _ _ S2 (k1.trans k2) h2 _ (Int.emod_nonneg _ (by omega)) (Int.emod_lt_of_pos _ hs)
theorem sp_roll {E : PEnv} {S : Store} {n l : Nat} {ns : List Int} {a size : Int} (hd : Dice S n l ns a) (h0 : 0 ≤ a) (ha : a < 2 ^ 60) (hs : 0 < size) (hv : divOk size = true) :
    Sat (runBody 6 (sem E t_roll).b [.loc n, .int size] S) (RollTo S n l ns a size) := by
  obtain ⟨b, c, hc⟩ := hd.c
  rw [sat_runBody]
  refine k_cons (k_if (c := decide (b = 0)) (S' := S) (by walk_at "ev") (fun hb => ?_) (fun hb => ?_))
  · refine k_cons (k_asg (d := .int a) (S' := S) (by walk_at "ev") ?_)
    refine k_cons (k_asgG (d := .int (a + 1)) (S1 := S) (g' := [some (.loc n), some (.int size), none, some (.int a), none, none]) (S' := S.set n (.lst [.loc l, .int (a + 1), .int b, .int c])) (by walk_at "ev") (by walk_at "ev") ?_)
    have k1 : Keep n S (S.set n (.lst [.loc l, .int (a + 1), .int b, .int c])) := Keep.set
    have h1 := set_at (c := .lst [.loc l, .int (a + 1), .int b, .int c]) hc
    have l1 := k1.at hd.hl (Ne.symm hd.ne)
    generalize List.set S n (.lst [.loc l, .int (a + 1), .int b, .int c]) = S1 at k1 h1 l1 ⊢
    refine k_cons (k_asg (d := .int 0) (S' := S1) (by walk_at "ev") ?_)
    have n0 := ne_nil l1
    have z0 : (0 : Nat) ≤ sizeLine := Nat.zero_le _
    have e0 : (sem E (.cmp .ne (.sub (.var 0) (.int 0)) (.lst .nil))).t [some (.loc n), some (.int size), none, some (.int a), some (.int 0), none] S1 = .ok (!ns.isEmpty) (S1 ++ [.lst []]) := by
      have i0 : semItem (.loc n) (.int 0) S1 = .ok (.loc l) S1 := item_lst h1 (by decide) rfl
      simp only [sem, ofE, eTru, eBin, eVar, eCst, eLst, aNil, List.getElem?_cons_zero, O.bind_ok, i0, List.length_nil, z0, if_true, alloc, n0, truD]
    have k2 : Keep n S1 (S1 ++ [.lst []]) := Keep.app
    have h2 : (S1 ++ [.lst []])[n]? = _ := app_at h1
    have l2 : (S1 ++ [.lst []])[l]? = _ := app_at l1
    -- the script's number here
    have key : ∀ v : Int, SatR ((sem E (.cons (.ifs (.or (.cmp .ge (.var 3) (.blt .len (.cons (.sub (.var 0) (.int 0)) .nil))) (.cmp .lt (.var 4) (.bin .pow (.int 10) (.int 18)))) (.cons (.asg (.var 5) (.bin .mod (.bin .mul (.bin .add (.bin .mod (.var 4) (.int 999953)) (.int 37)) (.bin .add (.bin .add (.bin .mul (.var 3) (.var 3)) (.bin .mul (.int 79) (.var 3))) (.int 4001))) (.int 1000003))) (.cons (.asg (.var 5) (.bin .mod (.bin .pow (.var 5) (.int 3)) (.int 998244353))) (.cons (.ret (.bin .mod (.bin .fdiv (.bin .mod (.bin .add (.var 5) (.bin .mul (.int 7109) (.var 3))) (.int 1000033)) (.int 2)) (.var 1))) .nil))) .nil) (.cons (.asg (.sub (.var 0) (.int 2)) (.int 30)) (.cons (.asg (.sub (.var 0) (.int 3)) (.bin .sub (.var 4) (.bin .pow (.int 10) (.int 18)))) .nil)))).b [some (.loc n), some (.int size), none, some (.int a), some (.int v), none] (S1 ++ [.lst []]))
        (fun g S' => SatR ((sem E t_rollEnd).b g S') (fun _ S' => RollTo S n l ns a size .non S') (RollTo S n l ns a size) (fun _ _ => False) (fun _ _ => False)) (RollTo S n l ns a size) (fun _ _ => False) (fun _ _ => False) := by
      intro v
      generalize S1 ++ [.lst []] = S2 at k2 h2 l2 ⊢
      have ln : (ns.map D.int).length = ns.length := List.length_map ..
      have p0 : powOk 10 18 = true := by decide
      have e1 : ∃ c, (sem E (.or (.cmp .ge (.var 3) (.blt .len (.cons (.sub (.var 0) (.int 0)) .nil))) (.cmp .lt (.var 4) (.bin .pow (.int 10) (.int 18))))).t [some (.loc n), some (.int size), none, some (.int a), some (.int v), none] S2 = .ok c S2 := by
        have i0 : semItem (.loc n) (.int 0) S2 = .ok (.loc l) S2 := item_lst h2 (by decide) rfl
        have s0 : seqAt S2 (.loc l) = some (ns.map .int) := seqAt_loc l2
        simp only [sem, ofE, eTru, eBin, eVar, eCst, eL, aCons, aNil, tOrS, List.getElem?_cons_zero, List.getElem?_cons_succ, O.bind_ok, i0, semBlt, s0, semCop, ltD, truD, semBop, p0, if_true]
        split
        · exact ⟨_, rfl⟩
        · exact ⟨_, rfl⟩
      obtain ⟨cc, e1⟩ := e1
      refine k_cons (k_if e1 (fun hb => ?_) (fun hb => ?_))
      · have r1 : 0 ≤ v % 999953 := Int.emod_nonneg _ (by decide)
        have r2 : v % 999953 < 999953 := Int.emod_lt_of_pos _ (by decide)
        have m1 : mulOk a a = true := mulOk_l (by omega) (by omega)
        have m2 : mulOk 79 a = true := mulOk_l (by decide) (by decide)
        have m3 : mulOk (v % 999953 + 37) (a * a + 79 * a + 4001) = true := mulOk_l (by omega) (by omega)
        have m4 : mulOk 7109 a = true := mulOk_l (by decide) (by decide)
        have q1 : (0 : Int) < 999953 := by decide
        have q2 : (0 : Int) < 1000003 := by decide
        have q3 : (0 : Int) < 998244353 := by decide
        have q4 : (0 : Int) < 1000033 := by decide
        have q5 : divOk 2 = true := by decide
        refine k_cons (k_asg (d := .int ((v % 999953 + 37) * (a * a + 79 * a + 4001) % 1000003)) (S' := S2) (by walk_at "ev") ?_)
        generalize hx : (v % 999953 + 37) * (a * a + 79 * a + 4001) % 1000003 = x
        have x1 : 0 ≤ x := by rw [← hx]; exact Int.emod_nonneg _ (by decide)
        have x2 : x < 1000003 := by rw [← hx]; exact Int.emod_lt_of_pos _ (by decide)
        have p1 : powOk x 3 = true := powOk_of (by decide) (by decide) (by omega)
        refine k_cons (k_asg (d := .int (x ^ 3 % 998244353)) (S' := S2) (by walk_at "ev") ?_)
        refine k_cons (k_ret (d := .int ((x ^ 3 % 998244353 + 7109 * a) % 1000033 / 2 % size)) (S' := S2) (by walk_at "ev") ?_)
        exact ⟨_, a + 1, rfl, Int.emod_nonneg _ (by omega), Int.emod_lt_of_pos _ hs, by omega, by omega, hd.keep (k1.trans k2) h2, k1.trans k2⟩
      · refine k_nil ?_
        refine k_cons (k_asgG (d := .int 30) (S1 := S2) (g' := [some (.loc n), some (.int size), none, some (.int a), some (.int v), none]) (S' := S2.set n (.lst [.loc l, .int (a + 1), .int 30, .int c])) (by walk_at "ev") (by walk_at "ev") ?_)
        have k3 : Keep n S2 (S2.set n (.lst [.loc l, .int (a + 1), .int 30, .int c])) := Keep.set
        have h3 := set_at (c := .lst [.loc l, .int (a + 1), .int 30, .int c]) h2
        generalize List.set S2 n (.lst [.loc l, .int (a + 1), .int 30, .int c]) = S3 at k3 h3 ⊢
        refine k_cons (k_asgG (d := .int (v - 10 ^ 18)) (S1 := S3) (g' := [some (.loc n), some (.int size), none, some (.int a), some (.int v), none]) (S' := S3.set n (.lst [.loc l, .int (a + 1), .int 30, .int (v - 10 ^ 18)])) (by walk_at "ev") (by walk_at "ev") ?_)
        have k4 : Keep n S3 (S3.set n (.lst [.loc l, .int (a + 1), .int 30, .int (v - 10 ^ 18)])) := Keep.set
        have h4 := set_at (c := .lst [.loc l, .int (a + 1), .int 30, .int (v - 10 ^ 18)]) h3
        generalize List.set S3 n (.lst [.loc l, .int (a + 1), .int 30, .int (v - 10 ^ 18)]) = S4 at k4 h4 ⊢
        refine k_nil (roll_end (ns := ns) h4 hs hv fun b' c' S' kk hh r r1 r2 => ?_)
        have kt := ((k1.trans k2).trans k3).trans (k4.trans kk)
        exact ⟨r, a + 1, rfl, r1, r2, by omega, by omega, hd.keep kt hh, kt⟩
    refine k_cons (k_if e0 (fun hb => ?_) (fun hb => ?_))
    · -- the script isn't empty
      have hne : ns ≠ [] := by intro z; subst z; cases hb
      have hpos : 0 < (ns.length : Int) := by
        have : ns.length ≠ 0 := fun z => hne (List.eq_nil_of_length_eq_zero z)
        omega
      have r1 : 0 ≤ a % (ns.length : Int) := Int.emod_nonneg _ (by omega)
      have r2 : a % (ns.length : Int) < (ns.length : Int) := Int.emod_lt_of_pos _ hpos
      have hv' : ∃ v, (ns.map D.int)[(a % (ns.length : Int)).toNat]? = some (.int v) := by
        rw [List.getElem?_map]
        have : (a % (ns.length : Int)).toNat < ns.length := by omega
        rw [List.getElem?_eq_getElem this]
        exact ⟨_, rfl⟩
      obtain ⟨v, hv'⟩ := hv'
      have e2 : (sem E (.sub (.sub (.var 0) (.int 0)) (.bin .mod (.var 3) (.blt .len (.cons (.sub (.var 0) (.int 0)) .nil))))).e [some (.loc n), some (.int size), none, some (.int a), some (.int 0), none] (S1 ++ [.lst []]) = .ok (.int v) (S1 ++ [.lst []]) := by
        have i0 : semItem (.loc n) (.int 0) (S1 ++ [.lst []]) = .ok (.loc l) (S1 ++ [.lst []]) := item_lst h2 (by decide) rfl
        have s0 : seqAt (S1 ++ [.lst []]) (.loc l) = some (ns.map .int) := seqAt_loc l2
        have ln : (ns.map D.int).length = ns.length := List.length_map ..
        have i1 : semItem (.loc l) (.int (a % (ns.length : Int))) (S1 ++ [.lst []]) = .ok (.int v) (S1 ++ [.lst []]) := item_lst l2 r1 hv'
        simp only [sem, ofE, eBin, eVar, eCst, eL, aCons, aNil, List.getElem?_cons_zero, List.getElem?_cons_succ, O.bind_ok, i0, semBlt, s0, semBop, ln, hpos, if_true, i1]
      refine k_cons (k_asg e2 ?_)
      refine k_nil ?_
      exact key v
    · refine k_nil ?_
      exact key 0
  · refine k_nil ?_
    refine roll_end (ns := ns) hc hs hv fun b' c' S' kk hh r r1 r2 => ?_
    exact ⟨r, a, rfl, r1, r2, by omega, by omega, hd.keep kk hh, kk⟩
end Mz

end

section
set_option Elab.async false
set_option linter.all false
set_option maxRecDepth 100000
namespace Mz
open PySem PySem.Spec L2
theorem sat_noX {α : Type} {o : O α} {Q : α → Store → Prop} {Y : Xc → Store → Prop} : SatX Y (noX o) Q ↔ Sat o Q := by
  cases o <;> exact Iff.rfl
/-! ### expressions by what they are to give -/
section
variable {E : PEnv} {a b c t o as : T} {g : Sg} {S : Store} {Q : D → Store → Prop} {QT : Bool → Store → Prop} {QA : List D → Store → Prop} {Y : Xc → Store → Prop} {Z : Xc → Sg → Store → Prop}
theorem x_var {i : Nat} {d : D} (h : g[i]? = some (some d)) (q : Q d S) : SatX Y ((sem E (.var i)).e g S) Q := by
  show SatX Y (eVar i g S) Q
  unfold eVar
  rw [h]
  exact q
theorem x_int {i : Int} (q : Q (.int i) S) : SatX Y ((sem E (.int i)).e g S) Q := q
theorem x_str {i : Str} (q : Q (.str i) S) : SatX Y ((sem E (.str i)).e g S) Q := q
theorem x_bl {i : Bool} (q : Q (.bl i) S) : SatX Y ((sem E (.bl i)).e g S) Q := q
theorem x_non (q : Q .non S) : SatX Y ((sem E .non).e g S) Q := q
theorem x_glb {x : Str} {d : D} (h : E.G x = some d) (q : Q d S) : SatX Y ((sem E (.glb x)).e g S) Q := by
  show SatX Y (match E.G x with | some d => O.ok d S | none => .no) Q
  rw [h]
  exact q
theorem x_bin {p : Bop} (h : SatX Y ((sem E a).e g S) fun x S => SatX Y ((sem E b).e g S) fun y S => SatX Y (semBop p x y S) Q) : SatX Y ((sem E (.bin p a b)).e g S) Q :=
  sat_bind.mpr (h.mono fun _ _ h => sat_bind.mpr h)
theorem x_cmp {p : Cop} (h : SatX Y ((sem E a).e g S) fun x S => SatX Y ((sem E b).e g S) fun y S => SatX Y (semCop p x y S) Q) : SatX Y ((sem E (.cmp p a b)).e g S) Q :=
  sat_bind.mpr (h.mono fun _ _ h => sat_bind.mpr h)
theorem x_sub (h : SatX Y ((sem E a).e g S) fun x S => SatX Y ((sem E b).e g S) fun y S => SatX Y (semItem x y S) Q) : SatX Y ((sem E (.sub a b)).e g S) Q :=
  sat_bind.mpr (h.mono fun _ _ h => sat_bind.mpr h)
theorem x_call {f : Str} (h : SatX Y ((sem E as).a g S) fun ds S => SatX Y (E.F f ds S) Q) : SatX Y ((sem E (.call f as)).e g S) Q := sat_bind.mpr h
theorem x_blt {p : Blt} (h : SatX Y ((sem E as).a g S) fun ds S => SatX Y (semBlt p ds S) Q) : SatX Y ((sem E (.blt p as)).e g S) Q := sat_bind.mpr h
theorem x_nil (q : QA [] S) : SatX Y ((sem E .nil).a g S) QA := q
theorem x_cons (h : SatX Y ((sem E a).e g S) fun x S => SatX Y ((sem E as).a g S) fun xs S => QA (x :: xs) S) : SatX Y ((sem E (.cons a as)).a g S) QA :=
  sat_bind.mpr (h.mono fun _ _ h => sat_bind.mpr h)
theorem x_tup (h : SatX Y ((sem E as).a g S) fun xs S => xs.length ≤ sizeLine ∧ Q (.tup xs) S) : SatX Y ((sem E (.tup as)).e g S) Q :=
  sat_bind.mpr (h.mono fun _ _ h => sat_guard.mpr h)
theorem x_lst (h : SatX Y ((sem E as).a g S) fun xs S => xs.length ≤ sizeLine ∧ Q (.loc S.length) (S ++ [.lst xs])) : SatX Y ((sem E (.lst as)).e g S) Q :=
  sat_bind.mpr (h.mono fun _ _ h => sat_guard.mpr h)
theorem x_mth {p : Mth} (h : SatX Y ((sem E o).e g S) fun d S => tyOk p d S = true ∧ SatX Y ((sem E as).a g S) fun ds S => SatX Y (semMth p d ds S) Q) : SatX Y ((sem E (.mth p o as)).e g S) Q :=
  sat_bind.mpr (h.mono fun _ _ h => sat_guard.mpr ⟨h.1, sat_bind.mpr h.2⟩)
theorem x_if (h : SatX Y ((sem E t).t g S) fun c S => (c = true → SatX Y ((sem E a).e g S) Q) ∧ (c = false → SatX Y ((sem E b).e g S) Q)) : SatX Y ((sem E (.ife t a b)).e g S) Q := by
  refine sat_bind.mpr (h.mono fun c S h => ?_)
  cases c with
  | true => exact h.1 rfl
  | false => exact h.2 rfl
theorem x_neg (h : SatX Y ((sem E a).e g S) fun d S => ∃ i, d = .int i ∧ Q (.int (-i)) S) : SatX Y ((sem E (.neg a)).e g S) Q := by
  refine sat_bind.mpr (h.mono fun d S h => ?_)
  obtain ⟨i, rfl, q⟩ := h
  exact q
theorem x_lc {own : List Nat} {tg it ts el : T} (h : SatX Y ((sem E it).i g S) fun ik S => Sat (lcLoop ik (sem E tg).g (sem E ts).t (sem E el).e (wipeG g own) (ibound ik S) 0 [] S) fun acc S => Q (.loc S.length) (S ++ [.lst acc])) : SatX Y ((sem E (.lc own tg it ts el)).e g S) Q :=
  sat_bind.mpr (h.mono fun _ _ h => sat_bind.mpr (sat_noX.mpr h))
/-- tests -/
theorem y_of {f : SE} (h : SatX Y (f g S) fun d S => ∃ b, truD S d = some b ∧ QT b S) : SatX Y (eTru f g S) QT := by
  refine sat_bind.mpr (h.mono fun d S h => ?_)
  obtain ⟨b, e, q⟩ := h
  simp only [e]
  exact q
theorem y_cmp {p : Cop} (h : SatX Y ((sem E a).e g S) fun x S => SatX Y ((sem E b).e g S) fun y S => SatX Y (semCop p x y S) fun d S => ∃ b, d = .bl b ∧ QT b S) : SatX Y ((sem E (.cmp p a b)).t g S) QT := by
  refine y_of (x_cmp (E := E) (h.mono fun x S h => h.mono fun y S h => h.mono fun d S h => ?_))
  obtain ⟨b, rfl, q⟩ := h
  exact ⟨b, rfl, q⟩
theorem y_var {i : Nat} {b : Bool} (h : g[i]? = some (some (.bl b))) (q : QT b S) : SatX Y ((sem E (.var i)).t g S) QT := y_of (x_var (E := E) h ⟨b, rfl, q⟩)
theorem y_and (h : SatX Y ((sem E a).t g S) fun c S => (c = true → SatX Y ((sem E b).t g S) QT) ∧ (c = false → QT false S)) : SatX Y ((sem E (.and a b)).t g S) QT := by
  refine sat_bind.mpr (h.mono fun c S h => ?_)
  cases c with
  | true => exact h.1 rfl
  | false => exact h.2 rfl
theorem y_or (h : SatX Y ((sem E a).t g S) fun c S => (c = true → QT true S) ∧ (c = false → SatX Y ((sem E b).t g S) QT)) : SatX Y ((sem E (.or a b)).t g S) QT := by
  refine sat_bind.mpr (h.mono fun c S h => ?_)
  cases c with
  | true => exact h.1 rfl
  | false => exact h.2 rfl
theorem y_not (h : SatX Y ((sem E a).t g S) fun c S => QT (!c) S) : SatX Y ((sem E (.nt a)).t g S) QT := sat_bind.mpr h
theorem y_call {f : Str} (h : SatX Y ((sem E as).a g S) fun ds S => SatX Y (E.F f ds S) fun d S => ∃ b, truD S d = some b ∧ QT b S) : SatX Y ((sem E (.call f as)).t g S) QT := y_of (x_call (E := E) h)
/-- what a loop walks -/
theorem i_rng1 {QI : IK → Store → Prop} (h : SatX Y ((sem E a).e g S) fun d S => ∃ j, d = .int j ∧ rngOk j = true ∧ QI (.vals (intsFrom 0 j.toNat)) S) : SatX Y ((sem E (.irng (.cons a .nil))).i g S) QI := by
  refine sat_bind.mpr (x_cons (E := E) (h.mono fun d S h => ?_))
  obtain ⟨j, rfl, r, q⟩ := h
  refine x_nil (E := E) ?_
  show SatX Y (if rngOk j = true then O.ok (IK.vals (intsFrom 0 j.toNat)) S else .no) QI
  rw [if_pos r]
  exact q
theorem i_tup {QI : IK → Store → Prop} {xs : List D} {f : SE} (h : SatX Y (f g S) fun d S => d = .tup xs ∧ QI (.vals xs) S) : SatX Y (iVal f g S) QI := by
  refine sat_bind.mpr (h.mono fun d S h => ?_)
  obtain ⟨rfl, q⟩ := h
  exact q
theorem rngOk_of {j : Int} (h1 : -(2 ^ 62) ≤ j) (h2 : j < 2 ^ 62) : rngOk j = true := by
  unfold rngOk
  rw [decide_eq_true h1, decide_eq_true h2]
  rfl
end
/-! ### operations -/
section
variable {S : Store} {Q : D → Store → Prop} {Y : Xc → Store → Prop} {Z : Xc → Sg → Store → Prop}
theorem p_add {i j : Int} (q : Q (.int (i + j)) S) : SatX Y (semBop .add (.int i) (.int j) S) Q := q
theorem p_sub {i j : Int} (q : Q (.int (i - j)) S) : SatX Y (semBop .sub (.int i) (.int j) S) Q := q
theorem p_adds {x y : Str} (h : x.length + y.length ≤ sizeLine) (q : Q (.str (x ++ y)) S) : SatX Y (semBop .add (.str x) (.str y) S) Q := sat_guard.mpr ⟨h, q⟩
theorem p_mul {i j : Int} (h : mulOk i j = true) (q : Q (.int (i * j)) S) : SatX Y (semBop .mul (.int i) (.int j) S) Q := sat_guard.mpr ⟨h, q⟩
theorem p_fdiv {i j : Int} (h : divOk j = true) (q : Q (.int (i / j)) S) : SatX Y (semBop .fdiv (.int i) (.int j) S) Q := sat_guard.mpr ⟨h, q⟩
theorem p_mod {i j : Int} (h : 0 < j) (q : Q (.int (i % j)) S) : SatX Y (semBop .mod (.int i) (.int j) S) Q := sat_guard.mpr ⟨h, q⟩
theorem p_pow {i j : Int} (h : powOk i j = true) (q : Q (.int (i ^ j.toNat)) S) : SatX Y (semBop .pow (.int i) (.int j) S) Q := sat_guard.mpr ⟨h, q⟩
theorem p_eqI {i j : Int} (q : Q (.bl (decide (i = j))) S) : SatX Y (semCop .eq (.int i) (.int j) S) Q := q
theorem p_neI {i j : Int} (q : Q (.bl (!decide (i = j))) S) : SatX Y (semCop .ne (.int i) (.int j) S) Q := q
theorem p_eqS {i j : Str} (q : Q (.bl (decide (i = j))) S) : SatX Y (semCop .eq (.str i) (.str j) S) Q := q
theorem p_neS {i j : Str} (q : Q (.bl (!decide (i = j))) S) : SatX Y (semCop .ne (.str i) (.str j) S) Q := q
theorem p_lt {i j : Int} (q : Q (.bl (decide (i < j))) S) : SatX Y (semCop .lt (.int i) (.int j) S) Q := q
theorem p_le {i j : Int} (q : Q (.bl (!decide (j < i))) S) : SatX Y (semCop .le (.int i) (.int j) S) Q := q
theorem p_gt {i j : Int} (q : Q (.bl (decide (j < i))) S) : SatX Y (semCop .gt (.int i) (.int j) S) Q := q
theorem p_ge {i j : Int} (q : Q (.bl (!decide (i < j))) S) : SatX Y (semCop .ge (.int i) (.int j) S) Q := q
theorem p_itT {xs : List D} {i : Int} {x : D} (h0 : 0 ≤ i) (h : xs[i.toNat]? = some x) (q : Q x S) : SatX Y (semItem (.tup xs) (.int i) S) Q := by rw [item_tup h0 h]; exact q
theorem p_itL {l : Nat} {xs : List D} {i : Int} {x : D} (hS : S[l]? = some (.lst xs)) (h0 : 0 ≤ i) (h : xs[i.toNat]? = some x) (q : Q x S) : SatX Y (semItem (.loc l) (.int i) S) Q := by rw [item_lst hS h0 h]; exact q
theorem p_itS {z : Str} {i : Int} {c : Nat} (hz : z.length ≤ sizeLine) (h0 : 0 ≤ i) (h : z.cps.toList[i.toNat]? = some c) (q : Q (.str ⟨#[c]⟩) S) : SatX Y (semItem (.str z) (.int i) S) Q := by rw [item_str hz h0 h]; exact q
theorem p_lenL {l : Nat} {xs : List D} (hS : S[l]? = some (.lst xs)) (q : Q (.int xs.length) S) : SatX Y (semBlt .len [.loc l] S) Q := by
  unfold semBlt
  simp only [seqAt_loc hS]
  exact q
theorem p_lenT {xs : List D} (q : Q (.int xs.length) S) : SatX Y (semBlt .len [.tup xs] S) Q := q
theorem p_lenS {x : Str} (h : x.length ≤ sizeLine) (q : Q (.int x.length) S) : SatX Y (semBlt .len [.str x] S) Q := sat_guard.mpr ⟨h, q⟩
theorem p_str {i : Int} (h : i.natAbs.log2 < 1920) (q : Q (.str (toString i)) S) : SatX Y (semBlt .str1 [.int i] S) Q := sat_guard.mpr ⟨h, q⟩
theorem p_tuple {l : Nat} {xs : List D} (hS : S[l]? = some (.lst xs)) (q : Q (.tup xs) S) : SatX Y (semBlt .tuple1 [.loc l] S) Q := by
  unfold semBlt
  simp only [listAt_loc hS]
  exact q
theorem p_list {l : Nat} {xs : List D} (hS : S[l]? = some (.lst xs)) (q : Q (.loc S.length) (S ++ [.lst xs])) : SatX Y (semBlt .list1 [.loc l] S) Q := by
  unfold semBlt
  simp only [seqAt_loc hS]
  exact q
theorem p_join {a : Str} {l : Nat} {xs : List Str} (hS : S[l]? = some (.lst (xs.map .str))) (h : (xs.map (·.length)).sum + xs.length * a.length ≤ 16777216) (q : Q (.str (Txt.join a xs)) S) : SatX Y (semMth .join (.str a) [.loc l] S) Q := by
  have e : (xs.map D.str).mapM asStr = some xs := by
    clear hS h q
    induction xs with
    | nil => rfl
    | cons x xs ih => rw [List.map_cons, List.mapM_cons, ih]; rfl
  unfold semMth
  simp only [seqAt_loc hS, e]
  exact sat_guard.mpr ⟨h, q⟩
end
theorem lz {n : Nat} {α : Type} {xs : List α} (h : xs.length = n) (hn : n ≤ 1000) : xs.length ≤ sizeLine := by rw [sizeLine_eq]; omega
end Mz

end

section
set_option Elab.async false
set_option linter.all false
set_option maxRecDepth 100000
namespace Mz
open PySem PySem.Spec L2
/-! ### texts -/
theorem str_ext {x y : Str} (h : TL.tl x = TL.tl y) : x = y := by
  cases x with | mk a => cases y with | mk b =>
  have : a.toList = b.toList := h
  rw [Array.toList_inj] at this
  rw [this]
theorem str_assoc (x y z : Str) : x ++ y ++ z = x ++ (y ++ z) := str_ext (by simp only [TL.tl_append, List.append_assoc])
theorem str_empty (x : Str) : Str.empty ++ x = x := str_ext (by rw [TL.tl_append]; rfl)
theorem str_len (x y : Str) : (x ++ y).length = x.length + y.length := by
  rw [TL.len_tl, TL.tl_append, List.length_append, ← TL.len_tl, ← TL.len_tl]
theorem sz {m : Nat} (h : m ≤ 16000000) : m ≤ sizeLine := by rw [sizeLine_eq]; omega
section
variable {E : PEnv} {a b c t o as r : T} {g : Sg} {S : Store} {Q : D → Store → Prop} {QT : Bool → Store → Prop} {N B C : Sg → Store → Prop} {Rt : D → Store → Prop} {Y : Xc → Store → Prop} {Z : Xc → Sg → Store → Prop}
theorem x_fst (h : SatX Y ((sem E as).j Str.empty g S) Q) : SatX Y ((sem E (.fst as)).e g S) Q := h
theorem j_nil {acc : Str} (q : Q (.str acc) S) : SatX Y ((sem E .nil).j acc g S) Q := q
theorem j_cons {acc : Str} (h : SatX Y ((sem E a).e g S) fun d S => ∃ y : Str, d = .str y ∧ (acc ++ y).length ≤ sizeLine ∧ SatX Y ((sem E r).j (acc ++ y) g S) Q) : SatX Y ((sem E (.cons a r)).j acc g S) Q := by
  refine sat_bind.mpr (h.mono fun d S h => ?_)
  obtain ⟨y, rfl, l, q⟩ := h
  exact sat_ite.mpr ⟨fun _ => q, fun n => absurd l n⟩
theorem x_fmt (h : SatX Y ((sem E a).e g S) fun d S => SatX Y (fmtD d S) Q) : SatX Y ((sem E (.fmt a)).e g S) Q := sat_bind.mpr h
theorem p_fmtS {y : Str} (h : y.length ≤ sizeLine) (q : Q (.str y) S) : SatX Y (fmtD (.str y) S) Q := sat_guard.mpr ⟨h, q⟩
theorem p_fmtI {i : Int} (h : i.natAbs.log2 < 1920) (q : Q (.str (toString i)) S) : SatX Y (fmtD (.int i) S) Q := sat_guard.mpr ⟨h, q⟩
theorem x_cut0 {j : Int} (h : SatX Y ((sem E a).e g S) fun d S => SatX Y (semSlice d none (some j) S) Q) : SatX Y ((sem E (.sli a .nil (.int j))).e g S) Q :=
  sat_bind.mpr (h.mono fun _ _ h => h)
theorem p_cutT {xs ys : List D} {lo hi : Option Int} (e : cutD xs lo hi = ys) (q : Q (.tup ys) S) : SatX Y (semSlice (.tup xs) lo hi S) Q := by
  subst e; exact q
theorem k_asgT2 {i j : Nat} (h : SatX (fun x S => Z x g S) ((sem E a).e g S) fun d S => ∃ x y, d = .tup [x, y] ∧ N ((g.set i (some x)).set j (some y)) S) : SatRX Z ((sem E (.asg (.tup (.cons (.var i) (.cons (.var j) .nil))) a)).s g S) N Rt B C := by
  refine k_asgGS (h.mono fun d S h => ?_)
  obtain ⟨x, y, rfl, q⟩ := h
  exact q
theorem k_asgT3 {i j k : Nat} (h : SatX (fun x S => Z x g S) ((sem E a).e g S) fun d S => ∃ x y z, d = .tup [x, y, z] ∧ N (((g.set i (some x)).set j (some y)).set k (some z)) S) : SatRX Z ((sem E (.asg (.tup (.cons (.var i) (.cons (.var j) (.cons (.var k) .nil)))) a)).s g S) N Rt B C := by
  refine k_asgGS (h.mono fun d S h => ?_)
  obtain ⟨x, y, z, rfl, q⟩ := h
  exact q
theorem k_alc {i : Nat} {own : List Nat} {tg it ts el : T} (h : SatX (fun x S => Z x g S) ((sem E (.lc own tg it ts el)).e g S) fun d S' => N (g.set i (some d)) S') : SatRX Z ((sem E (.alc i own tg it ts el)).s g S) N Rt B C := q_asgS h
theorem x_and (h : SatX Y ((sem E a).e g S) fun x S => ∃ c, truD S x = some c ∧ (c = true → SatX Y ((sem E b).e g S) Q) ∧ (c = false → Q x S)) : SatX Y ((sem E (.and a b)).e g S) Q := by
  refine sat_bind.mpr (h.mono fun x S h => ?_)
  obtain ⟨c, e, h1, h2⟩ := h
  simp only [e]
  cases c with
  | true => exact h1 rfl
  | false => exact h2 rfl
theorem x_or (h : SatX Y ((sem E a).e g S) fun x S => ∃ c, truD S x = some c ∧ (c = false → SatX Y ((sem E b).e g S) Q) ∧ (c = true → Q x S)) : SatX Y ((sem E (.or a b)).e g S) Q := by
  refine sat_bind.mpr (h.mono fun x S h => ?_)
  obtain ⟨c, e, h1, h2⟩ := h
  simp only [e]
  cases c with
  | true => exact h2 rfl
  | false => exact h1 rfl
theorem x_not (h : SatX Y ((sem E a).e g S) fun x S => ∃ c, truD S x = some c ∧ Q (.bl (!c)) S) : SatX Y ((sem E (.nt a)).e g S) Q := by
  refine sat_bind.mpr (h.mono fun x S h => ?_)
  obtain ⟨c, e, q⟩ := h
  simp only [e]
  exact q
theorem p_intB {b : Bool} (q : Q (.int (if b then 1 else 0)) S) : SatX Y (semBlt .int1 [.bl b] S) Q := q
theorem p_inT {x : Str} {ys : List D} (hy : ys.all flatD = true) (q : Q (.bl (ys.any fun y => eqF y (.str x))) S) : SatX Y (semCop .in_ (.str x) (.tup ys) S) Q := by
  have e : inD (.str x) (.tup ys) S = some (ys.any fun y => eqF y (.str x)) := by
    unfold inD
    show (if (flatD (.str x) && ys.all flatD) = true then _ else _) = _
    rw [hy]; rfl
  unfold semCop
  simp only [e]
  exact q
theorem i_vT {QI : IK → Store → Prop} {i : Nat} {xs : List D} (h : g[i]? = some (some (.tup xs))) (q : QI (.vals xs) S) : SatX Y ((sem E (.var i)).i g S) QI := i_tup (x_var (E := E) h ⟨rfl, q⟩)
theorem i_sT {QI : IK → Store → Prop} (h : SatX Y ((sem E (.sub a b)).e g S) fun d S => ∃ xs, d = .tup xs ∧ QI (.vals xs) S) : SatX Y ((sem E (.sub a b)).i g S) QI := by
  refine sat_bind.mpr (h.mono fun d S h => ?_)
  obtain ⟨xs, rfl, q⟩ := h
  exact q
theorem i_val {QI : IK → Store → Prop} {xs : List D} {f : SE} (h : SatX Y (f g S) fun d S => d = .tup xs ∧ QI (.vals xs) S) : SatX Y (iVal f g S) QI := i_tup h
end
/-! ### a store that only grows -/
def Grow (S S' : Store) : Prop := ∃ r, S' = S ++ r
theorem Grow.refl (S : Store) : Grow S S := ⟨[], by simp⟩
theorem Grow.trans {S S' S'' : Store} (a : Grow S S') (b : Grow S' S'') : Grow S S'' := by
  obtain ⟨r, rfl⟩ := a
  obtain ⟨q, rfl⟩ := b
  exact ⟨r ++ q, by rw [List.append_assoc]⟩
theorem Grow.one {S : Store} {c : List Cell} : Grow S (S ++ c) := ⟨c, rfl⟩
theorem Grow.keep {S S' : Store} {n : Nat} (a : Grow S S') : Keep n S S' := by
  obtain ⟨r, rfl⟩ := a
  exact Keep.app
theorem Grow.at {S S' : Store} {i : Nat} {c : Cell} (a : Grow S S') (h : S[i]? = some c) : S'[i]? = some c := by
  obtain ⟨r, rfl⟩ := a
  exact app_at h
/-- the length of a written int -/
theorem toString_len {i : Int} {n : Nat} (h : i.natAbs < 10 ^ n) (hn : 0 < n) : (Str.ofString (toString i)).length ≤ n + 1 := by
  have nat : ∀ m : Nat, m < 10 ^ n → (toString m).length ≤ n := by
    intro m hm
    rw [show toString m = Nat.repr m from rfl, Nat.repr, String.length_ofList]
    exact Nat.length_toDigits_le_iff (by decide) hn |>.mpr hm
  rw [show (Str.ofString (toString i)).length = (toString i).length by
    rw [TL.len_tl, TL.tl_ofString, List.length_map, String.length_toList]]
  cases i with
  | ofNat m =>
    rw [show toString (Int.ofNat m) = toString m from rfl]
    have := nat m h
    omega
  | negSucc m =>
    rw [show toString (Int.negSucc m) = "-" ++ toString (m + 1) from rfl, String.length_append]
    have := nat (m + 1) h
    rw [show "-".length = 1 from rfl]
    omega
end Mz

end

section
set_option Elab.async false
set_option linter.all false
set_option maxRecDepth 100000
namespace Mz
open PySem PySem.Spec L2
section
variable {E : PEnv} {a b c t o as r lo hi : T} {g : Sg} {S : Store} {Q : D → Store → Prop} {QT : Bool → Store → Prop} {QO : Option Int → Store → Prop} {QI : IK → Store → Prop} {N B C : Sg → Store → Prop} {Rt : D → Store → Prop} {Y : Xc → Store → Prop} {Z : Xc → Sg → Store → Prop}
theorem x_chain {p q : Cop} (h : SatX Y ((sem E a).e g S) fun x S => SatX Y ((sem E b).e g S) fun y S => SatX Y (semCop p x y S) fun z S => ∃ k, z = .bl k ∧ (k = true → SatX Y ((sem E c).e g S) fun w S => SatX Y (semCop q y w S) Q) ∧ (k = false → Q (.bl false) S)) : SatX Y ((sem E (.chain p q a b c)).e g S) Q := by
  refine sat_bind.mpr (h.mono fun x S h => sat_bind.mpr (h.mono fun y S h => sat_bind.mpr (h.mono fun z S h => ?_)))
  obtain ⟨k, rfl, h1, h2⟩ := h
  cases k with
  | true => exact sat_bind.mpr (h1 rfl)
  | false => exact h2 rfl
theorem y_chain {p q : Cop} (h : SatX Y ((sem E a).e g S) fun x S => SatX Y ((sem E b).e g S) fun y S => SatX Y (semCop p x y S) fun z S => ∃ k, z = .bl k ∧ (k = true → SatX Y ((sem E c).e g S) fun w S => SatX Y (semCop q y w S) fun d S => ∃ m, d = .bl m ∧ QT m S) ∧ (k = false → QT false S)) : SatX Y ((sem E (.chain p q a b c)).t g S) QT := by
  refine y_of (x_chain (E := E) (h.mono fun x S h => h.mono fun y S h => h.mono fun z S h => ?_))
  obtain ⟨k, rfl, h1, h2⟩ := h
  exact ⟨k, rfl, fun e => (h1 e).mono fun w S h => h.mono fun d S h => by obtain ⟨m, rfl, q⟩ := h; exact ⟨m, rfl, q⟩, fun e => ⟨false, rfl, h2 e⟩⟩
theorem y_blt {p : Blt} (h : SatX Y ((sem E as).a g S) fun ds S => SatX Y (semBlt p ds S) fun d S => ∃ k, d = .bl k ∧ QT k S) : SatX Y ((sem E (.blt p as)).t g S) QT :=
  y_of (x_blt (E := E) (h.mono fun ds S h => h.mono fun d S h => by obtain ⟨m, rfl, q⟩ := h; exact ⟨m, rfl, q⟩))
theorem y_callB {f : Str} (h : SatX Y ((sem E as).a g S) fun ds S => SatX Y (E.F f ds S) fun d S => ∃ k, d = .bl k ∧ QT k S) : SatX Y ((sem E (.call f as)).t g S) QT :=
  y_of (x_call (E := E) (h.mono fun ds S h => h.mono fun d S h => by obtain ⟨m, rfl, q⟩ := h; exact ⟨m, rfl, q⟩))
theorem o_some {f : SE} (h : SatX Y (f g S) fun d S => ∃ i, d = .int i ∧ QO (some i) S) : SatX Y (oSome f g S) QO := by
  refine sat_bind.mpr (h.mono fun d S h => ?_)
  obtain ⟨i, rfl, q⟩ := h
  exact q
/-- a[lo:hi] -/
theorem x_sli (h1 : (sem E lo).o = oSome (sem E lo).e) (h2 : (sem E hi).o = oSome (sem E hi).e) (h : SatX Y ((sem E a).e g S) fun d S => SatX Y ((sem E lo).e g S) fun x S => ∃ i, x = .int i ∧ SatX Y ((sem E hi).e g S) fun y S => ∃ j, y = .int j ∧ SatX Y (semSlice d (some i) (some j) S) Q) : SatX Y ((sem E (.sli a lo hi)).e g S) Q := by
  refine sat_bind.mpr (h.mono fun d S h => ?_)
  rw [h1, h2]
  refine sat_bind.mpr (o_some (h.mono fun x S h => ?_))
  obtain ⟨i, rfl, h⟩ := h
  refine ⟨i, rfl, sat_bind.mpr (o_some (h.mono fun y S h => ?_))⟩
  obtain ⟨j, rfl, h⟩ := h
  exact ⟨j, rfl, h⟩
/-- a[:hi] -/
theorem x_sliT (h2 : (sem E hi).o = oSome (sem E hi).e) (h : SatX Y ((sem E a).e g S) fun d S => SatX Y ((sem E hi).e g S) fun y S => ∃ j, y = .int j ∧ SatX Y (semSlice d none (some j) S) Q) : SatX Y ((sem E (.sli a .nil hi)).e g S) Q := by
  refine sat_bind.mpr (h.mono fun d S h => ?_)
  rw [h2]
  refine sat_bind.mpr (?_ : SatX Y (O.ok none S) _)
  refine sat_bind.mpr (o_some (h.mono fun x S h => ?_))
  obtain ⟨i, rfl, h⟩ := h
  exact ⟨i, rfl, h⟩
/-- a[lo:] -/
theorem x_sliD (h2 : (sem E lo).o = oSome (sem E lo).e) (h : SatX Y ((sem E a).e g S) fun d S => SatX Y ((sem E lo).e g S) fun y S => ∃ j, y = .int j ∧ SatX Y (semSlice d (some j) none S) Q) : SatX Y ((sem E (.sli a lo .nil)).e g S) Q := by
  refine sat_bind.mpr (h.mono fun d S h => ?_)
  rw [h2]
  refine sat_bind.mpr (o_some (h.mono fun x S h => ?_))
  obtain ⟨i, rfl, h⟩ := h
  refine ⟨i, rfl, ?_⟩
  exact sat_bind.mpr (show SatX Y (O.ok none S) _ from h)
theorem k_par {i j : Nat} (h : SatX (fun x S => Z x g S) ((sem E as).a g S) fun ds S => ∃ x y, ds = [x, y] ∧ N ((g.set i (some x)).set j (some y)) S) : SatRX Z ((sem E (.par i j as)).s g S) N Rt B C := by
  show SatRX Z (bindR g ((sem E as).a g S) _) N Rt B C
  rw [satR_bindR]
  refine h.mono fun ds S h => ?_
  obtain ⟨x, y, rfl, q⟩ := h
  exact q
theorem k_whl {n : Nat} (h : SatRX Z (wloop (sem E t).t (sem E b).b n g S) N Rt B C) : SatRX Z ((sem E (.whl n t b)).s g S) N Rt B C := h
theorem i_vS {i : Nat} {x : Str} (h : g[i]? = some (some (.str x))) (q : QI (.vals (signs x)) S) : SatX Y ((sem E (.var i)).i g S) QI := by
  refine sat_bind.mpr (x_var (E := E) h ?_)
  exact q
theorem i_vL {i n : Nat} {xs : List D} (h : g[i]? = some (some (.loc n))) (hS : S[n]? = some (.lst xs)) (q : QI (.lst n) S) : SatX Y ((sem E (.var i)).i g S) QI := by
  refine sat_bind.mpr (x_var (E := E) h ?_)
  show SatX Y (match S[n]? with | some (.lst _) => O.ok (IK.lst n) S | _ => .no) QI
  rw [hS]
  exact q
theorem i_enum {n : Nat} {xs : List D} (h : SatX Y ((sem E a).e g S) fun d S => d = .loc n ∧ S[n]? = some (.lst xs) ∧ QI (.enum n) S) : SatX Y ((sem E (.ienum (.cons a .nil))).i g S) QI := by
  refine sat_bind.mpr (x_cons (E := E) (h.mono fun d S h => ?_))
  obtain ⟨rfl, hS, q⟩ := h
  refine x_nil (E := E) ?_
  show SatX Y (match S[n]? with | some (.lst _) => O.ok (IK.enum n) S | _ => .no) QI
  rw [hS]
  exact q
end
section
variable {S : Store} {Q : D → Store → Prop} {Y : Xc → Store → Prop} {Z : Xc → Sg → Store → Prop}
theorem p_inL {d : D} {l : Nat} {ys : List D} (hS : S[l]? = some (.lst ys)) (hd : flatD d = true) (hy : ys.all flatD = true) (hn : ∀ x, d ≠ .str x) (q : Q (.bl (ys.any fun y => eqF y d)) S) : SatX Y (semCop .in_ d (.loc l) S) Q := by
  have e : inD d (.loc l) S = some (ys.any fun y => eqF y d) := by
    have h : inD d (.loc l) S = (match seqAt S (.loc l) with
      | some ys => if (flatD d && ys.all flatD) = true then some (ys.any fun y => eqF y d) else match toPy S 70 d, toPy S 70 (.loc l) with
        | some p, some (.list qs) => if (SeqAt.shaped p && SeqAt.shaped (.list qs)) = true then some (qs.any fun z => PyData.eqv z p) else none
        | _, _ => none
      | none => none) := by
      cases d <;> first | rfl | exact absurd rfl (hn _)
    rw [h, seqAt_loc hS]
    simp only [hd, hy, Bool.and_self, if_true]
  unfold semCop
  simp only [e]
  exact q
theorem p_inS {c : Nat} {y : Str} (q : Q (.bl (decide (c ∈ TL.tl y))) S) : SatX Y (semCop .in_ (.str ⟨#[c]⟩) (.str y) S) Q := by
  have e : inD (.str ⟨#[c]⟩) (.str y) S = some (decide (c ∈ TL.tl y)) := by
    show some (!(Builtin.Str.occurrences y ⟨#[c]⟩ 0 y.length 1).isEmpty) = _
    rw [StrLaws.found_one]
  unfold semCop
  simp only [e]
  exact q
theorem p_ninS {c : Nat} {y : Str} (q : Q (.bl (!decide (c ∈ TL.tl y))) S) : SatX Y (semCop .notin (.str ⟨#[c]⟩) (.str y) S) Q := by
  have e : inD (.str ⟨#[c]⟩) (.str y) S = some (decide (c ∈ TL.tl y)) := by
    show some (!(Builtin.Str.occurrences y ⟨#[c]⟩ 0 y.length 1).isEmpty) = _
    rw [StrLaws.found_one]
  unfold semCop
  simp only [e]
  exact q
theorem mapM_bl : ∀ bs : List Bool, (bs.map D.bl).mapM asBl = some bs
  | [] => rfl
  | b :: bs => by rw [List.map_cons, List.mapM_cons, mapM_bl bs]; rfl
theorem p_all {l : Nat} {bs : List Bool} (hS : S[l]? = some (.lst (bs.map .bl))) (q : Q (.bl (bs.all id)) S) : SatX Y (semBlt .all1 [.loc l] S) Q := by
  unfold semBlt
  simp only [listAt_loc hS, mapM_bl]
  exact q
theorem p_intS {x : Str} {n : Int} (hl : x.length ≤ 640) (h : PySem.intText? x = some n) (q : Q (.int n) S) : SatX Y (semBlt .int1 [.str x] S) Q := by
  unfold semBlt
  simp only [hl, h, if_true]
  exact q
theorem p_ord {c : Nat} (q : Q (.int c) S) : SatX Y (semBlt .ord1 [.str ⟨#[c]⟩] S) Q := q
theorem p_abs {i : Int} (q : Q (.int (if i < 0 then -i else i)) S) : SatX Y (semBlt .abs [.int i] S) Q := q
theorem p_max {i j : Int} (q : Q (.int (if j > i then j else i)) S) : SatX Y (semBlt .max2 [.int i, .int j] S) Q := q
theorem p_min {i j : Int} (q : Q (.int (if j < i then j else i)) S) : SatX Y (semBlt .min2 [.int i, .int j] S) Q := q
theorem p_is {d : D} (q : Q (.bl (isNon d)) S) : SatX Y (semCop .is d .non S) Q := by
  cases d <;> exact q
theorem p_isnot {d : D} (q : Q (.bl (!isNon d)) S) : SatX Y (semCop .isnot d .non S) Q := by
  cases d <;> exact q
theorem p_cutS {z : Str} {lo hi : Option Int} (h : z.length ≤ sizeLine) (q : Q (.str (cutS z lo hi)) S) : SatX Y (semSlice (.str z) lo hi S) Q := sat_guard.mpr ⟨h, q⟩
theorem p_cutL {l : Nat} {xs : List D} {lo hi : Option Int} (hS : S[l]? = some (.lst xs)) (q : Q (.loc S.length) (S ++ [.lst (cutD xs lo hi)])) : SatX Y (semSlice (.loc l) lo hi S) Q := by
  unfold semSlice
  simp only [listAt_loc hS]
  exact q
theorem p_append {l : Nat} {xs : List D} {y : D} (hS : S[l]? = some (.lst xs)) (hl : xs.length < sizeLine) (q : Q .non (S.set l (.lst (xs ++ [y])))) : SatX Y (semMth .append (.loc l) [y] S) Q := by
  unfold semMth
  simp only [lstAt_loc hS]
  exact sat_guard.mpr ⟨hl, q⟩
theorem ty_lst {p : Mth} {l : Nat} {xs : List D} (hp : p.ty = "list") (hS : S[l]? = some (.lst xs)) : tyOk p (.loc l) S = true := by
  unfold tyOk
  simp only [listAt_loc hS, hp]
  rfl
theorem p_part {x y : Str} (h0 : y.length ≠ 0) (h : x.length ≤ sizeLine) (q : Q (.tup [.str (Txt.partition x y).1, .str (Txt.partition x y).2.1, .str (Txt.partition x y).2.2]) S) : SatX Y (semMth .partition (.str x) [.str y] S) Q := by
  unfold semMth
  refine sat_guard.mpr ⟨?_, q⟩
  rw [decide_eq_true h0, decide_eq_true h]; rfl
theorem p_split {x y : Str} (h0 : y.length ≠ 0) (h : x.length + 2 ≤ sizeLine) (q : Q (.loc S.length) (S ++ [.lst ((Txt.split x y).map .str)])) : SatX Y (semMth .split1 (.str x) [.str y] S) Q := by
  unfold semMth
  refine sat_guard.mpr ⟨?_, q⟩
  rw [decide_eq_true h0, decide_eq_true h]; rfl
theorem p_find2 {x y : Str} {i : Int} (q : Q (.int (Txt.find3 x y i)) S) : SatX Y (semMth .find2 (.str x) [.str y, .int i] S) Q := q
theorem p_find1 {x y : Str} (q : Q (.int (Txt.find x y)) S) : SatX Y (semMth .find1 (.str x) [.str y] S) Q := q
theorem p_leS {x y : Str} (q : Q (.bl (!decide (y.cps.toList < x.cps.toList))) S) : SatX Y (semCop .le (.str x) (.str y) S) Q := q
end
/-! ### loops over what stands still -/
section
variable {ik : IK} {t : SG} {b : SS} {Rt : D → Store → Prop} {B C N : Sg → Store → Prop} {Y : Xc → Store → Prop} {Z : Xc → Sg → Store → Prop}
theorem floop_at {xs : List D} (P : Nat → Sg → Store → Prop) (st : ∀ i g S, P i g S → istep ik i S = some xs[i]?)
    (turn : ∀ i d g S, xs[i]? = some d → P i g S → SatX (fun x S => Z x g S) (t d g S) fun g S => SatRX Z (b g S) (P (i + 1)) Rt N (P (i + 1))) (done : ∀ g S, P xs.length g S → N g S) :
    ∀ n i g S, i + n = xs.length + 1 → i ≤ xs.length → P i g S → SatRX Z (floop ik t b n i g S) N Rt B C := by
  intro n
  induction n with
  | zero => intro i g S h1 h2; omega
  | succ n ih =>
    intro i g S h1 h2 p
    show SatRX Z (match istep ik i S with
      | some (some d) => bindR g (t d g S) fun g S => match b g S with
        | .nx g S => floop ik t b n (i + 1) g S
        | .ct g S => floop ik t b n (i + 1) g S
        | .bk g S => .nx g S
        | r => r
      | some none => .nx g S
      | none => .no) N Rt B C
    rw [st i g S p]
    by_cases hi : i < xs.length
    · rw [List.getElem?_eq_getElem hi]
      show SatRX Z (bindR g (t xs[i] g S) _) N Rt B C
      rw [satR_bindR]
      refine (turn i xs[i] g S (List.getElem?_eq_getElem hi) p).mono fun g1 S1 h => ?_
      cases q : b g1 S1 with
      | nx g2 S2 => rw [q] at h; exact ih (i + 1) g2 S2 (by omega) (by omega) h
      | ct g2 S2 => rw [q] at h; exact ih (i + 1) g2 S2 (by omega) (by omega) h
      | bk g2 S2 => rw [q] at h; exact h
      | rt d S2 => rw [q] at h; exact h
      | ex x g2 S2 => rw [q] at h; exact h
      | no => rw [q] at h; exact h
    · have e : i = xs.length := by omega
      subst e
      rw [List.getElem?_eq_none (Nat.le_refl _)]
      exact done g S p
theorem lcLoop_at {xs : List D} {ts : ST} {el : SE} {g0 : Sg} {Q : List D → Store → Prop} (P : Nat → List D → Store → Prop) (st : ∀ i acc S, P i acc S → istep ik i S = some xs[i]?)
    (turn : ∀ i d acc S, xs[i]? = some d → P i acc S → SatX Y (t d g0 S) fun g S => SatX Y (ts g S) fun c S => (c = true → SatX Y (el g S) fun y S => acc.length < sizeLine ∧ P (i + 1) (acc ++ [y]) S) ∧ (c = false → P (i + 1) acc S))
    (done : ∀ acc S, P xs.length acc S → Q acc S) : ∀ n i acc S, i + n = xs.length + 1 → i ≤ xs.length → P i acc S → SatX Y (lcLoop ik t ts el g0 n i acc S) Q := by
  intro n
  induction n with
  | zero => intro i acc S h1 h2; omega
  | succ n ih =>
    intro i acc S h1 h2 p
    show SatX Y (match istep ik i S with
      | some (some d) => (t d g0 S).bind fun g S => (ts g S).bind fun c S => if c = true then (el g S).bind fun y S => if acc.length < sizeLine then lcLoop ik t ts el g0 n (i + 1) (acc ++ [y]) S else .no else lcLoop ik t ts el g0 n (i + 1) acc S
      | some none => .ok acc S
      | none => .no) Q
    rw [st i acc S p]
    by_cases hi : i < xs.length
    · rw [List.getElem?_eq_getElem hi]
      show SatX Y ((t xs[i] g0 S).bind _) Q
      rw [sat_bind]
      refine (turn i xs[i] acc S (List.getElem?_eq_getElem hi) p).mono fun g1 S1 h => ?_
      rw [sat_bind]
      refine h.mono fun c S2 h => ?_
      cases c with
      | true =>
        rw [if_pos rfl, sat_bind]
        refine (h.1 rfl).mono fun y S3 h => ?_
        rw [if_pos h.1]
        exact ih (i + 1) _ S3 (by omega) (by omega) h.2
      | false =>
        rw [if_neg Bool.false_ne_true]
        exact ih (i + 1) _ S2 (by omega) (by omega) (h.2 rfl)
    · have e : i = xs.length := by omega
      subst e
      rw [List.getElem?_eq_none (Nat.le_refl _)]
      exact done acc S p
theorem ib_lst {n : Nat} {xs : List D} {S : Store} (h : S[n]? = some (.lst xs)) : ibound (.lst n) S = xs.length + 1 := by
  unfold ibound; simp only [h]
theorem ib_enum {n : Nat} {xs : List D} {S : Store} (h : S[n]? = some (.lst xs)) : ibound (.enum n) S = xs.length + 1 := by
  unfold ibound; simp only [h]
theorem is_lst {n i : Nat} {xs : List D} {S : Store} (h : S[n]? = some (.lst xs)) : istep (.lst n) i S = some xs[i]? := by
  unfold istep; simp only [h]
/-- what enumerate gives -/
def enumOf (xs : List D) : List D := (List.range xs.length).map fun i => .tup [.int (i : Nat), xs.getD i .non]
theorem enumOf_len (xs : List D) : (enumOf xs).length = xs.length := by simp [enumOf]
theorem enumOf_at {xs : List D} {i : Nat} : (enumOf xs)[i]? = xs[i]?.map fun x => .tup [.int (i : Nat), x] := by
  unfold enumOf
  rw [List.getElem?_map]
  by_cases h : i < xs.length
  · rw [List.getElem?_range h, List.getElem?_eq_getElem h]
    simp [List.getD, List.getElem?_eq_getElem h]
  · rw [List.getElem?_eq_none (by simpa using h), List.getElem?_eq_none (by omega)]
    rfl
theorem is_enum {n i : Nat} {xs : List D} {S : Store} (h : S[n]? = some (.lst xs)) : istep (.enum n) i S = some (enumOf xs)[i]? := by
  unfold istep; simp only [h, enumOf_at]
/-- a comprehension that only looks: one value for each -/
theorem lcLoop_map {xs : List D} {el : SE} {g0 : Sg} {Q : List D → Store → Prop} {S0 : Store} (f : Nat → D) (st : ∀ i S, Grow S0 S → istep ik i S = some xs[i]?)
    (turn : ∀ i d S, xs[i]? = some d → Grow S0 S → SatX Y (t d g0 S) fun g S' => SatX Y (el g S') fun y S'' => y = f i ∧ Grow S S'') (hx : xs.length ≤ sizeLine)
    (done : ∀ S, Grow S0 S → Q ((List.range xs.length).map f) S) : ∀ {n}, n = xs.length + 1 → SatX Y (lcLoop ik t tsNil el g0 n 0 [] S0) Q := by
  intro n hn
  refine lcLoop_at (fun i acc S => acc = (List.range i).map f ∧ Grow S0 S) (fun i acc S p => st i S p.2) (fun i d acc S hi p => ?_) (fun acc S p => ?_) _ 0 _ _ (by omega) (Nat.zero_le _) ⟨rfl, .refl _⟩
  · obtain ⟨rfl, gr⟩ := p
    have hl : i < xs.length := (List.getElem?_eq_some_iff.mp hi).1
    refine (turn i d S hi gr).mono fun g S1 h => sat_ok.mpr ⟨fun _ => h.mono fun y S2 h => ?_, fun h => by cases h⟩
    obtain ⟨rfl, g2⟩ := h
    refine ⟨by simp; omega, ?_, gr.trans g2⟩
    rw [List.range_succ, List.map_append]
    rfl
  · obtain ⟨rfl, gr⟩ := p
    exact done S gr
end
/-! ### a def of the table -/
theorem run_of {p : Prg} {f : Str} {n ar k : Nat} {b : T} {ds : List D} {S : Store} (h : p.tab.lookup f = some ⟨ar, n, b⟩) (hl : ds.length = ar) : p.run (k + 1) f ds S = runBody n (sem (p.env (p.run k)) b).b ds S := by
  show (match p.tab.lookup f with | some d => if ds.length = d.ar then runBody d.n (sem (p.env (p.run k)) d.body).b ds S else .no | none => .no) = _
  rw [h]
  show (if ds.length = ar then _ else _) = _
  rw [if_pos hl]
theorem set_grow {S S' : Store} {n : Nat} {c : Cell} (g : Grow S S') (h : S.length ≤ n) : Grow S (S'.set n c) := by
  obtain ⟨r, rfl⟩ := g
  exact ⟨r.set (n - S.length) c, by rw [List.set_append_right (h := h)]⟩
/-- slices of texts by plain numbers -/
theorem tl_cut {z : Str} {a b : Nat} : TL.tl (cutS z (some (a : Int)) (some (b : Int))) = ((TL.tl z).drop a).take (b - a) := by
  unfold cutS
  rw [HT.sIx_nat, HT.sIx_nat, TL.len_tl]
  show ((TL.tl z).drop _).take _ = _
  by_cases ha : a ≤ (TL.tl z).length
  · rw [Nat.min_eq_left ha]
    by_cases hb : b ≤ (TL.tl z).length
    · rw [Nat.min_eq_left hb]
    · rw [Nat.min_eq_right (by omega), List.take_of_length_le (by rw [List.length_drop]; omega), List.take_of_length_le (by rw [List.length_drop]; omega)]
  · rw [Nat.min_eq_right (a := a) (by omega), List.drop_length, List.drop_eq_nil_of_le (by omega), List.take_nil, List.take_nil]
theorem tl_cutT {z : Str} {b : Nat} : TL.tl (cutS z none (some (b : Int))) = (TL.tl z).take b := by
  unfold cutS
  rw [HT.sIx_nat, HT.sIx_none, TL.len_tl]
  show ((TL.tl z).drop 0).take _ = _
  rw [List.drop_zero, Nat.sub_zero]
  by_cases hb : b ≤ (TL.tl z).length
  · rw [Nat.min_eq_left hb]
  · rw [Nat.min_eq_right (by omega), List.take_of_length_le (by omega), List.take_of_length_le (by omega)]
theorem tl_cutD {z : Str} {a : Nat} : TL.tl (cutS z (some (a : Int)) none) = (TL.tl z).drop a := by
  unfold cutS
  rw [HT.sIx_nat, HT.sIx_none, TL.len_tl]
  show ((TL.tl z).drop _).take _ = _
  by_cases ha : a ≤ (TL.tl z).length
  · rw [Nat.min_eq_left ha, List.take_of_length_le (by rw [List.length_drop]; omega)]
  · rw [Nat.min_eq_right (by omega), List.drop_length, List.drop_eq_nil_of_le (by omega), List.take_nil]
end Mz

end

section
set_option Elab.async false
set_option linter.all false
set_option maxRecDepth 100000
set_option maxHeartbeats 4000000
namespace Mz
open PySem PySem.Spec L2
/-- xs[j] = v -/
theorem k_setL {E : PEnv} {a b e : T} {g : Sg} {S : Store} {N B C : Sg → Store → Prop} {Rt : D → Store → Prop} (h : SatX (fun x S => Z x g S) ((sem E e).e g S) fun d S => SatX (fun x S => Z x g S) ((sem E a).e g S) fun x S => SatX (fun x S => Z x g S) ((sem E b).e g S) fun y S => ∃ n j xs, x = .loc n ∧ y = .int (j : Nat) ∧ S[n]? = some (.lst xs) ∧ j < xs.length ∧ N g (S.set n (.lst (xs.set j d)))) : SatRX Z ((sem E (.asg (.sub a b) e)).s g S) N Rt B C := by
  refine k_asgGS (h.mono fun d S h => ?_)
  refine sat_bind.mpr (h.mono fun x S h => sat_bind.mpr (h.mono fun y S h => sat_bind.mpr ?_))
  obtain ⟨n, j, xs, rfl, rfl, hS, hj, q⟩ := h
  unfold setAt
  have ix : ixN xs.length (j : Int) = some j := by
    unfold ixN
    rw [if_pos (by omega), if_pos (by omega)]
    rfl
  simp only [lstAt_loc hS, ix]
  exact q
section
variable {S : Store} {Q : D → Store → Prop} {Y : Xc → Store → Prop} {Z : Xc → Sg → Store → Prop}
theorem p_extend {l m : Nat} {xs ys : List D} (hS : S[l]? = some (.lst xs)) (hS' : S[m]? = some (.lst ys)) (hl : xs.length + ys.length ≤ 10000000) (q : Q .non (S.set l (.lst (xs ++ ys)))) : SatX Y (semMth .extend (.loc l) [.loc m] S) Q := by
  unfold semMth
  simp only [lstAt_loc hS, lstAt_loc hS']
  exact sat_guard.mpr ⟨by rw [sizeLine_eq]; omega, q⟩
theorem p_extendT {l : Nat} {xs ys : List D} (hS : S[l]? = some (.lst xs)) (hl : xs.length + ys.length ≤ 10000000) (q : Q .non (S.set l (.lst (xs ++ ys)))) : SatX Y (semMth .extend (.loc l) [.tup ys] S) Q := by
  unfold semMth
  simp only [lstAt_loc hS]
  exact sat_guard.mpr ⟨by rw [sizeLine_eq]; omega, q⟩
theorem i_eL {E : PEnv} {t : T} {g : Sg} {QI : IK → Store → Prop} (h0 : (sem E t).i = iVal (sem E t).e) (h : SatX Y ((sem E t).e g S) fun d S => ∃ n xs, d = .loc n ∧ S[n]? = some (.lst xs) ∧ QI (.lst n) S) : SatX Y ((sem E t).i g S) QI := by
  rw [h0]
  refine sat_bind.mpr (h.mono fun d S h => ?_)
  obtain ⟨n, xs, rfl, hS, q⟩ := h
  show SatX Y (match S[n]? with | some (.lst _) => O.ok (IK.lst n) S | _ => .no) QI
  rw [hS]
  exact q
theorem i_eT {E : PEnv} {t : T} {g : Sg} {QI : IK → Store → Prop} (h0 : (sem E t).i = iVal (sem E t).e) (h : SatX Y ((sem E t).e g S) fun d S => ∃ xs, d = .tup xs ∧ QI (.vals xs) S) : SatX Y ((sem E t).i g S) QI := by
  rw [h0]
  refine sat_bind.mpr (h.mono fun d S h => ?_)
  obtain ⟨xs, rfl, q⟩ := h
  exact q
theorem x_isi {E : PEnv} {a : T} {g : Sg} {t : Ity} {Q : D → Store → Prop} (h : SatX Y ((sem E a).e g S) fun d S => SatX Y (semIsi t d S) Q) : SatX Y ((sem E (.isi t a)).e g S) Q := sat_bind.mpr h
theorem y_isi {E : PEnv} {a : T} {g : Sg} {t : Ity} {Q : Bool → Store → Prop} (h : SatX Y ((sem E a).e g S) fun d S => SatX Y (semIsi t d S) fun d S => ∃ b, d = .bl b ∧ Q b S) : SatX Y ((sem E (.isi t a)).t g S) Q :=
  y_of (x_isi (E := E) (h.mono fun d S h => h.mono fun d S h => by obtain ⟨b, rfl, q⟩ := h; exact ⟨b, rfl, q⟩))
theorem p_addLL {l m : Nat} {xs ys : List D} (h : S[l]? = some (.lst xs)) (h' : S[m]? = some (.lst ys)) (hl : xs.length + ys.length ≤ 1000000) (q : Q (.loc S.length) (S ++ [.lst (xs ++ ys)])) : SatX Y (semBop .add (.loc l) (.loc m) S) Q := by
  unfold semBop
  simp only [lstAt_loc h, lstAt_loc h']
  exact sat_guard.mpr ⟨by rw [sizeLine_eq]; omega, q⟩
theorem p_addTT {xs ys : List D} (hl : xs.length + ys.length ≤ 1000000) (q : Q (.tup (xs ++ ys)) S) : SatX Y (semBop .add (.tup xs) (.tup ys) S) Q := sat_guard.mpr ⟨by rw [sizeLine_eq]; omega, q⟩
end
/-- the tape of a law: its cell, its mixed number -/
def Tape (S : Store) (n : Nat) : Prop := ∃ a b : Int, S[n]? = some (.lst [.int a, .int b]) ∧ 0 ≤ a ∧ 0 ≤ b ∧ b < 2147483647
theorem Tape.lt {S : Store} {n : Nat} (h : Tape S n) : n < S.length := let ⟨_, _, e, _⟩ := h; lt_of e
theorem Tape.app {S : Store} {n : Nat} {c : List Cell} (h : Tape S n) : Tape (S ++ c) n := let ⟨a, b, e, r⟩ := h; ⟨a, b, app_at e, r⟩
theorem Tape.grow {S S' : Store} {n : Nat} (h : Tape S n) (g : Grow S S') : Tape S' n := let ⟨a, b, e, r⟩ := h; ⟨a, b, g.at e, r⟩
theorem Tape.keep {S S' : Store} {n m : Nat} (h : Tape S n) (k : Keep m S S') (ne : n ≠ m) : Tape S' n := let ⟨a, b, e, r⟩ := h; ⟨a, b, k.at e ne, r⟩
end Mz

end

section
set_option Elab.async false
set_option linter.all false
set_option maxRecDepth 100000
namespace Mz
open PySem PySem.Spec L2
/-! ### instances: what is to be given -/
section
variable {E : PEnv} {o e as : T} {g : Sg} {S : Store} {Q : D → Store → Prop} {N B C' : Sg → Store → Prop} {Rt : D → Store → Prop} {f : Str} {Y : Xc → Store → Prop} {Z : Xc → Sg → Store → Prop}
theorem insAt_loc {n : Nat} {C : Str} {fs : List (Str × D)} (h : S[n]? = some (.ins C fs)) : insAt S (.loc n) = some (n, C, fs) := by
  show (match S[n]? with | some (.ins C fs) => some (n, C, fs) | _ => none) = _
  rw [h]
theorem x_fld (h : SatX Y ((sem E o).e g S) fun d S => ∃ n C fs x, d = .loc n ∧ S[n]? = some (.ins C fs) ∧ (C, f) ∈ E.st.fls ∧ fs.lookup f = some x ∧ Q x S) : SatX Y ((sem E (.fld o f)).e g S) Q := by
  refine sat_bind.mpr (h.mono fun d S h => ?_)
  obtain ⟨n, C, fs, x, rfl, h1, h2, h3, q⟩ := h
  simp only [insAt_loc h1, if_pos h2, h3]
  exact q
theorem k_fasg (h : SatX (fun x S => Z x g S) ((sem E e).e g S) fun v S => SatX (fun x S => Z x g S) ((sem E o).e g S) fun d S => ∃ n C fs, d = .loc n ∧ S[n]? = some (.ins C fs) ∧ (C, f) ∈ E.st.fls ∧ fs.length < 1000 ∧ N g (S.set n (.ins C (fPut f v fs)))) : SatRX Z ((sem E (.fasg o f e)).s g S) N Rt B C' := by
  show SatRX Z (sFasg E.st.fls (sem E o).e f (sem E e).e g S) N Rt B C'
  unfold sFasg
  rw [satR_bindR]
  refine h.mono fun v S h => ?_
  rw [satR_bindR]
  refine h.mono fun d S h => ?_
  obtain ⟨n, C, fs, rfl, h1, h2, h3, q⟩ := h
  simp only [insAt_loc h1, if_pos (And.intro h2 h3)]
  exact q
theorem k_faug {p : Bop} (h : SatX (fun x S => Z x g S) ((sem E o).e g S) fun d S => ∃ n C fs x, d = .loc n ∧ S[n]? = some (.ins C fs) ∧ (C, f) ∈ E.st.fls ∧ fs.lookup f = some x ∧ SatX (fun x S => Z x g S) ((sem E e).e g S) fun y S => ∃ z fs', augF p x y = some z ∧ S[n]? = some (.ins C fs') ∧ fs'.length < 1000 ∧ N g (S.set n (.ins C (fPut f z fs')))) :
    SatRX Z ((sem E (.faug o f p e)).s g S) N Rt B C' := by
  show SatRX Z (sFaug E.st.fls (sem E o).e f p (sem E e).e g S) N Rt B C'
  unfold sFaug
  rw [satR_bindR]
  refine h.mono fun d S h => ?_
  obtain ⟨n, C, fs, x, rfl, h1, h2, h3, h⟩ := h
  simp only [insAt_loc h1, if_pos h2, h3]
  rw [satR_bindR]
  refine h.mono fun y S h => ?_
  obtain ⟨z, fs', h4, h5, h6, q⟩ := h
  simp only [h4, insAt_loc h5]
  rw [if_pos ⟨by trivial, h6⟩]
  exact q
theorem x_meth {C m x : Str} (h : SatX Y ((sem E o).e g S) fun d S => ∃ n fs, d = .loc n ∧ S[n]? = some (.ins C fs) ∧ fs.lookup m = none ∧ SatX Y ((sem E as).a g S) fun ds S => SatX Y (E.F x (.loc n :: (ds ++ E.st.dfl x (lenT as + 1))) S) Q) : SatX Y ((sem E (.meth C m x o as)).e g S) Q := by
  refine sat_bind.mpr (h.mono fun d S h => ?_)
  obtain ⟨n, fs, rfl, h1, h2, h⟩ := h
  simp only [insAt_loc h1]
  rw [if_pos ⟨by trivial, h2⟩]
  exact sat_bind.mpr h
theorem x_make {C x : Str} (h : SatX Y ((sem E as).a g S) fun ds S => SatX Y (E.F x (.loc S.length :: (ds ++ E.st.dfl x (lenT as + 1))) (S ++ [.ins C []])) fun d S' => d = .non ∧ Q (.loc S.length) S') : SatX Y ((sem E (.make C x as)).e g S) Q := by
  refine sat_bind.mpr (h.mono fun ds S h => sat_bind.mpr (h.mono fun d S' h => ?_))
  obtain ⟨rfl, q⟩ := h
  exact q
theorem y_fld {QT : Bool → Store → Prop} (h : SatX Y ((sem E o).e g S) fun d S => ∃ n C fs b, d = .loc n ∧ S[n]? = some (.ins C fs) ∧ (C, f) ∈ E.st.fls ∧ fs.lookup f = some (.bl b) ∧ QT b S) : SatX Y ((sem E (.fld o f)).t g S) QT :=
  y_of (x_fld (E := E) (h.mono fun d S ⟨n, C, fs, b, h1, h2, h3, h4, q⟩ => ⟨n, C, fs, .bl b, h1, h2, h3, h4, b, rfl, q⟩))
/-- the same, what the fields are then told -/
theorem k_fasgC (h : SatX (fun x S => Z x g S) ((sem E e).e g S) fun v S => SatX (fun x S => Z x g S) ((sem E o).e g S) fun d S => ∃ n C fs fs', d = .loc n ∧ S[n]? = some (.ins C fs) ∧ (C, f) ∈ E.st.fls ∧ fPut f v fs = fs' ∧ fs.length < 1000 ∧ N g (S.set n (.ins C fs'))) : SatRX Z ((sem E (.fasg o f e)).s g S) N Rt B C' :=
  k_fasg (h.mono fun v S h => h.mono fun d S ⟨n, C, fs, fs', h1, h2, h3, h4, h5, q⟩ => ⟨n, C, fs, h1, h2, h3, h5, by rw [h4]; exact q⟩)
theorem k_faugC {p : Bop} (h : SatX (fun x S => Z x g S) ((sem E o).e g S) fun d S => ∃ n C fs x, d = .loc n ∧ S[n]? = some (.ins C fs) ∧ (C, f) ∈ E.st.fls ∧ fs.lookup f = some x ∧ SatX (fun x S => Z x g S) ((sem E e).e g S) fun y S => ∃ z fs' fs'', augF p x y = some z ∧ S[n]? = some (.ins C fs') ∧ fPut f z fs' = fs'' ∧ fs'.length < 1000 ∧ N g (S.set n (.ins C fs''))) :
    SatRX Z ((sem E (.faug o f p e)).s g S) N Rt B C' :=
  k_faug (h.mono fun d S ⟨n, C, fs, x, h1, h2, h3, h4, h⟩ => ⟨n, C, fs, x, h1, h2, h3, h4, h.mono fun y S ⟨z, fs', fs'', h5, h6, h7, h8, q⟩ => ⟨z, fs', h5, h6, h8, by rw [h7]; exact q⟩⟩)
theorem aug_add {i j : Int} : augF .add (.int i) (.int j) = some (.int (i + j)) := rfl
theorem aug_str {a b : Str} (h : a.length + b.length ≤ sizeLine) : augF .add (.str a) (.str b) = some (.str (a ++ b)) := by
  show (if a.length + b.length ≤ sizeLine then some (D.str (a ++ b)) else none) = _
  rw [if_pos h]
end
end Mz

end

section
set_option Elab.async false
set_option linter.all false
set_option maxRecDepth 100000
namespace Mz
open PySem PySem.Spec L2
section
variable {E : PEnv} {b : T} {g : Sg} {S : Store} {N B C' : Sg → Store → Prop} {Rt : D → Store → Prop} {Z : Xc → Sg → Store → Prop}
/-- try: what is caught goes on behind it -/
theorem k_try {C : Str} {i j : Nat} (h : SatRX (fun x g' S' => xmAt E.st.xms x.cls C = some true ∧ i < g'.length ∧ N (((g'.set i (some .oth)).set j (some .oth)).set i none) S') ((sem E b).b g S) N Rt B C') : SatRX Z ((sem E (.try_ b C i j)).s g S) N Rt B C' := by
  show SatRX Z (sTry E.st.xms (sem E b).b C i j g S) N Rt B C'
  unfold sTry
  cases q : (sem E b).b g S with
  | nx g' S' => rw [q] at h; exact h
  | rt d S' => rw [q] at h; exact h
  | bk g' S' => rw [q] at h; exact h
  | ct g' S' => rw [q] at h; exact h
  | no => rw [q] at h; exact h
  | ex x g' S' =>
    rw [q] at h
    obtain ⟨h1, h2, h3⟩ := h
    dsimp only
    rw [h1]
    have e : sCons (sAsg (eVar i) (gVar j)) sNil (g'.set i (some .oth)) S' = .nx ((g'.set i (some .oth)).set j (some .oth)) S' := by
      have e0 : eVar i (g'.set i (some .oth)) S' = .ok .oth S' := by
        show (match (g'.set i (some D.oth))[i]? with | some (some d) => O.ok d S' | _ => .no) = _
        rw [List.getElem?_set_self h2]
      unfold sCons sAsg
      rw [e0]
      rfl
    dsimp only
    rw [e]
    exact h3
/-- what raises nothing, where something might be -/
theorem satUp {r : R} {N N' B C : Sg → Store → Prop} {Rt : D → Store → Prop} {Z : Xc → Sg → Store → Prop} (h : SatR r N (fun _ _ => False) (fun _ _ => False) (fun _ _ => False)) (i : ∀ g S, N g S → N' g S) : SatRX Z r N' Rt B C := by
  cases r <;> first | exact i _ _ h | exact False.elim h
theorem SatRX.imp {r : R} {N N' B B' C C' : Sg → Store → Prop} {Rt Rt' : D → Store → Prop} {Z Z' : Xc → Sg → Store → Prop} (h : SatRX Z r N Rt B C) (hn : ∀ g S, N g S → N' g S) (hr : ∀ d S, Rt d S → Rt' d S) (hb : ∀ g S, B g S → B' g S) (hc : ∀ g S, C g S → C' g S) (hz : ∀ x g S, Z x g S → Z' x g S) : SatRX Z' r N' Rt' B' C' := by
  cases r with
  | nx g S => exact hn g S h
  | rt d S => exact hr d S h
  | bk g S => exact hb g S h
  | ct g S => exact hc g S h
  | ex x g S => exact hz x g S h
  | no => exact h
end
end Mz

end

section
set_option Elab.async false
set_option linter.all false
set_option maxRecDepth 100000
namespace Mz
open PySem PySem.Spec L2
section
variable {E : PEnv} {a b c o as kas : T} {g : Sg} {S : Store} {Q : D → Store → Prop} {QI : IK → Store → Prop} {Y : Xc → Store → Prop}
theorem x_kcall {f : Str} {ks : List Str} (h : SatX Y ((sem E as).a g S) fun ds S => SatX Y ((sem E kas).a g S) fun es S => SatX Y (E.F f (gath (E.st.kpl f (lenT as) ks) ds es) S) Q) : SatX Y ((sem E (.kcall f ks as kas)).e g S) Q :=
  sat_bind.mpr (h.mono fun ds S h => sat_bind.mpr h)
theorem x_kmake {C x : Str} {ks : List Str} (h : SatX Y ((sem E as).a g S) fun ds S => SatX Y ((sem E kas).a g S) fun es S => SatX Y (E.F x (gath (E.st.kpl x (lenT as + 1) ks) (.loc S.length :: ds) es) (S ++ [.ins C []])) fun d S' => d = .non ∧ Q (.loc S.length) S') : SatX Y ((sem E (.kmake C x ks as kas)).e g S) Q := by
  refine sat_bind.mpr (h.mono fun ds S h => sat_bind.mpr (h.mono fun es S h => sat_bind.mpr (h.mono fun d S' h => ?_)))
  obtain ⟨rfl, q⟩ := h
  exact q
theorem i_rng3 (h : SatX Y ((sem E as).a g S) fun ds S => ∃ i j c, ds = [.int i, .int j, .int c] ∧ rng3Ok i j c = true ∧ QI (.vals (intsBy i c (Builtin.Range.rangeSize i j c).toNat)) S) : SatX Y ((sem E (.irng as)).i g S) QI := by
  refine sat_bind.mpr (h.mono fun ds S h => ?_)
  obtain ⟨i, j, c, rfl, h1, q⟩ := h
  dsimp only
  rw [if_pos h1]
  exact q
theorem i_rng2 {i j : Int} (h : SatX Y ((sem E as).a g S) fun ds S => ∃ i j, ds = [.int i, .int j] ∧ rngOk i = true ∧ rngOk j = true ∧ QI (.vals (intsFrom i (j - i).toNat)) S) : SatX Y ((sem E (.irng as)).i g S) QI := by
  refine sat_bind.mpr (h.mono fun ds S h => ?_)
  obtain ⟨i, j, rfl, h1, h2, q⟩ := h
  dsimp only
  rw [if_pos (by rw [h1, h2]; rfl)]
  exact q
theorem p_mulS {x : Str} {k : Int} (h1 : -(2 ^ 63) ≤ k) (h2 : k < 2 ^ 63) (h3 : x.length * k.toNat ≤ sizeLine) (q : Q (.str (repS x k.toNat)) S) : SatX Y (semBop .mul (.str x) (.int k) S) Q :=
  sat_guard.mpr ⟨by rw [decide_eq_true h1, decide_eq_true h2, decide_eq_true h3]; rfl, q⟩
theorem p_mulL {l : Nat} {xs : List D} {k : Int} (h : S[l]? = some (.lst xs)) (h1 : -(2 ^ 63) ≤ k) (h2 : k < 2 ^ 63) (h3 : xs.length * k.toNat ≤ sizeLine) (q : Q (.loc S.length) (S ++ [.lst (List.replicate k.toNat xs).flatten])) : SatX Y (semBop .mul (.loc l) (.int k) S) Q := by
  unfold semBop
  simp only [lstAt_loc h]
  exact sat_guard.mpr ⟨by rw [decide_eq_true h1, decide_eq_true h2, decide_eq_true h3]; rfl, q⟩
theorem p_clear {l : Nat} {xs : List D} (h : S[l]? = some (.lst xs)) (q : Q .non (S.set l (.lst []))) : SatX Y (semMth .clear (.loc l) [] S) Q := by
  unfold semMth
  simp only [lstAt_loc h]
  exact q
theorem p_rstripC {x y : Str} (h : x.length ≤ sizeLine) (q : Q (.str (Txt.rstripChars x y)) S) : SatX Y (semMth .rstripC (.str x) [.str y] S) Q := sat_guard.mpr ⟨h, q⟩
theorem p_index1 {o y : D} {qs : List PyData} {q0 : PyData} {j : Nat} (h1 : toPy S 70 o = some (.list qs)) (h2 : toPy S 70 y = some q0) (s1 : SeqAt.shaped (.list qs) = true) (s2 : SeqAt.shaped q0 = true) (hj : qs.findIdx? (fun z => PyData.eqv z q0) = some j) (q : Q (.int (j : Nat)) S) : SatX Y (semMth .index1 o [y] S) Q := by
  unfold semMth
  simp only [h1, h2, s1, s2, Bool.and_self, if_true, hj]
  exact q
theorem tl_repS {x : Str} (k : Nat) : TL.tl (repS x k) = (List.replicate k (TL.tl x)).flatten := by
  unfold repS
  show (List.foldl (fun x1 x2 => x1 ++ x2) #[] (List.replicate k x.cps)).toList = _
  have : ∀ (m : Nat) (acc : Array Nat), (List.foldl (fun x1 x2 => x1 ++ x2) acc (List.replicate m x.cps)).toList = acc.toList ++ (List.replicate m x.cps.toList).flatten := by
    intro m
    induction m with
    | zero => intro acc; simp
    | succ m ih =>
      intro acc
      rw [List.replicate_succ, List.foldl_cons, ih, List.replicate_succ, List.flatten_cons]
      simp [List.append_assoc]
  rw [this]
  simp
/-! ### data told to be == -/
theorem eqD_py {d e : D} {p q : PyData} (hd : ∃ r, d = .loc r) (h1 : toPy S 70 d = some p) (h2 : toPy S 70 e = some q) (s1 : SeqAt.shaped p = true) (s2 : SeqAt.shaped q = true) : eqD d e S = some (PyData.eqv p q) := by
  obtain ⟨r, rfl⟩ := hd
  have : eqD (.loc r) e S = (match toPy S 70 (.loc r), toPy S 70 e with
    | some p, some q => if (SeqAt.shaped p && SeqAt.shaped q) = true then some (PyData.eqv p q) else none
    | _, _ => none) := by cases e <;> rfl
  rw [this, h1, h2]
  simp only [s1, s2, Bool.and_self, if_true]
theorem p_eqP {r : Nat} {e : D} {p q : PyData} (h1 : toPy S 70 (.loc r) = some p) (h2 : toPy S 70 e = some q) (s1 : SeqAt.shaped p = true) (s2 : SeqAt.shaped q = true) (h : Q (.bl (PyData.eqv p q)) S) : SatX Y (semCop .eq (.loc r) e S) Q := by
  unfold semCop
  simp only [eqD_py ⟨r, rfl⟩ h1 h2 s1 s2]
  exact h
theorem p_neP {r : Nat} {e : D} {p q : PyData} (h1 : toPy S 70 (.loc r) = some p) (h2 : toPy S 70 e = some q) (s1 : SeqAt.shaped p = true) (s2 : SeqAt.shaped q = true) (h : Q (.bl (!PyData.eqv p q)) S) : SatX Y (semCop .ne (.loc r) e S) Q := by
  unfold semCop
  simp only [eqD_py ⟨r, rfl⟩ h1 h2 s1 s2]
  exact h
theorem p_eqTP {xs : List D} {e : D} {p q : PyData} (h1 : toPy S 70 (.tup xs) = some p) (h2 : toPy S 70 e = some q) (s1 : SeqAt.shaped p = true) (s2 : SeqAt.shaped q = true) (h : Q (.bl (PyData.eqv p q)) S) : SatX Y (semCop .eq (.tup xs) e S) Q := by
  have : eqD (.tup xs) e S = some (PyData.eqv p q) := by
    have : eqD (.tup xs) e S = (match toPy S 70 (.tup xs), toPy S 70 e with
      | some p, some q => if (SeqAt.shaped p && SeqAt.shaped q) = true then some (PyData.eqv p q) else none
      | _, _ => none) := by cases e <;> rfl
    rw [this, h1, h2]
    simp only [s1, s2, Bool.and_self, if_true]
  unfold semCop
  simp only [this]
  exact h
end
end Mz

end

section
set_option Elab.async false
set_option linter.all false
set_option maxRecDepth 100000
set_option maxHeartbeats 4000000
namespace Mz
open PySem PySem.Spec L2
section
variable {prg : Prg} {K : Nat} {S S' : Store} {Q : D → Store → Prop} {QI : IK → Store → Prop} {Y : Xc → Store → Prop} {E : PEnv} {as a o lo hi : T} {g : Sg}
theorem i_enumE (h : SatX Y ((sem E a).e g S) fun d S => ∃ n xs, d = .loc n ∧ S[n]? = some (.lst xs) ∧ QI (.enum n) S) : SatX Y ((sem E (.ienum (.cons a .nil))).i g S) QI := by
  refine sat_bind.mpr (x_cons (E := E) (h.mono fun d S h => ?_))
  obtain ⟨n, xs, rfl, hS, q⟩ := h
  refine x_nil (E := E) ?_
  show SatX Y (match S[n]? with | some (.lst _) => O.ok (IK.enum n) S | _ => .no) QI
  rw [hS]
  exact q
theorem x_cald {f : Str} (h : SatX Y ((sem E as).a g S) fun ds S => SatX Y (E.F f (ds ++ E.st.dfl f (lenT as)) S) Q) : SatX Y ((sem E (.cald f as)).e g S) Q := sat_bind.mpr h
theorem x_rev (h : SatX Y ((sem E a).e g S) fun d S => ∃ r xs, d = .loc r ∧ S[r]? = some (.lst xs) ∧ Q (.loc S.length) (S ++ [.lst xs.reverse])) : SatX Y ((sem E (.rev a)).e g S) Q := by
  refine sat_bind.mpr (h.mono fun d S h => ?_)
  obtain ⟨r, xs, rfl, hr, q⟩ := h
  rw [listAt_loc hr]
  exact q
theorem p_isT {xs : List D} (q : Q (.bl true) S) : SatX Y (semIsi .tuple (.tup xs) S) Q := by
  unfold semIsi
  rw [show tyNm S (.tup xs) = some "tuple" from rfl]
  exact q
theorem p_isL {r : Nat} {xs : List D} (h : S[r]? = some (.lst xs)) (q : Q (.bl true) S) : SatX Y (semIsi .list (.loc r) S) Q := by
  unfold semIsi
  rw [show tyNm S (.loc r) = some "list" by show (match S[r]? with | some (.lst _) => some "list" | _ => none) = _; rw [h]]
  exact q
theorem k_augS {Z : Xc → Sg → Store → Prop} {N B C : Sg → Store → Prop} {Rt : D → Store → Prop} {i : Nat} {p : Bop} {e : T} {x : D} (hx : g[i]? = some (some x)) (h : SatX (fun x S => Z x g S) ((sem E e).e g S) fun y S => ∃ z, augD p x y = some z ∧ N (g.set i (some z)) S) : SatRX Z ((sem E (.aug i p e)).s g S) N Rt B C := by
  show SatRX Z (sAug i p (sem E e).e g S) N Rt B C
  unfold sAug
  rw [hx]
  refine satR_bindR.mpr (h.mono fun y S h => ?_)
  obtain ⟨z, e1, q⟩ := h
  simp only [e1]
  exact q
theorem p_addT {xs ys : List D} (h : xs.length + ys.length ≤ sizeLine) (q : Q (.tup (xs ++ ys)) S) : SatX Y (semBop .add (.tup xs) (.tup ys) S) Q := by
  show SatX Y (if xs.length + ys.length ≤ sizeLine then O.ok (.tup (xs ++ ys)) S else .no) Q
  rw [if_pos h]
  exact q
theorem x_lrg (h : SatX Y ((sem E a).e g S) fun d S => ∃ n : Int, d = .int n ∧ 0 ≤ n ∧ n ≤ 16777216 ∧ Q (.loc S.length) (S ++ [.lst (intsFrom 0 n.toNat)])) : SatX Y ((sem E (.lrg a)).e g S) Q := by
  refine sat_bind.mpr (h.mono fun d S h => ?_)
  obtain ⟨n, rfl, h1, h2, q⟩ := h
  show SatX Y (if (decide (0 ≤ n) && decide (n ≤ 16777216)) = true then Mz.alloc (intsFrom 0 n.toNat) S else .no) Q
  rw [decide_eq_true h1, decide_eq_true h2]
  exact q
theorem p_isI {i : Int} (q : Q (.bl true) S) : SatX Y (semIsi .int (.int i) S) Q := q
theorem p_isIB {i : Int} (q : Q (.bl false) S) : SatX Y (semIsi .bool (.int i) S) Q := q
theorem p_neTP {xs : List D} {e : D} {p q : PyData} (h1 : toPy S 70 (.tup xs) = some p) (h2 : toPy S 70 e = some q) (s1 : SeqAt.shaped p = true) (s2 : SeqAt.shaped q = true) (h : Q (.bl (!PyData.eqv p q)) S) : SatX Y (semCop .ne (.tup xs) e S) Q := by
  have : eqD (.tup xs) e S = some (PyData.eqv p q) := by
    have : eqD (.tup xs) e S = (match toPy S 70 (.tup xs), toPy S 70 e with
      | some p, some q => if (SeqAt.shaped p && SeqAt.shaped q) = true then some (PyData.eqv p q) else none
      | _, _ => none) := by cases e <;> rfl
    rw [this, h1, h2]
    simp only [s1, s2, Bool.and_self, if_true]
  unfold semCop
  simp only [this]
  exact h
/-- the last item -/
theorem p_itLast {l : Nat} {xs : List D} {x : D} (hS : S[l]? = some (.lst (xs ++ [x]))) (q : Q x S) : SatX Y (semItem (.loc l) (.int (-1)) S) Q := by
  unfold semItem
  have e : L2.atI (xs ++ [x]) (-1) = some x := by
    unfold L2.atI ixN
    rw [List.length_append, List.length_singleton, if_neg (by omega), if_pos (by omega), show (-1 + ((xs.length + 1 : Nat) : Int)).toNat = xs.length by omega]
    simp
  simp only [seqAt_loc hS, e]
  exact q
theorem k_setLast {Z : Xc → Sg → Store → Prop} {N B C : Sg → Store → Prop} {Rt : D → Store → Prop} {b e : T} (h : SatX (fun x S => Z x g S) ((sem E e).e g S) fun d S => SatX (fun x S => Z x g S) ((sem E a).e g S) fun x S => SatX (fun x S => Z x g S) ((sem E b).e g S) fun y S => ∃ n xs x0, x = .loc n ∧ y = .int (-1) ∧ S[n]? = some (.lst (xs ++ [x0])) ∧ N g (S.set n (.lst (xs ++ [d])))) : SatRX Z ((sem E (.asg (.sub a b) e)).s g S) N Rt B C := by
  refine k_asgGS (h.mono fun d S h => ?_)
  refine sat_bind.mpr (h.mono fun x S h => sat_bind.mpr (h.mono fun y S h => sat_bind.mpr ?_))
  obtain ⟨n, xs, x0, rfl, rfl, hS, q⟩ := h
  have ix : ixN (xs ++ [x0]).length (-1) = some xs.length := by
    unfold ixN
    rw [List.length_append, List.length_singleton, if_neg (by omega), if_pos (by omega), show (-1 + ((xs.length + 1 : Nat) : Int)).toNat = xs.length by omega]
  have es : (xs ++ [x0]).set xs.length d = xs ++ [d] := by simp
  show SatX _ (setAt (.loc n) (.int (-1)) d S) _
  unfold setAt
  simp only [lstAt_loc hS, ix, es]
  exact q
/-- xs[a:b] = ys -/
theorem k_setSl {Z : Xc → Sg → Store → Prop} {N B C : Sg → Store → Prop} {Rt : D → Store → Prop} {e : T} (h1 : (sem E lo).o = oSome (sem E lo).e) (h2 : (sem E hi).o = oSome (sem E hi).e) (h : SatX (fun x S => Z x g S) ((sem E e).e g S) fun d S => SatX (fun x S => Z x g S) ((sem E a).e g S) fun x S => SatX (fun x S => Z x g S) ((sem E lo).e g S) fun y S => ∃ i : Nat, y = .int (i : Nat) ∧ SatX (fun x S => Z x g S) ((sem E hi).e g S) fun z S =>
    ∃ (j n k : Nat) (xs ys : List D), z = .int (j : Nat) ∧ x = .loc n ∧ d = .loc k ∧ n ≠ k ∧ S[n]? = some (.lst xs) ∧ S[k]? = some (.lst ys) ∧ i ≤ j ∧ xs.length + ys.length ≤ sizeLine ∧ N g (S.set n (.lst (xs.take i ++ ys ++ xs.drop j)))) : SatRX Z ((sem E (.asg (.sls a lo hi) e)).s g S) N Rt B C := by
  refine k_asgGS (h.mono fun d S h => ?_)
  refine sat_bind.mpr (h.mono fun x S h => sat_bind.mpr ?_)
  rw [h1]
  refine sat_bind.mpr (h.mono fun y S h => ?_)
  obtain ⟨i, rfl, h⟩ := h
  refine sat_ok.mpr (sat_bind.mpr ?_)
  rw [h2]
  refine sat_bind.mpr (h.mono fun z S h => ?_)
  obtain ⟨j, n, k, xs, ys, rfl, rfl, rfl, ne, hn, hk, hij, hz, q⟩ := h
  refine sat_ok.mpr (sat_bind.mpr ?_)
  have hc : n ≠ k ∧ 0 ≤ (i : Int) ∧ (i : Int) ≤ (j : Int) ∧ xs.length + ys.length ≤ sizeLine := ⟨ne, by omega, by omega, hz⟩
  show SatX _ (setSl (.loc n) (some (i : Int)) (some (j : Int)) (.loc k) S) _
  unfold setSl
  simp only [lstAt_loc hn, lstAt_loc hk]
  rw [if_pos hc, Int.toNat_natCast, Int.toNat_natCast]
  exact q
/-- a comprehension of two fors -/
theorem x_lc2 {own : List Nat} {tg it ts tg1 it1 ts1 el : T} (h : SatX Y ((sem E it).i g S) fun ik S => Sat (lcLoop2 ik (sem E tg).g (sem E ts).t (sem E it1).i (sem E tg1).g (sem E ts1).t (sem E el).e (slots tg1) (wipeG g own) (ibound ik S) 0 [] S) fun acc S => Q (.loc S.length) (S ++ [.lst acc])) : SatX Y ((sem E (.lc2 own tg it ts tg1 it1 ts1 el)).e g S) Q :=
  sat_bind.mpr (h.mono fun _ _ h => sat_bind.mpr (sat_noX.mpr h))
theorem lcLoop2_at {ik : IK} {t t1 : SG} {it1 : SI} {ts ts1 : ST} {el : SE} {vs1 : List Nat} {xs : List D} {g0 : Sg} {Q : List D → Store → Prop} (P : Nat → List D → Store → Prop) (st : ∀ i acc S, P i acc S → istep ik i S = some xs[i]?)
    (turn : ∀ i d acc S, xs[i]? = some d → P i acc S → SatX Y (t d g0 S) fun g S => SatX Y (ts g S) fun c S => (c = true → SatX Y (it1 g S) fun ik1 S => SatX Y (lcLoop ik1 t1 ts1 el (wipeG g vs1) (ibound ik1 S) 0 acc S) fun acc S => P (i + 1) acc S) ∧ (c = false → P (i + 1) acc S))
    (done : ∀ acc S, P xs.length acc S → Q acc S) : ∀ n i acc S, i + n = xs.length + 1 → i ≤ xs.length → P i acc S → SatX Y (lcLoop2 ik t ts it1 t1 ts1 el vs1 g0 n i acc S) Q := by
  intro n
  induction n with
  | zero => intro i acc S h1 h2; omega
  | succ n ih =>
    intro i acc S h1 h2 p
    show SatX Y (match istep ik i S with
      | some (some d) => (t d g0 S).bind fun g S => (ts g S).bind fun c S => if c = true then (it1 g S).bind fun ik1 S => (lcLoop ik1 t1 ts1 el (wipeG g vs1) (ibound ik1 S) 0 acc S).bind fun acc S => lcLoop2 ik t ts it1 t1 ts1 el vs1 g0 n (i + 1) acc S else lcLoop2 ik t ts it1 t1 ts1 el vs1 g0 n (i + 1) acc S
      | some none => .ok acc S
      | none => .no) Q
    rw [st i acc S p]
    by_cases hi : i < xs.length
    · rw [List.getElem?_eq_getElem hi]
      show SatX Y ((t xs[i] g0 S).bind _) Q
      rw [sat_bind]
      refine (turn i xs[i] acc S (List.getElem?_eq_getElem hi) p).mono fun g1 S1 h => ?_
      rw [sat_bind]
      refine h.mono fun c S2 h => ?_
      cases c with
      | true =>
        rw [if_pos rfl, sat_bind]
        refine (h.1 rfl).mono fun ik1 S3 h => ?_
        rw [sat_bind]
        exact h.mono fun acc S4 h => ih (i + 1) _ S4 (by omega) (by omega) h
      | false =>
        rw [if_neg Bool.false_ne_true]
        exact ih (i + 1) _ S2 (by omega) (by omega) (h.2 rfl)
    · have e : i = xs.length := by omega
      subst e
      rw [List.getElem?_eq_none (Nat.le_refl _)]
      exact done acc S p
/-! ### old cells stay -/
def Old (S S' : Store) : Prop := S.length ≤ S'.length ∧ ∀ i : Nat, i < S.length → S'[i]? = S[i]?
theorem Old.refl (S : Store) : Old S S := ⟨Nat.le_refl _, fun _ _ => rfl⟩
theorem Old.trans {S S1 S2 : Store} (a : Old S S1) (b : Old S1 S2) : Old S S2 := ⟨Nat.le_trans a.1 b.1, fun i h => (b.2 i (Nat.lt_of_lt_of_le h a.1)).trans (a.2 i h)⟩
theorem Old.app {S : Store} {c : List Cell} : Old S (S ++ c) := ⟨by simp, fun i h => List.getElem?_append_left h⟩
theorem Old.set {S S' : Store} {l : Nat} {c : Cell} (a : Old S S') (h : S.length ≤ l) : Old S (S'.set l c) := ⟨by rw [List.length_set]; exact a.1, fun i hi => by rw [List.getElem?_set_ne (by omega)]; exact a.2 i hi⟩
theorem Old.at {S S' : Store} {i : Nat} {c : Cell} (a : Old S S') (h : S[i]? = some c) : S'[i]? = some c := (a.2 i (lt_of h)).trans h
theorem Old.keep {S S' : Store} {n : Nat} (a : Old S S') : Keep n S S' := ⟨a.1, fun i h _ => a.2 i h⟩
theorem Grow.old {S S' : Store} (g : Grow S S') : Old S S' := by
  obtain ⟨r, rfl⟩ := g
  exact Old.app
theorem set_ne' {S : Store} {i l : Nat} {c c' : Cell} (ne : i ≠ l) (h : S[i]? = some c) : (S.set l c')[i]? = some c := by rw [List.getElem?_set_ne (Ne.symm ne)]; exact h
end
end Mz

end

section
set_option Elab.async false
set_option linter.all false
set_option maxRecDepth 100000
set_option maxHeartbeats 4000000
/-! what is data by itself, whatever the store -/
namespace Mz
open PySem PySem.Spec L2
section
variable {S S' : Store} {Q : D → Store → Prop} {Y : Xc → Store → Prop}
def PD (k : Nat) (d : D) : Prop := ∃ p, (∀ (S : Store) (m : Nat), k ≤ m → toPy S m d = some p) ∧ PyData.canLay0 p = true ∧ PyData.depth p < k
theorem PD.up {k j : Nat} {d : D} (h : PD k d) (hk : k ≤ j) : PD j d := let ⟨p, h1, h2, h3⟩ := h; ⟨p, fun S m hm => h1 S m (by omega), h2, by omega⟩
theorem pd_str {x : Str} (h : PyData.strOk x = true) : PD 1 (.str x) := ⟨.str x, fun S m hm => by
  obtain ⟨n, rfl⟩ : ∃ n, m = n + 1 := ⟨m - 1, by omega⟩
  rfl, h, Nat.zero_lt_one⟩
theorem pd_int {i : Int} : PD 1 (.int i) := ⟨.int i, fun S m hm => by
  obtain ⟨n, rfl⟩ : ∃ n, m = n + 1 := ⟨m - 1, by omega⟩
  rfl, rfl, Nat.zero_lt_one⟩
theorem pd_bl {b : Bool} : PD 1 (.bl b) := ⟨.bool b, fun S m hm => by
  obtain ⟨n, rfl⟩ : ∃ n, m = n + 1 := ⟨m - 1, by omega⟩
  rfl, rfl, Nat.zero_lt_one⟩
theorem pd_non : PD 1 .non := ⟨.none, fun S m hm => by
  obtain ⟨n, rfl⟩ : ∃ n, m = n + 1 := ⟨m - 1, by omega⟩
  rfl, rfl, Nat.zero_lt_one⟩
theorem pd_all {k : Nat} (hk : 0 < k) : ∀ {xs : List D}, (∀ x ∈ xs, PD k x) → ∃ ps, (∀ (S : Store) (m : Nat), k ≤ m → xs.mapM (toPy S m) = some ps) ∧ PyData.canLayAll0 ps = true ∧ PyData.depthAll ps < k
  | [], _ => ⟨[], fun S m hm => rfl, rfl, hk⟩
  | x :: xs, h => by
    obtain ⟨p, h1, h2, h3⟩ := h x (by simp)
    obtain ⟨ps, g1, g2, g3⟩ := pd_all hk fun y hy => h y (List.mem_cons_of_mem _ hy)
    refine ⟨p :: ps, fun S m hm => ?_, ?_, ?_⟩
    · rw [List.mapM_cons, h1 S m hm, g1 S m hm]; rfl
    · show (PyData.canLay0 p && PyData.canLayAll0 ps) = true
      rw [h2, g2]; rfl
    · show max _ _ < k
      omega
theorem pd_tup {k : Nat} {xs : List D} (hk : 0 < k) (h : ∀ x ∈ xs, PD k x) : PD (k + 1) (.tup xs) := by
  obtain ⟨ps, g1, g2, g3⟩ := pd_all hk h
  refine ⟨.tuple ps, fun S m hm => ?_, g2, ?_⟩
  · obtain ⟨n, rfl⟩ : ∃ n, m = n + 1 := ⟨m - 1, by omega⟩
    show (xs.mapM (toPy S n)).map PyData.tuple = _
    rw [g1 S n (by omega)]; rfl
  · show PyData.depthAll ps + 1 < k + 1
    omega
theorem pd_loc {k r : Nat} {xs : List D} (hk : 0 < k) (h : ∀ x ∈ xs, PD k x) : ∃ p, (∀ (S : Store) (m r : Nat), k < m → S[r]? = some (.lst xs) → toPy S m (.loc r) = some (.list p)) ∧ PyData.canLay0 (.list p) = true ∧ PyData.depth (.list p) < k + 1 := by
  obtain ⟨ps, g1, g2, g3⟩ := pd_all hk h
  refine ⟨ps, fun S m r hm hr => ?_, g2, ?_⟩
  · obtain ⟨n, rfl⟩ : ∃ n, m = n + 1 := ⟨m - 1, by omega⟩
    rw [py_loc hr, g1 S n (by omega)]; rfl
  · show PyData.depthAll ps + 1 < k + 1
    omega
theorem shaped_of {p : PyData} {k : Nat} (h1 : PyData.canLay0 p = true) (h2 : PyData.depth p < k) (hk : k ≤ 65) : SeqAt.shaped p = true := by
  unfold SeqAt.shaped
  rw [h1, decide_eq_true (by omega : PyData.depth p ≤ 64)]
  rfl
theorem p_eqSame {k r r' : Nat} {xs : List D} (h1 : S[r]? = some (.lst xs)) (h2 : S[r']? = some (.lst xs)) (hk : 0 < k) (pd : ∀ x ∈ xs, PD k x) (hk2 : k ≤ 60) (q : Q (.bl true) S) : SatX Y (semCop .eq (.loc r) (.loc r') S) Q := by
  obtain ⟨p, g1, g2, g3⟩ := pd_loc (r := r) hk pd
  have sh := shaped_of g2 g3 (by omega)
  refine p_eqP (g1 S 70 r (by omega) h1) (g1 S 70 r' (by omega) h2) sh sh ?_
  rw [SeqAt.eqv_refl _ g2]
  exact q
theorem p_neSame {k r r' : Nat} {xs : List D} (h1 : S[r]? = some (.lst xs)) (h2 : S[r']? = some (.lst xs)) (hk : 0 < k) (pd : ∀ x ∈ xs, PD k x) (hk2 : k ≤ 60) (q : Q (.bl false) S) : SatX Y (semCop .ne (.loc r) (.loc r') S) Q := by
  obtain ⟨p, g1, g2, g3⟩ := pd_loc (r := r) hk pd
  have sh := shaped_of g2 g3 (by omega)
  refine p_neP (g1 S 70 r (by omega) h1) (g1 S 70 r' (by omega) h2) sh sh ?_
  rw [SeqAt.eqv_refl _ g2]
  exact q
theorem p_eqNil {k r r' : Nat} {x : D} {xs : List D} (h1 : S[r]? = some (.lst (x :: xs))) (h2 : S[r']? = some (.lst [])) (hk : 0 < k) (pd : ∀ y ∈ x :: xs, PD k y) (hk2 : k ≤ 60) (q : Q (.bl false) S) : SatX Y (semCop .eq (.loc r) (.loc r') S) Q := by
  obtain ⟨ps, g1, g2, g3⟩ := pd_all hk pd
  have hd : PyData.depth (.list ps) < k + 1 := by
    show PyData.depthAll ps + 1 < k + 1
    omega
  have hne : ps.isEmpty = false := by
    have := g1 [] k (Nat.le_refl _)
    rw [List.mapM_cons] at this
    cases e1 : toPy [] k x with
    | none => rw [e1] at this; cases this
    | some p =>
      cases e2 : xs.mapM (toPy [] k) with
      | none => rw [e1, e2] at this; cases this
      | some qs => rw [e1, e2] at this; cases this; rfl
  refine p_eqP (p := .list ps) (q := .list []) ?_ ?_ (shaped_of (k := k + 1) g2 hd (by omega)) (by decide) ?_
  · rw [show (70 : Nat) = 69 + 1 from rfl, py_loc h1, g1 S 69 (by omega)]; rfl
  · rw [show (70 : Nat) = 69 + 1 from rfl, py_loc h2]; rfl
  · rw [eqv_nil, hne]
    exact q
theorem p_eqNil0 {r r' : Nat} (h1 : S[r]? = some (.lst [])) (h2 : S[r']? = some (.lst [])) (q : Q (.bl true) S) : SatX Y (semCop .eq (.loc r) (.loc r') S) Q :=
  p_eqSame h1 h2 (k := 1) (by decide) (fun _ h => by cases h) (by decide) q
theorem p_neNil {k r r' : Nat} {xs : List D} (h1 : S[r]? = some (.lst xs)) (h2 : S[r']? = some (.lst [])) (hk : 0 < k) (pd : ∀ y ∈ xs, PD k y) (hk2 : k ≤ 60) (q : Q (.bl (!xs.isEmpty)) S) : SatX Y (semCop .ne (.loc r) (.loc r') S) Q := by
  cases xs with
  | nil => exact p_neSame h1 h2 hk pd hk2 q
  | cons x xs =>
    have : SatX Y (semCop .eq (.loc r) (.loc r') S) fun d S' => d = .bl false ∧ S' = S := p_eqNil h1 h2 hk pd hk2 ⟨rfl, rfl⟩
    unfold semCop at this ⊢
    dsimp only at this ⊢
    cases e : eqD (.loc r) (.loc r') S with
    | none => rw [e] at this; exact this.elim
    | some c =>
      rw [e] at this
      obtain ⟨h, _⟩ := (show D.bl c = .bl false ∧ S = S from this)
      cases h
      exact q
end
end Mz

end

section
set_option Elab.async false
set_option linter.all false
set_option maxRecDepth 100000
set_option maxHeartbeats 4000000
namespace Rc
open PySem PySem.Spec L2 Mz
inductive All2 {α β : Type} (R : α → β → Prop) : List α → List β → Prop
  | nil : All2 R [] []
  | cons {a : α} {b : β} {as : List α} {bs : List β} : R a b → All2 R as bs → All2 R (a :: as) (b :: bs)
theorem All2.imp {α β : Type} {R R' : α → β → Prop} {as : List α} {bs : List β} (h : All2 R as bs) (i : ∀ a b, R a b → R' a b) : All2 R' as bs := by
  induction h with
  | nil => exact .nil
  | cons h _ ih => exact .cons (i _ _ h) ih
theorem All2.len {α β : Type} {R : α → β → Prop} {as : List α} {bs : List β} (h : All2 R as bs) : as.length = bs.length := by
  induction h with
  | nil => rfl
  | cons _ _ ih => simp [ih]
theorem All2.snoc {α β : Type} {R : α → β → Prop} {as : List α} {bs : List β} {a : α} {b : β} (h : All2 R as bs) (h2 : R a b) : All2 R (as ++ [a]) (bs ++ [b]) := by
  induction h with
  | nil => exact .cons h2 .nil
  | cons h _ ih => exact .cons h ih
theorem All2.app {α β : Type} {R : α → β → Prop} {as as' : List α} {bs bs' : List β} (h : All2 R as bs) (h2 : All2 R as' bs') : All2 R (as ++ as') (bs ++ bs') := by
  induction h with
  | nil => exact h2
  | cons h _ ih => exact .cons h ih
theorem All2.get {α β : Type} {R : α → β → Prop} {as : List α} {bs : List β} (h : All2 R as bs) : ∀ {i : Nat} {a : α}, as[i]? = some a → ∃ b, bs[i]? = some b ∧ R a b := by
  induction h with
  | nil => intro i a h; simp at h
  | cons h1 _ ih =>
    intro i a h
    cases i with
    | zero => simp at h; subst h; exact ⟨_, rfl, h1⟩
    | succ i => simpa using ih (by simpa using h)
end Rc

end

section
set_option Elab.async false
set_option linter.all false
/-! pages' patches in plain mathematics: the table, the steps, the rows -/
namespace Pt
variable {α : Type} [DecidableEq α]
/-- how many lines can be left of both, for two beginnings -/
def L (a b : List α) : Nat → Nat → Nat
  | 0, _ => 0
  | _ + 1, 0 => 0
  | i + 1, j + 1 => if a[i]? = b[j]? then L a b i j + 1 else max (L a b i (j + 1)) (L a b (i + 1) j)
termination_by i j => i + j
theorem L_0 (a b : List α) (j : Nat) : L a b 0 j = 0 := by rw [L]
theorem L_i0 (a b : List α) (i : Nat) : L a b i 0 = 0 := by
  cases i with
  | zero => rw [L]
  | succ i => rw [L]
theorem L_s (a b : List α) (i j : Nat) : L a b (i + 1) (j + 1) = if a[i]? = b[j]? then L a b i j + 1 else max (L a b i (j + 1)) (L a b (i + 1) j) := by rw [L]
theorem L_le (a b : List α) : ∀ n i j : Nat, i + j ≤ n → L a b i j ≤ i
  | 0, i, j, h => by
    obtain rfl : i = 0 := by omega
    rw [L_0]; exact Nat.le_refl _
  | n + 1, 0, j, h => by rw [L_0]; exact Nat.le_refl _
  | n + 1, i + 1, 0, h => by rw [L_i0]; omega
  | n + 1, i + 1, j + 1, h => by
    rw [L_s]
    split
    · have := L_le a b n i j (by omega); omega
    · have h1 := L_le a b n i (j + 1) (by omega)
      have h2 := L_le a b n (i + 1) j (by omega)
      omega

inductive Op (α : Type) where
  | keep | cut | put (x : α)
/-- steps gone forward: where they lead, how many lines are kept -/
def ap : List (Op α) → List α → Option (List α × Nat)
  | [], [] => some ([], 0)
  | [], _ :: _ => none
  | .keep :: r, x :: l => (ap r l).map fun q => (x :: q.1, q.2 + 1)
  | .cut :: r, _ :: l => ap r l
  | .put y :: r, l => (ap r l).map fun q => (y :: q.1, q.2)
  | .keep :: _, [] => none
  | .cut :: _, [] => none
/-- what stands behind some backward steps -/
def Inv (a b : List α) (i j : Nat) (fs : List (Op α)) : Prop := i ≤ a.length ∧ j ≤ b.length ∧ ∃ k, ap fs.reverse (a.drop i) = some (b.drop j, k) ∧ L a b i j + k = L a b a.length b.length
theorem inv0 (a b : List α) : Inv a b a.length b.length [] := ⟨Nat.le_refl _, Nat.le_refl _, 0, by rw [List.drop_length, List.drop_length]; rfl, rfl⟩
section
variable {a b : List α} {i j : Nat} {fs : List (Op α)}
theorem drop_at {x : α} (h : a[i]? = some x) : a.drop i = x :: a.drop (i + 1) := by
  obtain ⟨h1, h2⟩ := List.getElem?_eq_some_iff.mp h
  rw [List.drop_eq_getElem_cons h1, h2]
theorem inv_keep (h : Inv a b (i + 1) (j + 1) fs) (e : a[i]? = b[j]?) : Inv a b i j (fs ++ [.keep]) := by
  obtain ⟨h1, h2, k, h3, h4⟩ := h
  refine ⟨by omega, by omega, k + 1, ?_, ?_⟩
  · have ha : a[i]? = some a[i] := List.getElem?_eq_getElem (by omega)
    rw [List.reverse_append, List.reverse_singleton, List.singleton_append, drop_at ha, drop_at (e.symm.trans ha)]
    unfold ap
    rw [h3]; rfl
  · rw [L_s, if_pos e] at h4; omega
theorem inv_put {y : α} (h : Inv a b i (j + 1) fs) (e : ∀ i', i = i' + 1 → a[i']? ≠ b[j]?) (g : ∀ i', i = i' + 1 → L a b i' (j + 1) ≤ L a b i j) (hy : b[j]? = some y) : Inv a b i j (fs ++ [.put y]) := by
  obtain ⟨h1, h2, k, h3, h4⟩ := h
  refine ⟨by omega, by omega, k, ?_, ?_⟩
  · rw [List.reverse_append, List.reverse_singleton, List.singleton_append, drop_at hy]
    unfold ap
    rw [h3]; rfl
  · cases i with
    | zero => rw [L_0] at h4 ⊢; exact h4
    | succ i' =>
      rw [L_s, if_neg (e i' rfl), Nat.max_eq_right (g i' rfl)] at h4
      exact h4
theorem inv_cut (h : Inv a b (i + 1) j fs) (e : ∀ j', j = j' + 1 → a[i]? ≠ b[j']? ∧ L a b (i + 1) j' < L a b i (j' + 1)) : Inv a b i j (fs ++ [.cut]) := by
  obtain ⟨h1, h2, k, h3, h4⟩ := h
  refine ⟨by omega, h2, k, ?_, ?_⟩
  · have ha : a[i]? = some a[i] := List.getElem?_eq_getElem (by omega)
    rw [List.reverse_append, List.reverse_singleton, List.singleton_append, drop_at ha]
    unfold ap
    exact h3
  · cases j with
    | zero => rw [L_i0] at h4 ⊢; exact h4
    | succ j' =>
      rw [L_s, if_neg (e j' rfl).1, Nat.max_eq_left (Nat.le_of_lt (e j' rfl).2)] at h4
      exact h4
theorem inv_end (h : Inv a b 0 0 fs) : ap fs.reverse a = some (b, L a b a.length b.length) := by
  obtain ⟨h1, h2, k, h3, h4⟩ := h
  rw [List.drop_zero, List.drop_zero] at h3
  rw [L_0, Nat.zero_add] at h4
  rw [h3, h4]
end

inductive Row (α : Type) where
  | keep (n : Nat) | cut (n : Nat) | put (xs : List α)
def Row.w : Row α → Nat
  | .keep _ => 0 | .cut _ => 1 | .put _ => 2
def Op.w : Op α → Nat
  | .keep => 0 | .cut => 1 | .put _ => 2
def Row.flat : Row α → List (Op α)
  | .keep n => List.replicate n .keep
  | .cut n => List.replicate n .cut
  | .put xs => xs.map .put
def Op.row : Op α → Row α
  | .keep => .keep 1 | .cut => .cut 1 | .put x => .put [x]
/-- one more of the same word -/
def Row.more : Row α → Op α → Row α
  | .keep n, _ => .keep (n + 1)
  | .cut n, _ => .cut (n + 1)
  | .put xs, .put x => .put (xs ++ [x])
  | .put xs, _ => .put xs
def addOp (rs : List (Row α)) (o : Op α) : List (Row α) := match rs.getLast? with
  | some r => if r.w = o.w then rs.dropLast ++ [r.more o] else rs ++ [o.row]
  | none => [o.row]
def Row.ok : Row α → Prop
  | .keep n => 0 < n | .cut n => 0 < n | .put xs => xs ≠ []
/-- rows of unlike words next to one another -/
def Alt : List (Row α) → Prop
  | r :: s :: t => r.w ≠ s.w ∧ Alt (s :: t)
  | _ => True
theorem more_flat {r : Row α} {o : Op α} (h : r.w = o.w) : (r.more o).flat = r.flat ++ [o] := by
  cases r <;> cases o <;> first | cases h | skip
  · show List.replicate _ _ = _
    rw [List.replicate_succ']; rfl
  · show List.replicate _ _ = _
    rw [List.replicate_succ']; rfl
  · show List.map _ (_ ++ [_]) = _
    rw [List.map_append]; rfl
theorem more_w {r : Row α} {o : Op α} : (r.more o).w = r.w := by
  cases r <;> cases o <;> rfl
theorem row_flat {o : Op α} : (o.row).flat = [o] := by cases o <;> rfl
theorem row_w {o : Op α} : (o.row).w = o.w := by cases o <;> rfl
theorem more_ok {r : Row α} {o : Op α} (h : r.ok) : (r.more o).ok := by
  cases r with
  | keep n => exact Nat.succ_pos _
  | cut n => exact Nat.succ_pos _
  | put xs =>
    cases o with
    | put x => show xs ++ [x] ≠ []; simp
    | keep => exact h
    | cut => exact h
theorem row_ok {o : Op α} : (o.row).ok := by
  cases o with
  | keep => exact Nat.succ_pos _
  | cut => exact Nat.succ_pos _
  | put x => show [x] ≠ []; simp
theorem last_split {β : Type} {l : List β} {x : β} (h : l.getLast? = some x) : ∃ r, l = r ++ [x] := List.getLast?_eq_some_iff.mp h
theorem add_flat (rs : List (Row α)) (o : Op α) : (addOp rs o).flatMap Row.flat = rs.flatMap Row.flat ++ [o] := by
  unfold addOp
  split
  · rename_i r h
    obtain ⟨q, rfl⟩ := last_split h
    split
    · rename_i hw
      rw [List.dropLast_concat, List.flatMap_append, List.flatMap_append, List.flatMap_singleton, List.flatMap_singleton, more_flat hw, List.append_assoc]
    · rw [List.flatMap_append, List.flatMap_singleton, row_flat]
  · rename_i h
    rw [List.getLast?_eq_none_iff.mp h, List.flatMap_singleton, row_flat]; rfl
theorem alt_end {q : List (Row α)} {r : Row α} : ∀ {q : List (Row α)}, Alt (q ++ [r]) → ∀ s : Row α, s.w = r.w → Alt (q ++ [s])
  | [], h, s, e => trivial
  | [x], h, s, e => by
    have h : x.w ≠ r.w ∧ _ := h
    exact ⟨by rw [e]; exact h.1, trivial⟩
  | x :: y :: t, h, s, e => by
    have h : x.w ≠ y.w ∧ Alt (y :: t ++ [r]) := h
    exact ⟨h.1, alt_end (q := q) h.2 s e⟩
theorem alt_add {r : Row α} : ∀ {q : List (Row α)}, Alt (q ++ [r]) → ∀ s : Row α, r.w ≠ s.w → Alt (q ++ [r] ++ [s])
  | [], h, s, e => ⟨e, trivial⟩
  | [x], h, s, e => by
    have h : x.w ≠ r.w ∧ _ := h
    exact ⟨h.1, e, trivial⟩
  | x :: y :: t, h, s, e => by
    have h : x.w ≠ y.w ∧ Alt (y :: t ++ [r]) := h
    exact ⟨h.1, alt_add h.2 s e⟩
theorem add_alt {rs : List (Row α)} (h : Alt rs) (o : Op α) : Alt (addOp rs o) := by
  unfold addOp
  split
  · rename_i r hl
    obtain ⟨q, rfl⟩ := last_split hl
    split
    · rw [List.dropLast_concat]
      exact alt_end (q := q) h _ more_w
    · rename_i hw
      exact alt_add h _ (by rw [row_w]; exact hw)
  · trivial
theorem add_ok {rs : List (Row α)} (h : ∀ r ∈ rs, r.ok) (o : Op α) : ∀ r ∈ addOp rs o, r.ok := by
  unfold addOp
  split
  · rename_i r hl
    obtain ⟨q, rfl⟩ := last_split hl
    split
    · rw [List.dropLast_concat]
      intro s hs
      rcases List.mem_append.mp hs with hs | hs
      · exact h s (List.mem_append_left _ hs)
      · obtain rfl := List.mem_singleton.mp hs
        exact more_ok (h r (by simp))
    · intro s hs
      rcases List.mem_append.mp hs with hs | hs
      · exact h s hs
      · obtain rfl := List.mem_singleton.mp hs
        exact row_ok
  · intro s hs
    obtain rfl := List.mem_singleton.mp hs
    exact row_ok
def grp (ops : List (Op α)) : List (Row α) := ops.foldl addOp []
theorem grp_add (ops : List (Op α)) (o : Op α) : grp (ops ++ [o]) = addOp (grp ops) o := by
  unfold grp; rw [List.foldl_append]; rfl
/-- rows gone through -/
def runR : List (Row α) → List α → Option (List α × Nat)
  | [], [] => some ([], 0)
  | [], _ :: _ => none
  | .keep n :: r, l => if n ≤ l.length then (runR r (l.drop n)).map fun q => (l.take n ++ q.1, n + q.2) else none
  | .cut n :: r, l => if n ≤ l.length then runR r (l.drop n) else none
  | .put xs :: r, l => (runR r l).map fun q => (xs ++ q.1, q.2)
theorem ap_keep : ∀ (n : Nat) (r : List (Op α)) (l : List α), ap (List.replicate n .keep ++ r) l = if n ≤ l.length then (ap r (l.drop n)).map fun q => (l.take n ++ q.1, n + q.2) else none
  | 0, r, l => by
    rw [if_pos (Nat.zero_le _)]
    show ap r l = (ap r l).map _
    cases ap r l <;> simp
  | n + 1, r, [] => by rw [if_neg (by simp)]; rfl
  | n + 1, r, x :: l => by
    show (ap (List.replicate n .keep ++ r) l).map _ = _
    rw [ap_keep n r l]
    by_cases h : n ≤ l.length
    · rw [if_pos h, if_pos (by simpa using h)]
      show Option.map _ (Option.map _ (ap r (l.drop n))) = Option.map _ (ap r (l.drop n))
      cases ap r (l.drop n) with
      | none => rfl
      | some q => show some (x :: (l.take n ++ q.1), n + q.2 + 1) = some (x :: l.take n ++ q.1, n + 1 + q.2); congr 2; omega
    · rw [if_neg h, if_neg (by simpa using h)]; rfl
theorem ap_cut : ∀ (n : Nat) (r : List (Op α)) (l : List α), ap (List.replicate n .cut ++ r) l = if n ≤ l.length then ap r (l.drop n) else none
  | 0, r, l => by rw [if_pos (Nat.zero_le _)]; rfl
  | n + 1, r, [] => by rw [if_neg (by simp)]; rfl
  | n + 1, r, x :: l => by
    show ap (List.replicate n .cut ++ r) l = _
    rw [ap_cut n r l]
    by_cases h : n ≤ l.length
    · rw [if_pos h, if_pos (by simpa using h)]; rfl
    · rw [if_neg h, if_neg (by simpa using h)]
theorem ap_put : ∀ (xs : List α) (r : List (Op α)) (l : List α), ap (xs.map .put ++ r) l = (ap r l).map fun q => (xs ++ q.1, q.2)
  | [], r, l => by
    show ap r l = (ap r l).map _
    cases ap r l <;> simp
  | x :: xs, r, l => by
    show (ap (xs.map .put ++ r) l).map _ = _
    rw [ap_put xs r l, Option.map_map]
    rfl
theorem run_flat : ∀ (rs : List (Row α)) (l : List α), ap (rs.flatMap Row.flat) l = runR rs l
  | [], [] => rfl
  | [], _ :: _ => rfl
  | .keep n :: r, l => by
    rw [List.flatMap_cons]
    show ap (List.replicate n .keep ++ _) l = _
    rw [ap_keep]
    unfold runR
    rw [run_flat r]
  | .cut n :: r, l => by
    rw [List.flatMap_cons]
    show ap (List.replicate n .cut ++ _) l = _
    rw [ap_cut]
    unfold runR
    rw [run_flat r]
  | .put xs :: r, l => by
    rw [List.flatMap_cons]
    show ap (xs.map .put ++ _) l = _
    rw [ap_put]
    unfold runR
    rw [run_flat r]
theorem grp_all (ops : List (Op α)) : (grp ops).flatMap Row.flat = ops ∧ Alt (grp ops) ∧ ∀ r ∈ grp ops, r.ok := by
  have key : ∀ (ops : List (Op α)) (rs : List (Row α)), Alt rs → (∀ r ∈ rs, r.ok) → (ops.foldl addOp rs).flatMap Row.flat = rs.flatMap Row.flat ++ ops ∧ Alt (ops.foldl addOp rs) ∧ ∀ r ∈ ops.foldl addOp rs, r.ok := by
    intro ops
    induction ops with
    | nil => intro rs h1 h2; exact ⟨by simp, h1, h2⟩
    | cons o ops ih =>
      intro rs h1 h2
      obtain ⟨a, b, c⟩ := ih (addOp rs o) (add_alt h1 o) (add_ok h2 o)
      refine ⟨?_, b, c⟩
      rw [List.foldl_cons, a, add_flat, List.append_assoc]; rfl
  have := key ops [] trivial (fun _ h => by cases h)
  simpa [grp] using this
theorem grp_run {ops : List (Op α)} {a : List α} {q : List α × Nat} (h : ap ops a = some q) : runR (grp ops) a = some q := by
  rw [← run_flat, (grp_all ops).1, h]
/-- how many lines rows keep -/
def kept : List (Row α) → Nat
  | [] => 0
  | .keep n :: r => n + kept r
  | _ :: r => kept r
theorem run_kept : ∀ (rs : List (Row α)) (l out : List α) (k : Nat), runR rs l = some (out, k) → kept rs = k
  | [], [], out, k, h => by cases h; rfl
  | [], _ :: _, out, k, h => by cases h
  | .keep n :: r, l, out, k, h => by
    unfold runR at h
    split at h
    · cases e : runR r (l.drop n) with
      | none => rw [e] at h; cases h
      | some q => rw [e] at h; cases h; show n + kept r = n + q.2; rw [run_kept r _ q.1 q.2 e]
    · cases h
  | .cut n :: r, l, out, k, h => by
    unfold runR at h
    split at h
    · exact run_kept r _ _ _ h
    · cases h
  | .put xs :: r, l, out, k, h => by
    unfold runR at h
    cases e : runR r l with
    | none => rw [e] at h; cases h
    | some q => rw [e] at h; cases h; exact run_kept r _ q.1 q.2 e
end Pt

end

section
set_option Elab.async false
set_option linter.all false
set_option maxRecDepth 100000
set_option maxHeartbeats 4000000
local macro_rules | `(tactic| walk_at "cl") => `(tactic| first | assumption | exact Mz.new_at | exact Mz.set_at (by walk_at "cl") | exact Mz.app_at (by walk_at "cl") | exact Mz.Grow.at ‹_› (by walk_at "cl"))
local macro_rules | `(tactic| walk_at "go") => `(tactic| repeat (first | with_reducible refine ⟨_, _, _, _, _, _, rfl, (by walk_at "cl"), ?_⟩ | with_reducible refine Mz.k_cons ?_ | with_reducible refine Mz.k_asgS ?_ | with_reducible refine Mz.k_retS ?_ | with_reducible refine Mz.k_exS ?_ | with_reducible refine Mz.x_bin ?_ | with_reducible refine Mz.x_cmp ?_ | with_reducible refine Mz.x_sub ?_ | with_reducible refine Mz.x_call ?_ | with_reducible refine Mz.x_blt ?_ | with_reducible refine Mz.x_cons ?_ | with_reducible refine Mz.x_nil ?_ | with_reducible refine Mz.x_tup ?_ | with_reducible refine Mz.x_lst ?_ | with_reducible refine Mz.x_int ?_ | with_reducible refine Mz.x_str ?_ | with_reducible refine Mz.x_bl ?_ | with_reducible refine Mz.x_non ?_ | with_reducible refine Mz.p_add ?_ | with_reducible refine Mz.p_sub ?_ | with_reducible refine Mz.p_eqI ?_ | with_reducible refine Mz.p_neI ?_ | with_reducible refine Mz.p_eqS ?_ | with_reducible refine Mz.p_neS ?_ | with_reducible refine Mz.p_lt ?_ | with_reducible refine Mz.p_le ?_ | with_reducible refine Mz.p_ge ?_ | with_reducible refine Mz.p_gt ?_ | with_reducible refine Mz.y_cmp ?_ | with_reducible refine Mz.x_fst ?_ | with_reducible refine Mz.j_cons ?_ | with_reducible refine Mz.j_nil ?_ | with_reducible refine Mz.x_fmt ?_ | with_reducible refine Mz.x_chain ?_ | with_reducible refine Mz.y_chain ?_ | with_reducible refine Mz.p_leS ?_ | with_reducible refine Mz.p_is ?_ | with_reducible refine Mz.p_isnot ?_ | with_reducible refine Mz.p_ord ?_ | with_reducible refine Mz.p_max ?_ | with_reducible refine Mz.p_min ?_ | with_reducible refine Mz.p_abs ?_ | with_reducible refine Mz.p_itT (by decide) rfl ?_ | (with_reducible refine (?_ : Mz.SatX _ _ _); simp only [List.set_cons_zero, List.set_cons_succ]) | with_reducible refine Mz.x_var (by with_unfolding_all exact rfl) ?_ | with_reducible refine ⟨(by simp only [List.length_cons, List.length_nil, PySem.sizeLine_eq]; omega : (List.length _ ≤ PySem.sizeLine)), ?_⟩))
local macro_rules | `(tactic| walk_at "st") => `(tactic| simp only [Mz.startG, List.map_cons, List.map_nil, List.length_cons, List.length_nil, Nat.reduceAdd, Nat.reduceSub, List.replicate, List.cons_append, List.nil_append, Nat.zero_add])

namespace Pt
open PySem PySem.Spec L2 Mz TL Rc
def t_table : T := (.cons (.alc 2 [4] (.var 4) (.irng (.cons (.bin .add (.blt .len (.cons (.var 0) .nil)) (.int 1)) .nil)) .nil (.bin .mul (.lst (.cons (.int 0) .nil)) (.bin .add (.blt .len (.cons (.var 1) .nil)) (.int 1)))) (.cons (.for_ (.tup (.cons (.var 3) (.cons (.var 4) .nil))) (.ienum (.cons (.var 0) .nil)) (.cons (.for_ (.tup (.cons (.var 5) (.cons (.var 6) .nil))) (.ienum (.cons (.var 1) .nil)) (.cons (.asg (.sub (.sub (.var 2) (.bin .add (.var 3) (.int 1))) (.bin .add (.var 5) (.int 1))) (.ife (.cmp .eq (.var 4) (.var 6)) (.bin .add (.sub (.sub (.var 2) (.var 3)) (.var 5)) (.int 1)) (.blt .max2 (.cons (.sub (.sub (.var 2) (.var 3)) (.bin .add (.var 5) (.int 1))) (.cons (.sub (.sub (.var 2) (.bin .add (.var 3) (.int 1))) (.var 5)) .nil))))) .nil)) .nil)) (.cons (.ret (.var 2)) .nil)))
def t_steps_between : T := (.cons (.asg (.var 2) (.call "table" (.cons (.var 0) (.cons (.var 1) .nil)))) (.cons (.par 4 5 (.cons (.blt .len (.cons (.var 0) .nil)) (.cons (.blt .len (.cons (.var 1) .nil)) .nil))) (.cons (.asg (.var 3) (.lst .nil)) (.cons (.whl 1000000 (.or (.cmp .gt (.var 4) (.int 0)) (.cmp .gt (.var 5) (.int 0))) (.cons (.ifs (.and (.cmp .gt (.var 4) (.int 0)) (.and (.cmp .gt (.var 5) (.int 0)) (.cmp .eq (.sub (.var 0) (.bin .sub (.var 4) (.int 1))) (.sub (.var 1) (.bin .sub (.var 5) (.int 1)))))) (.cons (.par 4 5 (.cons (.bin .sub (.var 4) (.int 1)) (.cons (.bin .sub (.var 5) (.int 1)) .nil))) (.cons (.ex (.mth .append (.var 3) (.cons (.tup (.cons (.str "keep") (.cons .non .nil))) .nil))) .nil)) (.cons (.ifs (.and (.cmp .gt (.var 5) (.int 0)) (.or (.cmp .eq (.var 4) (.int 0)) (.cmp .ge (.sub (.sub (.var 2) (.var 4)) (.bin .sub (.var 5) (.int 1))) (.sub (.sub (.var 2) (.bin .sub (.var 4) (.int 1))) (.var 5))))) (.cons (.aug 5 .sub (.int 1)) (.cons (.ex (.mth .append (.var 3) (.cons (.tup (.cons (.str "put") (.cons (.sub (.var 1) (.var 5)) .nil))) .nil))) .nil)) (.cons (.aug 4 .sub (.int 1)) (.cons (.ex (.mth .append (.var 3) (.cons (.tup (.cons (.str "cut") (.cons .non .nil))) .nil))) .nil))) .nil)) .nil)) (.cons (.ret (.rev (.var 3))) .nil)))))
def t_patch : T := (.cons (.asg (.var 2) (.lst .nil)) (.cons (.for_ (.tup (.cons (.var 3) (.cons (.var 4) .nil))) (.call "steps_between" (.cons (.var 0) (.cons (.var 1) .nil))) (.cons (.ifs (.or (.cmp .eq (.var 2) (.lst .nil)) (.cmp .ne (.sub (.sub (.var 2) (.neg (.int 1))) (.int 0)) (.var 3))) (.cons (.ex (.mth .append (.var 2) (.cons (.tup (.cons (.var 3) (.cons (.ife (.cmp .eq (.var 3) (.str "put")) (.tup .nil) (.int 0)) .nil))) .nil))) .nil) .nil) (.cons (.asg (.var 5) (.ife (.cmp .eq (.var 3) (.str "put")) (.tup (.cons (.var 4) .nil)) (.int 1))) (.cons (.asg (.sub (.var 2) (.neg (.int 1))) (.tup (.cons (.var 3) (.cons (.bin .add (.sub (.sub (.var 2) (.neg (.int 1))) (.int 1)) (.var 5)) .nil)))) .nil)))) (.cons (.ret (.var 2)) .nil)))
def t_is_whole : T := (.cons (.ret (.and (.isi .int (.var 0)) (.nt (.isi .bool (.var 0))))) .nil)
def t_is_row : T := (.cons (.ifs (.or (.nt (.isi .tuple (.var 0))) (.cmp .ne (.blt .len (.cons (.var 0) .nil)) (.int 2))) (.cons (.ret (.bl false)) .nil) .nil) (.cons (.asg (.tup (.cons (.var 1) (.cons (.var 2) .nil))) (.var 0)) (.cons (.ifs (.cmp .in_ (.var 1) (.tup (.cons (.str "keep") (.cons (.str "cut") .nil)))) (.cons (.ret (.and (.call "is_whole" (.cons (.var 2) .nil)) (.cmp .gt (.var 2) (.int 0)))) .nil) .nil) (.cons (.ret (.and (.cmp .eq (.var 1) (.str "put")) (.and (.isi .tuple (.var 2)) (.and (.cmp .ne (.var 2) (.tup .nil)) (.blt .all1 (.cons (.lc [3] (.var 3) (.var 2) .nil (.isi .str (.var 3))) .nil)))))) .nil))))
def t_is_table : T := (.cons (.ifs (.or (.nt (.isi .list (.var 2))) (.nt (.blt .all1 (.cons (.lc [3] (.var 3) (.var 2) .nil (.isi .list (.var 3))) .nil)))) (.cons (.ret (.bl false)) .nil) .nil) (.cons (.ret (.and (.cmp .eq (.var 2) (.call "table" (.cons (.var 0) (.cons (.var 1) .nil)))) (.blt .all1 (.cons (.lc2 [3, 4] (.var 3) (.var 2) .nil (.var 4) (.var 3) .nil (.call "is_whole" (.cons (.var 4) .nil))) .nil)))) .nil))
def t__law_roll : T := (.cons (.ifs (.cmp .eq (.sub (.var 0) (.int 2)) (.int 0)) (.cons (.asg (.var 3) (.sub (.var 0) (.int 1))) (.cons (.asg (.sub (.var 0) (.int 1)) (.bin .add (.var 3) (.int 1))) (.cons (.asg (.var 4) (.int 0)) (.cons (.ifs (.cmp .ne (.sub (.var 0) (.int 0)) (.lst .nil)) (.cons (.asg (.var 4) (.sub (.sub (.var 0) (.int 0)) (.bin .mod (.var 3) (.blt .len (.cons (.sub (.var 0) (.int 0)) .nil))))) .nil) .nil) (.cons (.ifs (.or (.cmp .ge (.var 3) (.blt .len (.cons (.sub (.var 0) (.int 0)) .nil))) (.cmp .lt (.var 4) (.bin .pow (.int 10) (.int 18)))) (.cons (.asg (.var 5) (.bin .mod (.bin .mul (.bin .add (.bin .mod (.var 4) (.int 999953)) (.int 37)) (.bin .add (.bin .add (.bin .mul (.var 3) (.var 3)) (.bin .mul (.int 79) (.var 3))) (.int 4001))) (.int 1000003))) (.cons (.asg (.var 5) (.bin .mod (.bin .pow (.var 5) (.int 3)) (.int 998244353))) (.cons (.ret (.bin .mod (.bin .fdiv (.bin .mod (.bin .add (.var 5) (.bin .mul (.int 7109) (.var 3))) (.int 1000033)) (.int 2)) (.var 1))) .nil))) .nil) (.cons (.asg (.sub (.var 0) (.int 2)) (.int 30)) (.cons (.asg (.sub (.var 0) (.int 3)) (.bin .sub (.var 4) (.bin .pow (.int 10) (.int 18)))) .nil))))))) .nil) (.cons (.asg (.sub (.var 0) (.int 2)) (.bin .sub (.sub (.var 0) (.int 2)) (.int 1))) (.cons (.asg (.var 2) (.sub (.var 0) (.int 3))) (.cons (.asg (.sub (.var 0) (.int 3)) (.bin .fdiv (.var 2) (.var 1))) (.cons (.ret (.bin .mod (.var 2) (.var 1))) .nil)))))
def t__law_pick : T := (.cons (.ret (.sub (.var 1) (.call "_law_roll" (.cons (.var 0) (.cons (.blt .len (.cons (.var 1) .nil)) .nil))))) .nil)
def t__law_whole : T := (.cons (.ret (.and (.isi .int (.var 0)) (.nt (.isi .bool (.var 0))))) .nil)
def t__law_lines_drawn : T := (.cons (.asg (.var 1) (.call "_law_pick" (.cons (.var 0) (.cons (.lst (.cons (.int 2) (.cons (.int 3) (.cons (.int 9) .nil)))) .nil)))) (.cons (.asg (.var 2) (.sli (.lst (.cons (.str "- a") (.cons (.str "- b") (.cons (.str "  = 1") (.cons (.str "") (.cons (.str "    = 1") (.cons (.str "  ^") (.cons (.str "= 1") (.cons (.str "yy") (.cons (.str "- ") .nil)))))))))) .nil (.var 1))) (.cons (.ret (.lc [3] (.var 3) (.irng (.cons (.call "_law_roll" (.cons (.var 0) (.cons (.int 15) .nil))) .nil)) .nil (.call "_law_pick" (.cons (.var 0) (.cons (.var 2) .nil))))) .nil)))
def t__law_other : T := (.cons (.asg (.var 2) (.blt .list1 (.cons (.var 1) .nil))) (.cons (.for_ (.var 3) (.irng (.cons (.call "_law_roll" (.cons (.var 0) (.cons (.int 5) .nil))) .nil)) (.cons (.asg (.var 4) (.call "_law_roll" (.cons (.var 0) (.cons (.bin .add (.blt .len (.cons (.var 2) .nil)) (.int 1)) .nil)))) (.cons (.asg (.var 5) (.call "_law_roll" (.cons (.var 0) (.cons (.bin .add (.blt .len (.cons (.var 2) .nil)) (.int 1)) .nil)))) (.cons (.asg (.var 6) (.call "_law_roll" (.cons (.var 0) (.cons (.int 4) .nil)))) (.cons (.ifs (.cmp .eq (.var 6) (.int 0)) (.cons (.asg (.var 2) (.bin .add (.sli (.var 2) .nil (.var 4)) (.sli (.var 2) (.bin .add (.var 4) (.int 1)) .nil))) .nil) (.cons (.ifs (.cmp .eq (.var 6) (.int 1)) (.cons (.ex (.mth .insert (.var 2) (.cons (.var 4) (.cons (.call "_law_pick" (.cons (.var 0) (.cons (.lst (.cons (.str "- a") (.cons (.str "- b") (.cons (.str "new") (.cons (.str "") .nil))))) .nil))) .nil)))) .nil) (.cons (.ifs (.and (.cmp .eq (.var 6) (.int 2)) (.cmp .lt (.var 4) (.blt .len (.cons (.var 2) .nil)))) (.cons (.asg (.sub (.var 2) (.var 4)) (.str "turned")) .nil) (.cons (.asg (.var 7) (.sli (.var 2) (.var 4) (.bin .add (.var 4) (.int 1)))) (.cons (.asg (.var 2) (.bin .add (.sli (.var 2) .nil (.var 4)) (.sli (.var 2) (.bin .add (.var 4) (.int 1)) .nil))) (.cons (.asg (.sls (.var 2) (.var 5) (.var 5)) (.var 7)) .nil)))) .nil)) .nil)) .nil))))) (.cons (.ret (.call "_law_pick" (.cons (.var 0) (.cons (.lst (.cons (.var 2) (.cons (.var 2) (.cons (.call "_law_lines_drawn" (.cons (.var 0) .nil)) (.cons (.blt .list1 (.cons (.var 1) .nil)) (.cons (.lst .nil) .nil)))))) .nil)))) .nil)))
def t__law_table : T := (.cons (.asg (.var 2) (.lst (.cons (.bin .mul (.lst (.cons (.int 0) .nil)) (.bin .add (.blt .len (.cons (.var 1) .nil)) (.int 1))) .nil))) (.cons (.for_ (.var 3) (.var 0) (.cons (.asg (.var 4) (.sub (.var 2) (.neg (.int 1)))) (.cons (.asg (.var 5) (.lst (.cons (.int 0) .nil))) (.cons (.for_ (.tup (.cons (.var 6) (.cons (.var 7) .nil))) (.ienum (.cons (.var 1) .nil)) (.cons (.ex (.mth .append (.var 5) (.cons (.ife (.cmp .eq (.var 3) (.var 7)) (.bin .add (.sub (.var 4) (.var 6)) (.int 1)) (.blt .max2 (.cons (.sub (.var 5) (.neg (.int 1))) (.cons (.sub (.var 4) (.bin .add (.var 6) (.int 1))) .nil)))) .nil))) .nil)) (.cons (.ex (.mth .append (.var 2) (.cons (.var 5) .nil))) .nil))))) (.cons (.ret (.var 2)) .nil)))
def t__law_led : T := (.cons (.asg (.var 2) (.lst .nil)) (.cons (.asg (.var 3) (.int 0)) (.cons (.asg (.var 4) (.blt .list1 (.cons (.var 0) .nil))) (.cons (.for_ (.tup (.cons (.var 5) (.cons (.var 6) .nil))) (.var 1) (.cons (.ifs (.cmp .eq (.var 5) (.str "put")) (.cons (.asg (.var 2) (.bin .add (.var 2) (.blt .list1 (.cons (.var 6) .nil)))) .nil) (.cons (.ifs (.cmp .gt (.var 6) (.blt .len (.cons (.var 4) .nil))) (.cons (.ret (.tup (.cons .non (.cons (.int 0) .nil)))) .nil) (.cons (.ifs (.cmp .eq (.var 5) (.str "keep")) (.cons (.asg (.var 2) (.bin .add (.var 2) (.sli (.var 4) .nil (.var 6)))) (.cons (.asg (.var 3) (.bin .add (.var 3) (.var 6))) .nil)) .nil) (.cons (.asg (.var 4) (.sli (.var 4) (.var 6) .nil)) .nil))) .nil)) .nil)) (.cons (.ret (.ife (.cmp .ne (.var 4) (.lst .nil)) (.tup (.cons .non (.cons (.int 0) .nil))) (.tup (.cons (.var 2) (.cons (.var 3) .nil))))) .nil)))))
def t__law_form : T := (.cons (.ifs (.nt (.isi .list (.var 0))) (.cons (.ret (.bl false)) .nil) .nil) (.cons (.asg (.var 1) .non) (.cons (.for_ (.var 2) (.var 0) (.cons (.ifs (.or (.nt (.isi .tuple (.var 2))) (.cmp .ne (.blt .len (.cons (.var 2) .nil)) (.int 2))) (.cons (.ret (.bl false)) .nil) .nil) (.cons (.ifs (.or (.nt (.isi .str (.sub (.var 2) (.int 0)))) (.cmp .eq (.sub (.var 2) (.int 0)) (.var 1))) (.cons (.ret (.bl false)) .nil) .nil) (.cons (.asg (.tup (.cons (.var 1) (.cons (.var 3) .nil))) (.var 2)) (.cons (.ifs (.cmp .in_ (.var 1) (.tup (.cons (.str "keep") (.cons (.str "cut") .nil)))) (.cons (.ifs (.or (.nt (.call "_law_whole" (.cons (.var 3) .nil))) (.cmp .lt (.var 3) (.int 1))) (.cons (.ret (.bl false)) .nil) .nil) .nil) (.cons (.ifs (.or (.cmp .ne (.var 1) (.str "put")) (.or (.nt (.isi .tuple (.var 3))) (.cmp .eq (.var 3) (.tup .nil)))) (.cons (.ret (.bl false)) .nil) (.cons (.ifs (.cmp .ne (.lc [4] (.var 4) (.var 3) (.cons (.nt (.isi .str (.var 4))) .nil) (.var 4)) (.lst .nil)) (.cons (.ret (.bl false)) .nil) .nil) .nil)) .nil)) .nil))))) (.cons (.ret (.bl true)) .nil))))
structure HasT (p : Prg) : Prop where
  table : p.tab.lookup ("table" : Str) = some ⟨2, 7, t_table⟩
  steps_between : p.tab.lookup ("steps_between" : Str) = some ⟨2, 6, t_steps_between⟩
  patch : p.tab.lookup ("patch" : Str) = some ⟨2, 6, t_patch⟩
  is_whole : p.tab.lookup ("is_whole" : Str) = some ⟨1, 1, t_is_whole⟩
  is_row : p.tab.lookup ("is_row" : Str) = some ⟨1, 4, t_is_row⟩
  is_table : p.tab.lookup ("is_table" : Str) = some ⟨3, 5, t_is_table⟩
  _law_roll : p.tab.lookup ("_law_roll" : Str) = some ⟨2, 6, t__law_roll⟩
  _law_pick : p.tab.lookup ("_law_pick" : Str) = some ⟨2, 2, t__law_pick⟩
  _law_whole : p.tab.lookup ("_law_whole" : Str) = some ⟨1, 1, t__law_whole⟩
  _law_lines_drawn : p.tab.lookup ("_law_lines_drawn" : Str) = some ⟨1, 4, t__law_lines_drawn⟩
  _law_other : p.tab.lookup ("_law_other" : Str) = some ⟨2, 8, t__law_other⟩
  _law_table : p.tab.lookup ("_law_table" : Str) = some ⟨2, 8, t__law_table⟩
  _law_led : p.tab.lookup ("_law_led" : Str) = some ⟨2, 7, t__law_led⟩
  _law_form : p.tab.lookup ("_law_form" : Str) = some ⟨1, 5, t__law_form⟩
theorem run_of {p : Prg} {f : Str} {d : Def0} (h : p.tab.lookup f = some d) {ds : List D} (hl : ds.length = d.ar) {k : Nat} {S : Store} : p.run (k + 1) f ds S = runBody d.n (sem (p.env (p.run k)) d.body).b ds S := by
  show (match p.tab.lookup f with | some d => if ds.length = d.ar then runBody d.n (sem (p.env (p.run k)) d.body).b ds S else .no | none => .no) = _
  rw [h]
  show (if ds.length = d.ar then _ else _) = _
  rw [if_pos hl]
theorem r_table {p : Prg} (H : HasT p) (k : Nat) (x0 x1 : D) (S : Store) : p.run (k + 1) "table" [x0, x1] S = runBody 7 (sem (p.env (p.run k)) t_table).b [x0, x1] S := run_of H.table rfl
theorem r_steps_between {p : Prg} (H : HasT p) (k : Nat) (x0 x1 : D) (S : Store) : p.run (k + 1) "steps_between" [x0, x1] S = runBody 6 (sem (p.env (p.run k)) t_steps_between).b [x0, x1] S := run_of H.steps_between rfl
theorem r_patch {p : Prg} (H : HasT p) (k : Nat) (x0 x1 : D) (S : Store) : p.run (k + 1) "patch" [x0, x1] S = runBody 6 (sem (p.env (p.run k)) t_patch).b [x0, x1] S := run_of H.patch rfl
theorem r_is_whole {p : Prg} (H : HasT p) (k : Nat) (x0 : D) (S : Store) : p.run (k + 1) "is_whole" [x0] S = runBody 1 (sem (p.env (p.run k)) t_is_whole).b [x0] S := run_of H.is_whole rfl
theorem r_is_row {p : Prg} (H : HasT p) (k : Nat) (x0 : D) (S : Store) : p.run (k + 1) "is_row" [x0] S = runBody 4 (sem (p.env (p.run k)) t_is_row).b [x0] S := run_of H.is_row rfl
theorem r_is_table {p : Prg} (H : HasT p) (k : Nat) (x0 x1 x2 : D) (S : Store) : p.run (k + 1) "is_table" [x0, x1, x2] S = runBody 5 (sem (p.env (p.run k)) t_is_table).b [x0, x1, x2] S := run_of H.is_table rfl
theorem r__law_roll {p : Prg} (H : HasT p) (k : Nat) (x0 x1 : D) (S : Store) : p.run (k + 1) "_law_roll" [x0, x1] S = runBody 6 (sem (p.env (p.run k)) t__law_roll).b [x0, x1] S := run_of H._law_roll rfl
theorem r__law_pick {p : Prg} (H : HasT p) (k : Nat) (x0 x1 : D) (S : Store) : p.run (k + 1) "_law_pick" [x0, x1] S = runBody 2 (sem (p.env (p.run k)) t__law_pick).b [x0, x1] S := run_of H._law_pick rfl
theorem r__law_whole {p : Prg} (H : HasT p) (k : Nat) (x0 : D) (S : Store) : p.run (k + 1) "_law_whole" [x0] S = runBody 1 (sem (p.env (p.run k)) t__law_whole).b [x0] S := run_of H._law_whole rfl
theorem r__law_lines_drawn {p : Prg} (H : HasT p) (k : Nat) (x0 : D) (S : Store) : p.run (k + 1) "_law_lines_drawn" [x0] S = runBody 4 (sem (p.env (p.run k)) t__law_lines_drawn).b [x0] S := run_of H._law_lines_drawn rfl
theorem r__law_other {p : Prg} (H : HasT p) (k : Nat) (x0 x1 : D) (S : Store) : p.run (k + 1) "_law_other" [x0, x1] S = runBody 8 (sem (p.env (p.run k)) t__law_other).b [x0, x1] S := run_of H._law_other rfl
theorem r__law_table {p : Prg} (H : HasT p) (k : Nat) (x0 x1 : D) (S : Store) : p.run (k + 1) "_law_table" [x0, x1] S = runBody 8 (sem (p.env (p.run k)) t__law_table).b [x0, x1] S := run_of H._law_table rfl
theorem r__law_led {p : Prg} (H : HasT p) (k : Nat) (x0 x1 : D) (S : Store) : p.run (k + 1) "_law_led" [x0, x1] S = runBody 7 (sem (p.env (p.run k)) t__law_led).b [x0, x1] S := run_of H._law_led rfl
theorem r__law_form {p : Prg} (H : HasT p) (k : Nat) (x0 : D) (S : Store) : p.run (k + 1) "_law_form" [x0] S = runBody 5 (sem (p.env (p.run k)) t__law_form).b [x0] S := run_of H._law_form rfl
theorem fuel {m K : Nat} (h : m ≤ K) : ∃ k, K = k + m := ⟨K - m, by omega⟩
/-! ### the draws -/
def DB (S : Store) (n l : Nat) (ns : List Int) (B : Int) : Prop := ∃ a, 0 ≤ a ∧ a ≤ B ∧ Dice S n l ns a
theorem DB.app {S : Store} {n l : Nat} {ns : List Int} {B : Int} (h : DB S n l ns B) (r : List Cell) : DB (S ++ r) n l ns B := let ⟨a, h1, h2, h3⟩ := h; ⟨a, h1, h2, h3.app r⟩
theorem DB.le {S : Store} {n l : Nat} {ns : List Int} {B B' : Int} (h : DB S n l ns B) (hb : B ≤ B') : DB S n l ns B' := let ⟨a, h1, h2, h3⟩ := h; ⟨a, h1, by omega, h3⟩
theorem DB.lt {S : Store} {n l : Nat} {ns : List Int} {B : Int} (h : DB S n l ns B) : n < S.length := let ⟨a, h1, h2, h3⟩ := h; let ⟨b, c, e⟩ := h3.c; lt_of e
section
variable {prg : Prg} (H : HasT prg) {k K : Nat} {S : Store} {n l : Nat} {ns : List Int} {B : Int}
include H in
theorem rollK {size : Int} (hK : 1 ≤ K) (hd : DB S n l ns B) (hB : B < 2 ^ 60) (hs : 0 < size) (hv : divOk size = true) :
    Sat (prg.run K "_law_roll" [.loc n, .int size] S) fun d S' => ∃ r : Nat, d = .int r ∧ (r : Int) < size ∧ DB S' n l ns (B + 1) ∧ Keep n S S' := by
  obtain ⟨k, rfl⟩ := fuel hK
  obtain ⟨a, h1, h2, h3⟩ := hd
  rw [r__law_roll H]
  refine (sp_roll (E := prg.env (prg.run k)) h3 h1 (by omega) hs hv).mono fun d S' h => ?_
  obtain ⟨r, a', e, r1, r2, a1, a2, dd, kk⟩ := h
  obtain ⟨r', rfl⟩ := Int.eq_ofNat_of_zero_le r1
  exact ⟨r', e, r2, ⟨a', by omega, by omega, dd⟩, kk⟩
include H in
theorem pickK {m : Nat} {xs : List D} (hK : 2 ≤ K) (hd : DB S n l ns B) (hB : B < 2 ^ 60) (hm : S[m]? = some (.lst xs)) (mn : m ≠ n) (hx : xs ≠ []) (hz : xs.length < 2 ^ 60) :
    Sat (prg.run K "_law_pick" [.loc n, .loc m] S) fun d S' => d ∈ xs ∧ DB S' n l ns (B + 1) ∧ Keep n S S' := by
  obtain ⟨k, rfl⟩ := fuel hK
  rw [r__law_pick H, sat_runBody]; unfold t__law_pick
  have hp : 0 < (xs.length : Int) := by
    have : xs.length ≠ 0 := fun z => hx (List.eq_nil_of_length_eq_zero z)
    omega
  walk_at "go"
  refine p_lenL hm ?_
  walk_at "go"
  refine (rollK H (by omega) hd hB hp (divOk_of hp (by omega))).mono fun d S' h => ?_
  obtain ⟨r, rfl, r2, dd, kk⟩ := h
  have hr : r < xs.length := by omega
  refine p_itL (kk.at hm mn) (by omega) (i := (r : Int)) (x := xs[r]) ?_ ⟨List.getElem_mem hr, dd, kk⟩
  rw [Int.toNat_natCast]
  exact List.getElem?_eq_getElem hr
end

end Pt

end

section
set_option Elab.async false
set_option linter.all false
set_option maxRecDepth 100000
set_option maxHeartbeats 4000000
local macro_rules | `(tactic| walk_at "cl") => `(tactic| first | assumption | exact Mz.new_at | exact Mz.set_at (by walk_at "cl") | exact Mz.app_at (by walk_at "cl") | exact Mz.Grow.at ‹_› (by walk_at "cl"))
local macro_rules | `(tactic| walk_at "go") => `(tactic| repeat (first | with_reducible refine ⟨_, _, _, _, _, _, rfl, (by walk_at "cl"), ?_⟩ | with_reducible refine Mz.k_cons ?_ | with_reducible refine Mz.k_asgS ?_ | with_reducible refine Mz.k_retS ?_ | with_reducible refine Mz.k_exS ?_ | with_reducible refine Mz.x_bin ?_ | with_reducible refine Mz.x_cmp ?_ | with_reducible refine Mz.x_sub ?_ | with_reducible refine Mz.x_call ?_ | with_reducible refine Mz.x_blt ?_ | with_reducible refine Mz.x_cons ?_ | with_reducible refine Mz.x_nil ?_ | with_reducible refine Mz.x_tup ?_ | with_reducible refine Mz.x_lst ?_ | with_reducible refine Mz.x_int ?_ | with_reducible refine Mz.x_str ?_ | with_reducible refine Mz.x_bl ?_ | with_reducible refine Mz.x_non ?_ | with_reducible refine Mz.p_add ?_ | with_reducible refine Mz.p_sub ?_ | with_reducible refine Mz.p_eqI ?_ | with_reducible refine Mz.p_neI ?_ | with_reducible refine Mz.p_eqS ?_ | with_reducible refine Mz.p_neS ?_ | with_reducible refine Mz.p_lt ?_ | with_reducible refine Mz.p_le ?_ | with_reducible refine Mz.p_ge ?_ | with_reducible refine Mz.p_gt ?_ | with_reducible refine Mz.y_cmp ?_ | with_reducible refine Mz.x_fst ?_ | with_reducible refine Mz.j_cons ?_ | with_reducible refine Mz.j_nil ?_ | with_reducible refine Mz.x_fmt ?_ | with_reducible refine Mz.x_chain ?_ | with_reducible refine Mz.y_chain ?_ | with_reducible refine Mz.p_leS ?_ | with_reducible refine Mz.p_is ?_ | with_reducible refine Mz.p_isnot ?_ | with_reducible refine Mz.p_ord ?_ | with_reducible refine Mz.p_max ?_ | with_reducible refine Mz.p_min ?_ | with_reducible refine Mz.p_abs ?_ | with_reducible refine Mz.p_itT (by decide) rfl ?_ | (with_reducible refine (?_ : Mz.SatX _ _ _); simp only [List.set_cons_zero, List.set_cons_succ]) | with_reducible refine Mz.x_var (by with_unfolding_all exact rfl) ?_ | with_reducible refine ⟨(by simp only [List.length_cons, List.length_nil, PySem.sizeLine_eq]; omega : (List.length _ ≤ PySem.sizeLine)), ?_⟩))
local macro_rules | `(tactic| walk_at "st") => `(tactic| simp only [Mz.startG, List.map_cons, List.map_nil, List.length_cons, List.length_nil, Nat.reduceAdd, Nat.reduceSub, List.replicate, List.cons_append, List.nil_append, Nat.zero_add])
namespace Pt
open PySem PySem.Spec L2 Mz TL Rc
/-! ### what stands in the store -/
def PgAt (S : Store) (a : Nat) (ys : List Str) : Prop := S[a]? = some (.lst (ys.map .str))
theorem PgAt.grow {S S' : Store} {a : Nat} {ys : List Str} (h : PgAt S a ys) (g : Grow S S') : PgAt S' a ys := g.at h
def rowD (r : List Nat) : List D := r.map fun n => D.int (n : Nat)
/-- rows of numbers at lists of their own -/
structure Tab (S : Store) (lo r : Nat) (rows : List (List Nat)) : Prop where
  at_ : ∃ ls : List Nat, S[r]? = some (Cell.lst (ls.map .loc)) ∧ r ∉ ls ∧ ls.Nodup ∧ lo ≤ r ∧ (∀ l ∈ ls, lo ≤ l) ∧ All2 (fun l row => S[l]? = some (Cell.lst (rowD row))) ls rows
theorem Tab.grow {S S' : Store} {lo r : Nat} {rows : List (List Nat)} (h : Tab S lo r rows) (g : Grow S S') : Tab S' lo r rows := by
  obtain ⟨ls, e, h1, h2, h3, h4, h5⟩ := h.at_
  exact ⟨ls, g.at e, h1, h2, h3, h4, h5.imp fun _ _ q => g.at q⟩
theorem enum_at {xs : List D} {i : Nat} {d : D} (h : (enumOf xs)[i]? = some d) : ∃ x, xs[i]? = some x ∧ d = .tup [.int (i : Nat), x] := by
  rw [enumOf_at] at h
  cases e : xs[i]? with
  | none => rw [e] at h; cases h
  | some x => rw [e] at h; cases h; exact ⟨x, rfl, rfl⟩
/-! ### the table -/
section
variable (a b : List Str)
def part (i j : Nat) : List Nat := (List.range (b.length + 1)).map fun q => if q ≤ j then L a b i q else 0
theorem part_len (i j : Nat) : (part a b i j).length = b.length + 1 := by simp [part]
theorem part_at {i j q : Nat} (h : q ≤ b.length) : (part a b i j)[q]? = some (if q ≤ j then L a b i q else 0) := by
  unfold part
  rw [List.getElem?_map, List.getElem?_range (by omega)]
  rfl
theorem part_0 (i : Nat) : part a b i 0 = List.replicate (b.length + 1) 0 := by
  unfold part
  apply List.ext_getElem?
  intro q
  rw [List.getElem?_map]
  by_cases h : q < b.length + 1
  · rw [List.getElem?_range h, List.getElem?_replicate, if_pos h]
    show some (if q ≤ 0 then L a b i q else 0) = some 0
    split
    · rename_i hq
      obtain rfl : q = 0 := by omega
      rw [L_i0]
    · rfl
  · rw [List.getElem?_eq_none (by simpa using h), List.getElem?_eq_none (by simpa using h)]; rfl
theorem part_00 (j : Nat) : part a b 0 j = List.replicate (b.length + 1) 0 := by
  rw [← part_0 a b 0]
  unfold part
  refine List.map_congr_left fun q _ => ?_
  rw [L_0]
  split <;> split <;> rfl
theorem part_set {i j : Nat} (h : j < b.length) : (part a b i j).set (j + 1) (L a b i (j + 1)) = part a b i (j + 1) := by
  apply List.ext_getElem?
  intro q
  by_cases hq : q < b.length + 1
  · by_cases e : q = j + 1
    · subst e
      rw [List.getElem?_set_self (by rw [part_len]; omega), part_at a b (by omega), if_pos (Nat.le_refl _)]
    · rw [List.getElem?_set_ne (Ne.symm e), part_at a b (by omega), part_at a b (by omega)]
      congr 1
      by_cases h1 : q ≤ j
      · rw [if_pos h1, if_pos (by omega)]
      · rw [if_neg h1, if_neg (by omega)]
  · rw [List.getElem?_eq_none (by rw [List.length_set, part_len]; omega), List.getElem?_eq_none (by rw [part_len]; omega)]
/-- row i of the table -/
def rowT (i : Nat) : List Nat := part a b i b.length
def tabT : List (List Nat) := (List.range (a.length + 1)).map (rowT a b)
end
theorem tab_at {a b : List Str} {i : Nat} (h : i ≤ a.length) : (tabT a b)[i]? = some (rowT a b i) := by
  unfold tabT
  rw [List.getElem?_map, List.getElem?_range (by omega)]; rfl
theorem rowT_at {a b : List Str} {i j : Nat} (h : j ≤ b.length) : (rowT a b i)[j]? = some (L a b i j) := by
  unfold rowT
  rw [part_at a b h, if_pos h]
theorem rowD_set {r : List Nat} {j n : Nat} : (rowD r).set j (.int (n : Nat)) = rowD (r.set j n) := by
  unfold rowD; rw [List.map_set]
theorem rowD_at {r : List Nat} {j n : Nat} (h : r[j]? = some n) : (rowD r)[j]? = some (.int (n : Nat)) := by
  unfold rowD; rw [List.getElem?_map, h]; rfl
theorem eq_at {a b : List Str} {i j : Nat} {x y : Str} (h1 : a[i]? = some x) (h2 : b[j]? = some y) : (a[i]? = b[j]?) = (x = y) := by
  rw [h1, h2]; simp
theorem all2_of {α β : Type} {R : α → β → Prop} : ∀ {as : List α} {bs : List β}, as.length = bs.length → (∀ (i : Nat) (a : α) (b : β), as[i]? = some a → bs[i]? = some b → R a b) → All2 R as bs
  | [], [], _, _ => .nil
  | a :: as, b :: bs, hl, h => .cons (h 0 a b rfl rfl) (all2_of (by simpa using hl) fun i a b h1 h2 => h (i + 1) a b (by simpa using h1) (by simpa using h2))
  | [], _ :: _, hl, _ => by simp at hl
  | _ :: _, [], hl, _ => by simp at hl
theorem nd_ix {ls : List Nat} (nd : ls.Nodup) {i j l : Nat} (h1 : ls[i]? = some l) (h2 : ls[j]? = some l) : i = j := by
  obtain ⟨q1, e1⟩ := List.getElem?_eq_some_iff.mp h1
  obtain ⟨q2, e2⟩ := List.getElem?_eq_some_iff.mp h2
  exact (List.getElem_inj nd).mp (e1.trans e2.symm)
variable {prg : Prg} (H : HasT prg) {K : Nat} {S : Store} {pa pb : Nat} {a b : List Str}
include H in
theorem tableK (hK : 1 ≤ K) (ha : PgAt S pa a) (hb : PgAt S pb b) (la : a.length ≤ 60) (lb : b.length ≤ 60) :
    Sat (prg.run K "table" [.loc pa, .loc pb] S) fun d S' => ∃ r, d = .loc r ∧ Tab S' S.length r (tabT a b) ∧ Old S S' := by
  obtain ⟨k, rfl⟩ := fuel hK
  have ea : (a.map D.str).length = a.length := List.length_map ..
  have eb : (b.map D.str).length = b.length := List.length_map ..
  rw [r_table H, sat_runBody]; unfold t_table
  walk_at "st"
  refine k_cons (k_alc (x_lc (i_rng1 ?_)))
  walk_at "go"
  refine p_lenL ha ?_
  walk_at "go"
  refine ⟨_, rfl, rngOk_of (by omega) (by omega), ?_⟩
  have en : ((((a.map D.str).length : Nat) : Int) + 1).toNat = a.length + 1 := by omega
  rw [en]
  have zr : (List.replicate ((((b.map D.str).length : Nat) : Int) + 1).toNat [D.int 0]).flatten = rowD (List.replicate (b.length + 1) 0) := by
    rw [show ((((b.map D.str).length : Nat) : Int) + 1).toNat = b.length + 1 by omega]
    unfold rowD
    rw [List.map_replicate]
    generalize b.length + 1 = m
    induction m with
    | zero => rfl
    | succ m ih => rw [List.replicate_succ, List.flatten_cons, ih]; rfl
  refine lcLoop_vals (xs := Mz.intsFrom 0 (a.length + 1)) (fun i acc S' => ∃ ls : List Nat, acc = ls.map .loc ∧ ls.length = i ∧ ls.Nodup ∧ Old S S' ∧ ∀ l ∈ ls, S.length ≤ l ∧ S'[l]? = some (Cell.lst (rowD (List.replicate (b.length + 1) 0))))
    (fun i d acc S' hi p => ?_) (fun acc S' p => ?_) _ 0 [] S (by show _ + (_ + 1) = _; simp [Mz.intsFrom]) (Nat.zero_le _) ⟨[], rfl, rfl, List.nodup_nil, .refl _, fun _ h => by cases h⟩
  · obtain ⟨ls, rfl, hl, nd, old, hls⟩ := p
    have hi2 : i < a.length + 1 := by
      have := (List.getElem?_eq_some_iff.mp hi).1
      simpa [Mz.intsFrom] using this
    refine sat_ok.mpr (sat_ok.mpr ⟨fun _ => ?_, fun z => by cases z⟩)
    walk_at "go"
    refine p_lenL (app_at (old.at hb)) ?_
    walk_at "go"
    refine p_mulL new_at (by omega) (by omega) (by rw [sizeLine_eq]; simp; omega) ?_
    rw [zr]
    refine ⟨by rw [List.length_map, sizeLine_eq]; omega, ls ++ [(S' ++ [Cell.lst [D.int 0]]).length], by simp, by simp [hl], ?_, (old.trans .app).trans .app, ?_⟩
    · rw [List.nodup_append]
      refine ⟨nd, by simp, fun x hx y hy => ?_⟩
      have h1 := lt_of (hls x hx).2
      have hy : y = (S' ++ [Cell.lst [D.int 0]]).length := by simpa using hy
      rw [hy, List.length_append]
      omega
    · intro l hl
      rcases List.mem_append.mp hl with hl | hl
      · exact ⟨(hls l hl).1, app_at (app_at (hls l hl).2)⟩
      · obtain rfl := List.mem_singleton.mp hl
        refine ⟨?_, new_at⟩
        have := old.1
        rw [List.length_append]; omega
  · obtain ⟨ls, rfl, hl, nd, old, hls⟩ := p
    have hl : ls.length = a.length + 1 := by rw [hl]; simp [Mz.intsFrom]
    have hr0 : ((S' ++ [Cell.lst (ls.map .loc)]) : Store)[S'.length]? = some (.lst (ls.map .loc)) := new_at
    have old0 : Old S (S' ++ [Cell.lst (ls.map .loc)]) := old.trans .app
    have nr : S'.length ∉ ls := fun z => by have := lt_of (hls _ z).2; omega
    have hls0 : ∀ l ∈ ls, S.length ≤ l ∧ (S' ++ [Cell.lst (ls.map .loc)])[l]? = some (Cell.lst (rowD (List.replicate (b.length + 1) 0))) := fun l hl => ⟨(hls l hl).1, app_at (hls l hl).2⟩
    have hr1 : S.length ≤ S'.length := old.1
    clear hls
    generalize S'.length = r at hr0 nr hr1 ⊢
    generalize S' ++ [Cell.lst (ls.map .loc)] = S1 at hr0 old0 hls0 ⊢
    clear old
    -- the loops
    refine k_cons (k_forS (i_enumE (x_var (by with_unfolding_all exact rfl) ⟨pa, _, rfl, old0.at ha, ?_⟩)))
    rw [ib_enum (old0.at ha)]
    refine floop_at (xs := enumOf (a.map .str)) (fun i g S' => (∃ v3 v4 v5 v6, g = [some (.loc pa), some (.loc pb), some (.loc r), v3, v4, v5, v6]) ∧ Old S S' ∧ S'[r]? = some (Cell.lst (ls.map .loc)) ∧ ∀ q l, ls[q]? = some l → S'[l]? = some (Cell.lst (rowD (part a b q (if q ≤ i then b.length else 0)))))
      (fun i g S' p => is_enum (p.2.1.at ha)) (fun i d g S2 hi p => ?_) (fun g S' p => ?_) _ 0 _ _ (by rw [enumOf_len]; omega) (Nat.zero_le _) ⟨⟨_, _, _, _, rfl⟩, old0, hr0, fun q l hq => ?_⟩
    · obtain ⟨⟨v3, v4, v5, v6, rfl⟩, old2, hr2, rows2⟩ := p
      obtain ⟨d, hd, rfl⟩ := enum_at hi
      rw [List.getElem?_map] at hd
      cases hx : a[i]? with
      | none => rw [hx] at hd; cases hd
      | some x =>
        rw [hx] at hd
        cases hd
        have hia := (List.getElem?_eq_some_iff.mp hx).1
        refine sat_ok.mpr ?_
        simp only [List.set_cons_zero, List.set_cons_succ]
        refine k_cons (k_forS (i_enumE (x_var (by with_unfolding_all exact rfl) ⟨pb, _, rfl, old2.at hb, ?_⟩)))
        rw [ib_enum (old2.at hb)]
        refine floop_at (xs := enumOf (b.map .str)) (fun j g S' => (∃ v5 v6, g = [some (.loc pa), some (.loc pb), some (.loc r), some (.int (i : Nat)), some (.str x), v5, v6]) ∧ Old S S' ∧ S'[r]? = some (Cell.lst (ls.map .loc)) ∧ ∀ q l, ls[q]? = some l → S'[l]? = some (Cell.lst (rowD (part a b q (if q ≤ i then b.length else if q = i + 1 then j else 0)))))
          (fun i g S' p => is_enum (p.2.1.at hb)) (fun j d g S3 hj p => ?_) (fun g S' p => ?_) _ 0 _ _ (by rw [enumOf_len]; omega) (Nat.zero_le _) ⟨⟨_, _, rfl⟩, old2, hr2, fun q l hq => ?_⟩
        · obtain ⟨⟨v5, v6, rfl⟩, old3, hr3, rows3⟩ := p
          obtain ⟨d, hd, rfl⟩ := enum_at hj
          rw [List.getElem?_map] at hd
          cases hy : b[j]? with
          | none => rw [hy] at hd; cases hd
          | some y =>
            rw [hy] at hd
            cases hd
            have hjb := (List.getElem?_eq_some_iff.mp hy).1
            have hli : ls[i]? = some ls[i] := List.getElem?_eq_getElem (by omega)
            have hlj : ls[i + 1]? = some ls[i + 1] := List.getElem?_eq_getElem (by omega)
            have ne1 : ls[i] ≠ ls[i + 1] := fun z => by
              have := nd_ix nd hli (by rw [z]; exact hlj)
              omega
            generalize ls[i] = l0 at hli ne1
            generalize ls[i + 1] = l1 at hlj ne1
            have h0 := rows3 _ _ hli
            have h1 := rows3 _ _ hlj
            rw [if_pos (Nat.le_refl _)] at h0
            rw [if_neg (by omega), if_pos rfl] at h1
            have nl1 : l1 ≠ r := fun z => nr (z ▸ List.mem_of_getElem? hlj)
            refine sat_ok.mpr ?_
            simp only [List.set_cons_zero, List.set_cons_succ]
            have put : ∀ n : Nat, n = L a b (i + 1) (j + 1) → (∃ v5 v6 : Option D, ([some (.loc pa), some (.loc pb), some (.loc r), some (.int (i : Nat)), some (.str x), some (.int (j : Nat)), some (.str y)] : Sg) = [some (.loc pa), some (.loc pb), some (.loc r), some (.int (i : Nat)), some (.str x), v5, v6]) ∧ Old S (S3.set l1 (Cell.lst ((rowD (part a b (i + 1) j)).set (j + 1) (.int (n : Nat))))) ∧
                (S3.set l1 (Cell.lst ((rowD (part a b (i + 1) j)).set (j + 1) (.int (n : Nat)))))[r]? = some (Cell.lst (ls.map .loc)) ∧ ∀ q l, ls[q]? = some l → (S3.set l1 (Cell.lst ((rowD (part a b (i + 1) j)).set (j + 1) (.int (n : Nat)))))[l]? = some (Cell.lst (rowD (part a b q (if q ≤ i then b.length else if q = i + 1 then j + 1 else 0)))) := by
              rintro n rfl
              refine ⟨⟨_, _, rfl⟩, old3.set (hls0 l1 (List.mem_of_getElem? hlj)).1, set_ne' nl1.symm hr3, fun q l hq => ?_⟩
              by_cases e : l = l1
              · subst e
                obtain rfl := nd_ix nd hq hlj
                rw [set_at h1, rowD_set, part_set a b hjb, if_neg (by omega), if_pos rfl]
              · rw [set_ne' e (rows3 q l hq)]
                have nq : q ≠ i + 1 := fun z => by
                  rw [z, hlj] at hq; cases hq; exact e rfl
                rw [if_neg nq, if_neg nq]
            have iti : ∀ {Q : D → Store → Prop} {Y : Xc → Store → Prop}, Q (.loc l0) S3 → SatX Y (semItem (.loc r) (.int (i : Nat)) S3) Q := fun q => p_itL hr3 (by omega) (by rw [Int.toNat_natCast, List.getElem?_map, hli]; rfl) q
            have itj : ∀ {Q : D → Store → Prop} {Y : Xc → Store → Prop}, Q (.loc l1) S3 → SatX Y (semItem (.loc r) (.int ((i : Nat) + 1)) S3) Q := fun q => p_itL hr3 (by omega) (by rw [show (((i : Nat) : Int) + 1).toNat = i + 1 by omega, List.getElem?_map, hlj]; rfl) q
            refine k_cons (Mz.k_setL (x_if (y_cmp ?_)))
            walk_at "go"
            refine ⟨_, rfl, fun he => ?_, fun he => ?_⟩
            · have he : x = y := of_decide_eq_true he
              walk_at "go"
              refine iti ?_
              walk_at "go"
              refine p_itL h0 (by omega) (by rw [Int.toNat_natCast]; exact rowD_at (part_at a b (by omega))) ?_
              walk_at "go"
              refine itj ?_
              walk_at "go"
              refine ⟨l1, j + 1, _, rfl, by simp, h1, by simp [rowD, part_len]; omega, k_nil ?_⟩
              rw [if_pos (by omega : j ≤ b.length)]
              exact put (L a b i j + 1) (by rw [L_s, if_pos (by rw [eq_at hx hy]; exact he)])
            · have he : x ≠ y := of_decide_eq_false he
              walk_at "go"
              refine iti ?_
              walk_at "go"
              refine p_itL h0 (by omega) (by rw [show (((j : Nat) : Int) + 1).toNat = j + 1 by omega]; exact rowD_at (part_at a b (by omega))) ?_
              walk_at "go"
              refine itj ?_
              walk_at "go"
              refine p_itL h1 (by omega) (by rw [Int.toNat_natCast]; exact rowD_at (part_at a b (by omega))) ?_
              walk_at "go"
              refine itj ?_
              walk_at "go"
              refine ⟨l1, j + 1, _, rfl, by simp, h1, by simp [rowD, part_len]; omega, k_nil ?_⟩
              rw [if_pos (by omega : j + 1 ≤ b.length), if_pos (Nat.le_refl j)]
              have e1 : (if ((L a b i (j + 1) : Nat) : Int) < ((L a b (i + 1) j : Nat) : Int) then ((L a b (i + 1) j : Nat) : Int) else ((L a b i (j + 1) : Nat) : Int)) = ((L a b (i + 1) (j + 1) : Nat) : Int) := by
                have e2 : L a b (i + 1) (j + 1) = max (L a b i (j + 1)) (L a b (i + 1) j) := by rw [L_s, if_neg (by rw [eq_at hx hy]; exact he)]
                rw [e2]
                split <;> omega
              rw [e1]
              exact put _ rfl
        · obtain ⟨⟨v5, v6, rfl⟩, old3, hr3, rows3⟩ := p
          rw [enumOf_len, List.length_map] at rows3
          refine k_nil ⟨⟨_, _, _, _, rfl⟩, old3, hr3, fun q l hq => ?_⟩
          rw [rows3 q l hq]
          congr 4
          by_cases h1 : q ≤ i
          · rw [if_pos h1, if_pos (by omega)]
          · rw [if_neg h1]
            by_cases h2 : q = i + 1
            · rw [if_pos h2, if_pos (by omega)]
            · rw [if_neg h2, if_neg (by omega)]
        · rw [rows2 q l hq]
          congr 4
          by_cases h1 : q ≤ i
          · rw [if_pos h1, if_pos h1]
          · rw [if_neg h1, if_neg h1, ite_self]
    · obtain ⟨⟨v3, v4, v5, v6, rfl⟩, old3, hr3, rows3⟩ := p
      rw [enumOf_len, List.length_map] at rows3
      walk_at "go"
      refine ⟨r, rfl, ⟨ls, hr3, nr, nd, hr1, fun l hl => (hls0 l hl).1, all2_of (by simp [tabT, hl]) fun q l row h1 h2 => ?_⟩, old3⟩
      have hq := (List.getElem?_eq_some_iff.mp h1).1
      rw [tab_at (by omega)] at h2
      cases h2
      rw [rows3 q l h1, if_pos (by omega)]
      rfl
    · rw [(hls0 l (List.mem_of_getElem? hq)).2]
      split
      · rename_i hz
        obtain rfl : q = 0 := by omega
        rw [part_00]
      · rw [part_0]
end Pt

end

section
set_option Elab.async false
set_option linter.all false
set_option maxRecDepth 100000
set_option maxHeartbeats 4000000
local macro_rules | `(tactic| walk_at "cl") => `(tactic| first | assumption | exact Mz.new_at | exact Mz.set_at (by walk_at "cl") | exact Mz.app_at (by walk_at "cl") | exact Mz.Grow.at ‹_› (by walk_at "cl"))
local macro_rules | `(tactic| walk_at "go") => `(tactic| repeat (first | with_reducible refine ⟨_, _, _, _, _, _, rfl, (by walk_at "cl"), ?_⟩ | with_reducible refine Mz.k_cons ?_ | with_reducible refine Mz.k_asgS ?_ | with_reducible refine Mz.k_retS ?_ | with_reducible refine Mz.k_exS ?_ | with_reducible refine Mz.x_bin ?_ | with_reducible refine Mz.x_cmp ?_ | with_reducible refine Mz.x_sub ?_ | with_reducible refine Mz.x_call ?_ | with_reducible refine Mz.x_blt ?_ | with_reducible refine Mz.x_cons ?_ | with_reducible refine Mz.x_nil ?_ | with_reducible refine Mz.x_tup ?_ | with_reducible refine Mz.x_lst ?_ | with_reducible refine Mz.x_int ?_ | with_reducible refine Mz.x_str ?_ | with_reducible refine Mz.x_bl ?_ | with_reducible refine Mz.x_non ?_ | with_reducible refine Mz.p_add ?_ | with_reducible refine Mz.p_sub ?_ | with_reducible refine Mz.p_eqI ?_ | with_reducible refine Mz.p_neI ?_ | with_reducible refine Mz.p_eqS ?_ | with_reducible refine Mz.p_neS ?_ | with_reducible refine Mz.p_lt ?_ | with_reducible refine Mz.p_le ?_ | with_reducible refine Mz.p_ge ?_ | with_reducible refine Mz.p_gt ?_ | with_reducible refine Mz.y_cmp ?_ | with_reducible refine Mz.x_fst ?_ | with_reducible refine Mz.j_cons ?_ | with_reducible refine Mz.j_nil ?_ | with_reducible refine Mz.x_fmt ?_ | with_reducible refine Mz.x_chain ?_ | with_reducible refine Mz.y_chain ?_ | with_reducible refine Mz.p_leS ?_ | with_reducible refine Mz.p_is ?_ | with_reducible refine Mz.p_isnot ?_ | with_reducible refine Mz.p_ord ?_ | with_reducible refine Mz.p_max ?_ | with_reducible refine Mz.p_min ?_ | with_reducible refine Mz.p_abs ?_ | with_reducible refine Mz.p_itT (by decide) rfl ?_ | (with_reducible refine (?_ : Mz.SatX _ _ _); simp only [List.set_cons_zero, List.set_cons_succ]) | with_reducible refine Mz.x_var (by with_unfolding_all exact rfl) ?_ | with_reducible refine ⟨(by simp only [List.length_cons, List.length_nil, PySem.sizeLine_eq]; omega : (List.length _ ≤ PySem.sizeLine)), ?_⟩))
local macro_rules | `(tactic| walk_at "st") => `(tactic| simp only [Mz.startG, List.map_cons, List.map_nil, List.length_cons, List.length_nil, Nat.reduceAdd, Nat.reduceSub, List.replicate, List.cons_append, List.nil_append, Nat.zero_add])
namespace Pt
open PySem PySem.Spec L2 Mz TL Rc
variable {prg : Prg} (H : HasT prg) {K : Nat} {S : Store} {pa pb : Nat} {a b : List Str}
def pre (a b : List Str) (i j : Nat) : List Nat := (List.range (j + 1)).map (L a b i)
theorem pre_row (i : Nat) : pre a b i b.length = rowT a b i := by
  unfold pre rowT part
  refine List.map_congr_left fun q hq => ?_
  have := List.mem_range.mp hq
  rw [if_pos (by omega)]
theorem pre_len (i j : Nat) : (pre a b i j).length = j + 1 := by simp [pre]
theorem pre_at {i j q : Nat} (h : q ≤ j) : (pre a b i j)[q]? = some (L a b i q) := by
  unfold pre
  rw [List.getElem?_map, List.getElem?_range (by omega)]; rfl
theorem pre_succ (i j : Nat) : pre a b i (j + 1) = pre a b i j ++ [L a b i (j + 1)] := by
  unfold pre
  rw [List.range_succ (n := j + 1), List.map_append]; rfl
theorem rowD_app {r : List Nat} {n : Nat} : rowD r ++ [.int (n : Nat)] = rowD (r ++ [n]) := by
  unfold rowD; rw [List.map_append]; rfl
include H in
theorem lawTableK (hK : 1 ≤ K) (ha : PgAt S pa a) (hb : PgAt S pb b) (la : a.length ≤ 60) (lb : b.length ≤ 60) :
    Sat (prg.run K "_law_table" [.loc pa, .loc pb] S) fun d S' => ∃ r, d = .loc r ∧ Tab S' S.length r (tabT a b) ∧ Old S S' := by
  obtain ⟨k, rfl⟩ := fuel hK
  have ea : (a.map D.str).length = a.length := List.length_map ..
  have eb : (b.map D.str).length = b.length := List.length_map ..
  rw [r__law_table H, sat_runBody]; unfold t__law_table
  walk_at "st"
  walk_at "go"
  refine p_lenL (app_at hb) ?_
  walk_at "go"
  refine p_mulL new_at (by omega) (by omega) (by rw [sizeLine_eq]; simp; omega) ?_
  have zr : (List.replicate ((((b.map D.str).length : Nat) : Int) + 1).toNat [D.int 0]).flatten = rowD (rowT a b 0) := by
    rw [show ((((b.map D.str).length : Nat) : Int) + 1).toNat = b.length + 1 by omega]
    unfold rowT
    rw [part_00]
    unfold rowD
    rw [List.map_replicate]
    generalize b.length + 1 = m
    induction m with
    | zero => rfl
    | succ m ih => rw [List.replicate_succ, List.flatten_cons, ih]; rfl
  rw [zr]
  walk_at "go"
  have o1 : Old S ((S ++ [Cell.lst [D.int 0]]) ++ [Cell.lst (rowD (rowT a b 0))]) := Old.app.trans .app
  have h1 : ((S ++ [Cell.lst [D.int 0]]) ++ [Cell.lst (rowD (rowT a b 0))])[(S ++ [Cell.lst [D.int 0]]).length]? = some (Cell.lst (rowD (rowT a b 0))) := new_at
  have b1 : S.length ≤ (S ++ [Cell.lst [D.int 0]]).length := by rw [List.length_append]; omega
  generalize (S ++ [Cell.lst [D.int 0]]).length = l0 at h1 b1 ⊢
  generalize (S ++ [Cell.lst [D.int 0]]) ++ [Cell.lst (rowD (rowT a b 0))] = S1 at o1 h1 ⊢
  have h2 : (S1 ++ [Cell.lst [D.loc l0]])[S1.length]? = some (Cell.lst ([l0].map .loc)) := new_at
  have h3 : (S1 ++ [Cell.lst [D.loc l0]])[l0]? = some (Cell.lst (rowD (rowT a b 0))) := app_at h1
  have n0 : S1.length ≠ l0 := fun z => by have := lt_of h1; omega
  have o2 : Old S (S1 ++ [Cell.lst [D.loc l0]]) := o1.trans .app
  have b2 : S.length ≤ S1.length := o1.1
  generalize S1.length = r at h2 n0 b2 ⊢
  generalize S1 ++ [Cell.lst [D.loc l0]] = S2 at h2 h3 o2 ⊢
  refine k_forS (i_vL (by with_unfolding_all exact rfl) (o2.at ha) ?_)
  rw [ib_lst (o2.at ha)]
  refine floop_at (xs := a.map .str) (fun i g S' => (∃ v3 v4 v5 v6 v7, g = [some (.loc pa), some (.loc pb), some (.loc r), v3, v4, v5, v6, v7]) ∧ Old S S' ∧ ∃ ls : List Nat, S'[r]? = some (Cell.lst (ls.map .loc)) ∧ ls.length = i + 1 ∧ r ∉ ls ∧ ls.Nodup ∧ (∀ l ∈ ls, S.length ≤ l) ∧ ∀ (q l : Nat), ls[q]? = some l → S'[l]? = some (Cell.lst (rowD (rowT a b q))))
    (fun i g S' p => is_lst (p.2.1.at ha)) (fun i d g S3 hi p => ?_) (fun g S' p => ?_) _ 0 _ _ (by omega) (Nat.zero_le _) ⟨⟨_, _, _, _, _, rfl⟩, o2, [l0], h2, rfl, by simp [n0], by simp, by simpa using b1, fun q l hq => ?_⟩
  · obtain ⟨⟨v3, v4, v5, v6, v7, rfl⟩, o3, ls, hr, hl, nr, nd, ge, rows⟩ := p
    rw [List.getElem?_map] at hi
    cases hx : a[i]? with
    | none => rw [hx] at hi; cases hi
    | some x =>
      rw [hx] at hi
      cases hi
      have hia := (List.getElem?_eq_some_iff.mp hx).1
      refine sat_ok.mpr ?_
      simp only [List.set_cons_zero, List.set_cons_succ]
      obtain ⟨ls', l1, rfl⟩ : ∃ ls' l1, ls = ls' ++ [l1] := by
        rcases List.eq_nil_or_concat ls with e | ⟨ls', l1, e⟩
        · rw [e] at hl; cases hl
        · exact ⟨ls', l1, by rw [e]; simp⟩
      have hl1 : ls'.length = i := by simpa using hl
      have hq1 : (ls' ++ [l1])[i]? = some l1 := by rw [List.getElem?_append_right (by omega), hl1]; simp
      have hab := rows i l1 hq1
      walk_at "go"
      refine x_neg ?_
      walk_at "go"
      refine ⟨_, rfl, ?_⟩
      rw [List.map_append] at hr
      refine p_itLast hr ?_
      walk_at "go"
      have hln : (S3 ++ [Cell.lst [D.int 0]])[S3.length]? = some (Cell.lst (rowD (pre a b (i + 1) 0))) := by
        have : rowD (pre a b (i + 1) 0) = [D.int 0] := by
          show rowD [L a b (i + 1) 0] = _
          rw [L_i0]; rfl
        rw [this]; exact new_at
      have o4 : Old S3 (S3 ++ [Cell.lst [D.int 0]]) := .app
      have b4 : S.length ≤ S3.length := o3.1
      have nl : ∀ l ∈ ls' ++ [l1], S3.length ≠ l := fun l hl z => by
        obtain ⟨q, hq⟩ := List.mem_iff_getElem?.mp hl
        have := lt_of (rows q l hq); omega
      have nlr : S3.length ≠ r := fun z => by have := lt_of hr; omega
      have eS : S3.length = S3.length := rfl
      generalize hln' : S3.length = ln at hln nl nlr b4 ⊢
      generalize S3 ++ [Cell.lst [D.int 0]] = S4 at hln o4 ⊢
      refine k_forS (i_enumE (x_var (by with_unfolding_all exact rfl) ⟨pb, _, rfl, o4.at (o3.at hb), ?_⟩))
      rw [ib_enum (o4.at (o3.at hb))]
      refine floop_at (xs := enumOf (b.map .str)) (fun j g S' => (∃ v6 v7, g = [some (.loc pa), some (.loc pb), some (.loc r), some (.str x), some (.loc l1), some (.loc ln), v6, v7]) ∧ Old S3 S' ∧ S'[ln]? = some (Cell.lst (rowD (pre a b (i + 1) j))))
        (fun j g S' p => is_enum (p.2.1.at (o3.at hb))) (fun j d g S5 hj p => ?_) (fun g S' p => ?_) _ 0 _ _ (by rw [enumOf_len]; omega) (Nat.zero_le _) ⟨⟨_, _, rfl⟩, o4, hln⟩
      · obtain ⟨⟨v6, v7, rfl⟩, o5, hln5⟩ := p
        obtain ⟨d, hd, rfl⟩ := enum_at hj
        rw [List.getElem?_map] at hd
        cases hy : b[j]? with
        | none => rw [hy] at hd; cases hd
        | some y =>
          rw [hy] at hd
          cases hd
          have hjb := (List.getElem?_eq_some_iff.mp hy).1
          have hab5 := o5.at hab
          refine sat_ok.mpr ?_
          simp only [List.set_cons_zero, List.set_cons_succ]
          have put : ∀ n : Nat, n = L a b (i + 1) (j + 1) → Old S3 (S5.set ln (Cell.lst (rowD (pre a b (i + 1) j) ++ [.int (n : Nat)]))) ∧ (S5.set ln (Cell.lst (rowD (pre a b (i + 1) j) ++ [.int (n : Nat)])))[ln]? = some (Cell.lst (rowD (pre a b (i + 1) (j + 1)))) := by
            rintro n rfl
            rw [rowD_app, ← pre_succ]
            exact ⟨o5.set (by omega), set_at hln5⟩
          have app : ∀ {n : Nat} {Q : D → Store → Prop} {Y : Xc → Store → Prop}, Q .non (S5.set ln (Cell.lst (rowD (pre a b (i + 1) j) ++ [.int (n : Nat)]))) → SatX Y (semMth .append (.loc ln) [.int (n : Nat)] S5) Q := fun q => p_append hln5 (by rw [sizeLine_eq]; simp [rowD, pre_len]; omega) q
          refine k_cons (k_exS (x_mth (x_var (by with_unfolding_all exact rfl) ⟨?_, x_cons (x_if (y_cmp ?_))⟩)))
          · exact ty_lst rfl hln5
          walk_at "go"
          refine ⟨_, rfl, fun he => ?_, fun he => ?_⟩
          · have he : x = y := of_decide_eq_true he
            walk_at "go"
            refine p_itL hab5 (by omega) (by rw [Int.toNat_natCast]; exact rowD_at (rowT_at (by omega))) ?_
            walk_at "go"
            refine app (n := L a b i j + 1) (k_nil ⟨⟨_, _, rfl⟩, ?_⟩)
            exact put (L a b i j + 1) (by rw [L_s, if_pos (by rw [eq_at hx hy]; exact he)])
          · have he : x ≠ y := of_decide_eq_false he
            walk_at "go"
            refine x_neg ?_
            walk_at "go"
            refine ⟨_, rfl, ?_⟩
            obtain ⟨pr, epr⟩ : ∃ pr, rowD (pre a b (i + 1) j) = pr ++ [.int (L a b (i + 1) j : Nat)] := by
              cases j with
              | zero => exact ⟨[], rfl⟩
              | succ j => exact ⟨_, by rw [pre_succ, ← rowD_app]⟩
            refine p_itLast (x := .int (L a b (i + 1) j : Nat)) (xs := pr) (by rw [← epr]; exact hln5) ?_
            walk_at "go"
            refine p_itL hab5 (by omega) (by rw [show (((j : Nat) : Int) + 1).toNat = j + 1 by omega]; exact rowD_at (rowT_at (by omega))) ?_
            walk_at "go"
            have e1 : (if ((L a b (i + 1) j : Nat) : Int) < ((L a b i (j + 1) : Nat) : Int) then ((L a b i (j + 1) : Nat) : Int) else ((L a b (i + 1) j : Nat) : Int)) = ((L a b (i + 1) (j + 1) : Nat) : Int) := by
              have e2 : L a b (i + 1) (j + 1) = max (L a b i (j + 1)) (L a b (i + 1) j) := by rw [L_s, if_neg (by rw [eq_at hx hy]; exact he)]
              rw [e2]
              split <;> omega
            rw [e1]
            exact app (k_nil ⟨⟨_, _, rfl⟩, put _ rfl⟩)
      · obtain ⟨⟨v6, v7, rfl⟩, o5, hln5⟩ := p
        rw [enumOf_len, List.length_map, pre_row] at hln5
        have hr5 := o5.at hr
        refine k_cons (k_exS (x_mth (x_var (by with_unfolding_all exact rfl) ⟨ty_lst rfl hr5, ?_⟩)))
        walk_at "go"
        refine p_append hr5 (by rw [sizeLine_eq]; simp; omega) (k_nil ⟨⟨_, _, _, _, _, rfl⟩, (o3.trans o5).set b2, ls' ++ [l1] ++ [ln], ?_, by simp [hl1], ?_, ?_, ?_, fun q l hq => ?_⟩)
        · rw [set_at hr5]; simp
        · intro z
          rcases List.mem_append.mp z with z | z
          · exact nr z
          · exact nlr (List.mem_singleton.mp z).symm
        · rw [List.nodup_append]
          exact ⟨nd, by simp, fun x hx y hy => by rw [List.mem_singleton.mp hy]; exact (nl x hx).symm⟩
        · intro l hl
          rcases List.mem_append.mp hl with z | z
          · exact ge l z
          · rw [List.mem_singleton.mp z]; exact b4
        · have nlr' : l ≠ r := fun z => by
            have : l ∈ ls' ++ [l1] ++ [ln] := List.mem_of_getElem? hq
            rw [z] at this
            rcases List.mem_append.mp this with w | w
            · exact nr w
            · exact nlr (List.mem_singleton.mp w).symm
          refine set_ne' nlr' ?_
          by_cases hqi : q < (ls' ++ [l1]).length
          · rw [List.getElem?_append_left hqi] at hq
            exact o5.at (rows q l hq)
          · have hq' := (List.getElem?_eq_some_iff.mp hq).1
            have : q = i + 1 := by simp at hqi hq'; omega
            subst this
            rw [List.getElem?_append_right (by simp; omega)] at hq
            have : ln = l := by simpa [hl1] using hq
            subst this
            exact hln5
  · obtain ⟨⟨v3, v4, v5, v6, v7, rfl⟩, o3, ls, hr, hl, nr, nd, ge, rows⟩ := p
    rw [ea] at hl
    walk_at "go"
    refine ⟨r, rfl, ⟨ls, hr, nr, nd, b2, ge, all2_of (by simp [tabT, hl]) fun q l row g1 g2 => ?_⟩, o3⟩
    have hq := (List.getElem?_eq_some_iff.mp g1).1
    rw [tab_at (by omega)] at g2
    cases g2
    exact rows q l g1
  · cases q with
    | zero =>
      have : l0 = l := by simpa using hq
      subst this
      exact h3
    | succ q => simp at hq
end Pt

end

section
set_option Elab.async false
set_option linter.all false
set_option maxRecDepth 100000
set_option maxHeartbeats 4000000
local macro_rules | `(tactic| walk_at "cl") => `(tactic| first | assumption | exact Mz.new_at | exact Mz.set_at (by walk_at "cl") | exact Mz.app_at (by walk_at "cl") | exact Mz.Grow.at ‹_› (by walk_at "cl"))
local macro_rules | `(tactic| walk_at "go") => `(tactic| repeat (first | with_reducible refine ⟨_, _, _, _, _, _, rfl, (by walk_at "cl"), ?_⟩ | with_reducible refine Mz.k_cons ?_ | with_reducible refine Mz.k_asgS ?_ | with_reducible refine Mz.k_retS ?_ | with_reducible refine Mz.k_exS ?_ | with_reducible refine Mz.x_bin ?_ | with_reducible refine Mz.x_cmp ?_ | with_reducible refine Mz.x_sub ?_ | with_reducible refine Mz.x_call ?_ | with_reducible refine Mz.x_blt ?_ | with_reducible refine Mz.x_cons ?_ | with_reducible refine Mz.x_nil ?_ | with_reducible refine Mz.x_tup ?_ | with_reducible refine Mz.x_lst ?_ | with_reducible refine Mz.x_int ?_ | with_reducible refine Mz.x_str ?_ | with_reducible refine Mz.x_bl ?_ | with_reducible refine Mz.x_non ?_ | with_reducible refine Mz.p_add ?_ | with_reducible refine Mz.p_sub ?_ | with_reducible refine Mz.p_eqI ?_ | with_reducible refine Mz.p_neI ?_ | with_reducible refine Mz.p_eqS ?_ | with_reducible refine Mz.p_neS ?_ | with_reducible refine Mz.p_lt ?_ | with_reducible refine Mz.p_le ?_ | with_reducible refine Mz.p_ge ?_ | with_reducible refine Mz.p_gt ?_ | with_reducible refine Mz.y_cmp ?_ | with_reducible refine Mz.x_fst ?_ | with_reducible refine Mz.j_cons ?_ | with_reducible refine Mz.j_nil ?_ | with_reducible refine Mz.x_fmt ?_ | with_reducible refine Mz.x_chain ?_ | with_reducible refine Mz.y_chain ?_ | with_reducible refine Mz.p_leS ?_ | with_reducible refine Mz.p_is ?_ | with_reducible refine Mz.p_isnot ?_ | with_reducible refine Mz.p_ord ?_ | with_reducible refine Mz.p_max ?_ | with_reducible refine Mz.p_min ?_ | with_reducible refine Mz.p_abs ?_ | with_reducible refine Mz.p_itT (by decide) rfl ?_ | (with_reducible refine (?_ : Mz.SatX _ _ _); simp only [List.set_cons_zero, List.set_cons_succ]) | with_reducible refine Mz.x_var (by with_unfolding_all exact rfl) ?_ | with_reducible refine ⟨(by simp only [List.length_cons, List.length_nil, PySem.sizeLine_eq]; omega : (List.length _ ≤ PySem.sizeLine)), ?_⟩))
local macro_rules | `(tactic| walk_at "st") => `(tactic| simp only [Mz.startG, List.map_cons, List.map_nil, List.length_cons, List.length_nil, Nat.reduceAdd, Nat.reduceSub, List.replicate, List.cons_append, List.nil_append, Nat.zero_add])
namespace Pt
open PySem PySem.Spec L2 Mz TL Rc
variable {prg : Prg} (H : HasT prg) {K : Nat} {S : Store} {pa pb : Nat} {a b : List Str}
theorem tab_get {S : Store} {lo r : Nat} (h : Tab S lo r (tabT a b)) : ∃ xs, S[r]? = some (Cell.lst xs) ∧ ∀ i, i ≤ a.length → ∃ l : Nat, xs[i]? = some (.loc l) ∧ S[l]? = some (Cell.lst (rowD (rowT a b i))) := by
  obtain ⟨ls, e, _, _, _, _, al⟩ := h.at_
  refine ⟨_, e, fun i hi => ?_⟩
  have hl : i < ls.length := by rw [al.len]; simp [tabT]; omega
  obtain ⟨row, h1, h2⟩ := al.get (List.getElem?_eq_getElem hl)
  rw [tab_at hi] at h1
  cases h1
  exact ⟨ls[i], by rw [List.getElem?_map, List.getElem?_eq_getElem hl]; rfl, h2⟩
def opD : Op Str → D
  | .keep => .tup [.str "keep", .non]
  | .cut => .tup [.str "cut", .non]
  | .put x => .tup [.str "put", .str x]
theorem nat_pred {i : Nat} : (((i + 1 : Nat) : Int) - 1).toNat = i := by omega
include H in
theorem stepsK (hK : 2 ≤ K) (ha : PgAt S pa a) (hb : PgAt S pb b) (la : a.length ≤ 60) (lb : b.length ≤ 60) :
    Sat (prg.run K "steps_between" [.loc pa, .loc pb] S) fun d S' => ∃ r ops, d = .loc r ∧ S.length ≤ r ∧ S'[r]? = some (Cell.lst (ops.map opD)) ∧ ap ops a = some (b, L a b a.length b.length) ∧ ops.length ≤ a.length + b.length ∧ Old S S' := by
  obtain ⟨k, rfl⟩ := fuel hK
  have ea : (a.map D.str).length = a.length := List.length_map ..
  have eb : (b.map D.str).length = b.length := List.length_map ..
  rw [r_steps_between H, sat_runBody]; unfold t_steps_between
  walk_at "st"
  walk_at "go"
  refine (tableK H (by omega) ha hb la lb).mono fun d S1 h => ?_
  obtain ⟨rk, rfl, tb, o1⟩ := h
  obtain ⟨xs, hk, rows⟩ := tab_get tb
  walk_at "go"
  refine k_par ?_
  walk_at "go"
  refine p_lenL (o1.at ha) ?_
  walk_at "go"
  refine p_lenL (o1.at hb) ?_
  walk_at "go"
  refine ⟨_, _, rfl, ?_⟩
  rw [ea, eb]
  walk_at "go"
  refine k_whl ?_
  have b1 : S.length ≤ S1.length := o1.1
  refine wloop_inv (fun m g S' => ∃ (i j : Nat) (fs : List (Op Str)), m = i + j ∧ g = [some (.loc pa), some (.loc pb), some (.loc rk), some (.loc S1.length), some (.int (i : Nat)), some (.int (j : Nat))] ∧ Pt.Inv a b i j fs ∧ fs.length + i + j ≤ a.length + b.length ∧ Old S1 S' ∧ S'[S1.length]? = some (Cell.lst (fs.map opD))) (fun m g S2 p => ?_) _ (a.length + b.length) _ _ (by omega) ⟨a.length, b.length, [], rfl, rfl, inv0 a b, by simp, .app, new_at⟩
  obtain ⟨i, j, fs, rfl, rfl, iv, hf, o2, hfd⟩ := p
  have ha2 := o2.at (o1.at ha)
  have hb2 := o2.at (o1.at hb)
  have hk2 := o2.at hk
  obtain ⟨ii, ij, _⟩ := id iv
  have app : ∀ {o : Op Str} {i' j' : Nat}, i' + j' < i + j → Pt.Inv a b i' j' (fs ++ [o]) → (∃ m', m' < i + j ∧ ∃ (i'' j'' : Nat) (fs' : List (Op Str)), m' = i'' + j'' ∧ ([some (.loc pa), some (.loc pb), some (.loc rk), some (.loc S1.length), some (.int (i' : Nat)), some (.int (j' : Nat))] : Sg) = [some (.loc pa), some (.loc pb), some (.loc rk), some (.loc S1.length), some (.int (i'' : Nat)), some (.int (j'' : Nat))] ∧ Pt.Inv a b i'' j'' fs' ∧ fs'.length + i'' + j'' ≤ a.length + b.length ∧ Old S1 (S2.set S1.length (Cell.lst (fs.map opD ++ [opD o]))) ∧ (S2.set S1.length (Cell.lst (fs.map opD ++ [opD o])))[S1.length]? = some (Cell.lst (fs'.map opD))) := by
    intro o i' j' h1 h3
    refine ⟨i' + j', h1, i', j', fs ++ [o], rfl, rfl, h3, by rw [List.length_append, List.length_singleton]; omega, o2.set (Nat.le_refl _), ?_⟩
    rw [set_at hfd, List.map_append]; rfl
  have pa' : ∀ {d : D} {Q : D → Store → Prop} {Y : Xc → Store → Prop}, Q .non (S2.set S1.length (Cell.lst (fs.map opD ++ [d]))) → SatX Y (semMth .append (.loc S1.length) [d] S2) Q := fun q => p_append hfd (by rw [List.length_map, sizeLine_eq]; omega) q
  -- is there more
  refine SatX.mono (Q := fun c S => c = decide (0 < i + j) ∧ S = S2) ?_ fun c S3 h => ?_
  · refine y_or (y_cmp ?_)
    walk_at "go"
    refine ⟨_, rfl, fun h => ⟨?_, rfl⟩, fun h => ?_⟩
    · have h : ((0 : Int) < (i : Int)) := of_decide_eq_true h
      exact (decide_eq_true (by omega)).symm
    · have h : ¬ ((0 : Int) < (i : Int)) := of_decide_eq_false h
      refine y_cmp ?_
      walk_at "go"
      refine ⟨_, rfl, ?_, rfl⟩
      have : ((0 : Int) < (j : Int)) = (0 < i + j) := propext ⟨fun _ => by omega, fun _ => by omega⟩
      simp only [this]
  obtain ⟨rfl, rfl⟩ := h
  refine ⟨fun h => ?_, fun h => ?_⟩
  rotate_left
  · have h : ¬ (0 < i + j) := of_decide_eq_false h
    obtain rfl : i = 0 := by omega
    obtain rfl : j = 0 := by omega
    walk_at "go"
    refine x_rev ?_
    walk_at "go"
    refine ⟨_, _, rfl, hfd, ?_⟩
    refine ⟨_, fs.reverse, rfl, ?_, by rw [← List.map_reverse]; exact new_at, inv_end iv, by simpa using hf, (o1.trans o2).trans .app⟩
    have := o2.1
    omega
  have h : 0 < i + j := of_decide_eq_true h
  refine k_cons (k_ifS (SatX.mono (Q := fun c S => c = decide (0 < i ∧ 0 < j ∧ a[i - 1]? = b[j - 1]?) ∧ S = S3) ?_ fun c S4 h4 => ?_))
  · refine y_and (y_cmp ?_)
    walk_at "go"
    refine ⟨_, rfl, fun h => ?_, fun h => ⟨?_, rfl⟩⟩
    rotate_left
    · have h : ¬ ((0 : Int) < (i : Int)) := of_decide_eq_false h
      exact (decide_eq_false fun z => h (by omega)).symm
    have hi0 : ((0 : Int) < (i : Int)) := of_decide_eq_true h
    refine y_and (y_cmp ?_)
    walk_at "go"
    refine ⟨_, rfl, fun h => ?_, fun h => ⟨?_, rfl⟩⟩
    rotate_left
    · have h : ¬ ((0 : Int) < (j : Int)) := of_decide_eq_false h
      exact (decide_eq_false fun z => h (by omega)).symm
    have hj0 : ((0 : Int) < (j : Int)) := of_decide_eq_true h
    have ax : a[i - 1]? = some a[i - 1] := List.getElem?_eq_getElem (by omega)
    have bx : b[j - 1]? = some b[j - 1] := List.getElem?_eq_getElem (by omega)
    refine y_cmp ?_
    walk_at "go"
    refine p_itL ha2 (by omega) (x := .str a[i - 1]) (by rw [show (((i : Nat) : Int) - 1).toNat = i - 1 by omega, List.getElem?_map, ax]; rfl) ?_
    walk_at "go"
    refine p_itL hb2 (by omega) (x := .str b[j - 1]) (by rw [show (((j : Nat) : Int) - 1).toNat = j - 1 by omega, List.getElem?_map, bx]; rfl) ?_
    walk_at "go"
    refine ⟨_, rfl, ?_, rfl⟩
    rw [ax, bx]
    have : (a[i - 1] = b[j - 1]) = (0 < i ∧ 0 < j ∧ some a[i - 1] = some b[j - 1]) := propext ⟨fun h => ⟨by omega, by omega, by rw [h]⟩, fun h => Option.some.inj h.2.2⟩
    simp only [this]
  obtain ⟨rfl, rfl⟩ := h4
  refine ⟨fun h4 => ?_, fun h4 => ?_⟩
  · -- kept
    have h4 := of_decide_eq_true h4
    obtain ⟨i, rfl⟩ : ∃ i', i = i' + 1 := ⟨i - 1, by omega⟩
    obtain ⟨j, rfl⟩ : ∃ j', j = j' + 1 := ⟨j - 1, by omega⟩
    refine k_cons (k_par ?_)
    walk_at "go"
    refine ⟨_, _, rfl, ?_⟩
    rw [show ((i + 1 : Nat) : Int) - 1 = (i : Nat) by omega, show ((j + 1 : Nat) : Int) - 1 = (j : Nat) by omega]
    walk_at "go"
    refine x_mth (x_var (by with_unfolding_all exact rfl) ⟨ty_lst rfl hfd, ?_⟩)
    walk_at "go"
    refine pa' (k_nil (k_nil ?_))
    exact app (o := .keep) (by omega) (inv_keep iv h4.2.2)
  have h4 := of_decide_eq_false h4
  refine k_cons (k_ifS (SatX.mono (Q := fun c S => c = decide (0 < j ∧ (i = 0 ∨ L a b (i - 1) j ≤ L a b i (j - 1))) ∧ S = S4) ?_ fun c S5 h5 => ?_))
  · refine y_and (y_cmp ?_)
    walk_at "go"
    refine ⟨_, rfl, fun h => ?_, fun h => ⟨?_, rfl⟩⟩
    rotate_left
    · have h : ¬ ((0 : Int) < (j : Int)) := of_decide_eq_false h
      exact (decide_eq_false fun z => h (by omega)).symm
    have hj0 : ((0 : Int) < (j : Int)) := of_decide_eq_true h
    refine y_or (y_cmp ?_)
    walk_at "go"
    refine ⟨_, rfl, fun h => ⟨?_, rfl⟩, fun h => ?_⟩
    · have h : (i : Int) = 0 := of_decide_eq_true h
      exact (decide_eq_true ⟨by omega, .inl (by omega)⟩).symm
    have hi0 : ¬ ((i : Int) = 0) := of_decide_eq_false h
    obtain ⟨l0, e0, r0⟩ := rows i ii
    obtain ⟨l1, e1, r1⟩ := rows (i - 1) (by omega)
    refine y_cmp ?_
    walk_at "go"
    refine p_itL hk2 (by omega) (by rw [Int.toNat_natCast]; exact e0) ?_
    walk_at "go"
    refine p_itL (o2.at r0) (by omega) (by rw [show (((j : Nat) : Int) - 1).toNat = j - 1 by omega]; exact rowD_at (rowT_at (by omega))) ?_
    walk_at "go"
    refine p_itL hk2 (by omega) (by rw [show (((i : Nat) : Int) - 1).toNat = i - 1 by omega]; exact e1) ?_
    walk_at "go"
    refine p_itL (o2.at r1) (by omega) (by rw [Int.toNat_natCast]; exact rowD_at (rowT_at ij)) ?_
    walk_at "go"
    refine ⟨_, rfl, ?_, rfl⟩
    by_cases hh : L a b (i - 1) j ≤ L a b i (j - 1)
    · rw [decide_eq_true (show 0 < j ∧ (i = 0 ∨ L a b (i - 1) j ≤ L a b i (j - 1)) from ⟨by omega, .inr hh⟩), decide_eq_false (by omega)]; rfl
    · rw [decide_eq_false (show ¬ (0 < j ∧ (i = 0 ∨ L a b (i - 1) j ≤ L a b i (j - 1))) from fun z => by rcases z.2 with z | z <;> omega), decide_eq_true (by omega)]; rfl
  obtain ⟨rfl, rfl⟩ := h5
  refine ⟨fun h5 => ?_, fun h5 => ?_⟩
  · -- put
    have h5 := of_decide_eq_true h5
    obtain ⟨j, rfl⟩ : ∃ j', j = j' + 1 := ⟨j - 1, by omega⟩
    have bx : b[j]? = some b[j] := List.getElem?_eq_getElem (by omega)
    refine k_cons (k_augS (by with_unfolding_all exact rfl) ?_)
    walk_at "go"
    refine ⟨_, rfl, ?_⟩
    rw [show ((j + 1 : Nat) : Int) - 1 = (j : Nat) by omega]
    walk_at "go"
    refine x_mth (x_var (by with_unfolding_all exact rfl) ⟨ty_lst rfl hfd, ?_⟩)
    walk_at "go"
    refine p_itL hb2 (by omega) (x := .str b[j]) (by rw [Int.toNat_natCast, List.getElem?_map, bx]; rfl) ?_
    walk_at "go"
    refine pa' (k_nil (k_nil (k_nil ?_)))
    refine app (o := .put b[j]) (by omega) (inv_put iv (fun i' e => ?_) (fun i' e => ?_) bx)
    · subst e
      exact fun z => h4 ⟨by omega, by omega, z⟩
    · subst e
      rcases h5.2 with z | z
      · omega
      · exact z
  · -- cut
    have h5 := of_decide_eq_false h5
    obtain ⟨i, rfl⟩ : ∃ i', i = i' + 1 := ⟨i - 1, by
      rcases Nat.eq_zero_or_pos i with z | z
      · exact absurd ⟨by omega, .inl z⟩ h5
      · omega⟩
    refine k_cons (k_augS (by with_unfolding_all exact rfl) ?_)
    walk_at "go"
    refine ⟨_, rfl, ?_⟩
    rw [show ((i + 1 : Nat) : Int) - 1 = (i : Nat) by omega]
    walk_at "go"
    refine x_mth (x_var (by with_unfolding_all exact rfl) ⟨ty_lst rfl hfd, ?_⟩)
    walk_at "go"
    refine pa' (k_nil (k_nil (k_nil ?_)))
    refine app (o := .cut) (by omega) (inv_cut iv fun j' e => ?_)
    subst e
    refine ⟨fun z => h4 ⟨by omega, by omega, z⟩, ?_⟩
    have : ¬ L a b i (j' + 1) ≤ L a b (i + 1) j' := fun z => h5 ⟨by omega, .inr z⟩
    omega
end Pt

end

section
set_option Elab.async false
set_option linter.all false
set_option maxRecDepth 100000
set_option maxHeartbeats 4000000
local macro_rules | `(tactic| walk_at "cl") => `(tactic| first | assumption | exact Mz.new_at | exact Mz.set_at (by walk_at "cl") | exact Mz.app_at (by walk_at "cl") | exact Mz.Grow.at ‹_› (by walk_at "cl"))
local macro_rules | `(tactic| walk_at "go") => `(tactic| repeat (first | with_reducible refine ⟨_, _, _, _, _, _, rfl, (by walk_at "cl"), ?_⟩ | with_reducible refine Mz.k_cons ?_ | with_reducible refine Mz.k_asgS ?_ | with_reducible refine Mz.k_retS ?_ | with_reducible refine Mz.k_exS ?_ | with_reducible refine Mz.x_bin ?_ | with_reducible refine Mz.x_cmp ?_ | with_reducible refine Mz.x_sub ?_ | with_reducible refine Mz.x_call ?_ | with_reducible refine Mz.x_blt ?_ | with_reducible refine Mz.x_cons ?_ | with_reducible refine Mz.x_nil ?_ | with_reducible refine Mz.x_tup ?_ | with_reducible refine Mz.x_lst ?_ | with_reducible refine Mz.x_int ?_ | with_reducible refine Mz.x_str ?_ | with_reducible refine Mz.x_bl ?_ | with_reducible refine Mz.x_non ?_ | with_reducible refine Mz.p_add ?_ | with_reducible refine Mz.p_sub ?_ | with_reducible refine Mz.p_eqI ?_ | with_reducible refine Mz.p_neI ?_ | with_reducible refine Mz.p_eqS ?_ | with_reducible refine Mz.p_neS ?_ | with_reducible refine Mz.p_lt ?_ | with_reducible refine Mz.p_le ?_ | with_reducible refine Mz.p_ge ?_ | with_reducible refine Mz.p_gt ?_ | with_reducible refine Mz.y_cmp ?_ | with_reducible refine Mz.x_fst ?_ | with_reducible refine Mz.j_cons ?_ | with_reducible refine Mz.j_nil ?_ | with_reducible refine Mz.x_fmt ?_ | with_reducible refine Mz.x_chain ?_ | with_reducible refine Mz.y_chain ?_ | with_reducible refine Mz.p_leS ?_ | with_reducible refine Mz.p_is ?_ | with_reducible refine Mz.p_isnot ?_ | with_reducible refine Mz.p_ord ?_ | with_reducible refine Mz.p_max ?_ | with_reducible refine Mz.p_min ?_ | with_reducible refine Mz.p_abs ?_ | with_reducible refine Mz.p_itT (by decide) rfl ?_ | (with_reducible refine (?_ : Mz.SatX _ _ _); simp only [List.set_cons_zero, List.set_cons_succ]) | with_reducible refine Mz.x_var (by with_unfolding_all exact rfl) ?_ | with_reducible refine ⟨(by simp only [List.length_cons, List.length_nil, PySem.sizeLine_eq]; omega : (List.length _ ≤ PySem.sizeLine)), ?_⟩))
local macro_rules | `(tactic| walk_at "st") => `(tactic| simp only [Mz.startG, List.map_cons, List.map_nil, List.length_cons, List.length_nil, Nat.reduceAdd, Nat.reduceSub, List.replicate, List.cons_append, List.nil_append, Nat.zero_add])
namespace Pt
open PySem PySem.Spec L2 Mz TL Rc
variable {prg : Prg} (H : HasT prg) {K : Nat} {S : Store} {pa pb : Nat} {a b : List Str}
def wd : Nat → Str
  | 0 => "keep"
  | 1 => "cut"
  | _ => "put"
theorem wd_eq : ∀ m n : Fin 3, decide (wd m = wd n) = decide (m.val = n.val) := by decide +kernel
theorem op_lt (o : Op Str) : o.w < 3 := by cases o <;> simp [Op.w]
theorem row_lt (r : Row Str) : r.w < 3 := by cases r <;> simp [Row.w]
theorem w_put (o : Op Str) : decide (wd o.w = ("put" : Str)) = decide (o.w = 2) := wd_eq ⟨o.w, op_lt o⟩ 2
theorem w_eq (r : Row Str) (o : Op Str) : decide (wd r.w = wd o.w) = decide (r.w = o.w) := wd_eq ⟨r.w, row_lt r⟩ ⟨o.w, op_lt o⟩
def opA : Op Str → D
  | .put x => .str x
  | _ => .non
theorem op_d (o : Op Str) : opD o = .tup [.str (wd o.w), opA o] := by cases o <;> rfl
def rowA : Row Str → D
  | .keep n => .int (n : Nat)
  | .cut n => .int (n : Nat)
  | .put xs => .tup (xs.map .str)
def rowDD (r : Row Str) : D := .tup [.str (wd r.w), rowA r]
def Fine (ys : List Str) : Prop := ∀ y ∈ ys, PyData.strOk y = true
def Row.fine : Row Str → Prop
  | .put xs => Fine xs ∧ xs.length ≤ 120
  | .keep n => n ≤ 120
  | .cut n => n ≤ 120
theorem wd_ok (n : Nat) : PyData.strOk (wd n) = true := by
  unfold wd
  split <;> decide +kernel
theorem row_pd {r : Row Str} (h : r.fine) : PD 3 (rowDD r) := by
  refine pd_tup (by decide) fun x hx => ?_
  simp only [List.mem_cons, List.not_mem_nil, or_false] at hx
  rcases hx with rfl | rfl
  · exact (pd_str (wd_ok _)).up (by decide)
  · cases r with
    | keep n => exact pd_int.up (by decide)
    | cut n => exact pd_int.up (by decide)
    | put xs =>
      refine pd_tup (by decide) fun y hy => ?_
      obtain ⟨z, hz, rfl⟩ := List.mem_map.mp hy
      exact pd_str (h.1 z hz)
theorem ap_mem : ∀ {ops : List (Op Str)} {l out : List Str} {k : Nat} {x : Str}, ap ops l = some (out, k) → .put x ∈ ops → x ∈ out
  | [], _, _, _, _, _, h => by cases h
  | .keep :: r, [], _, _, _, h, _ => by cases h
  | .keep :: r, y :: l, out, k, x, h, hx => by
    unfold ap at h
    cases e : ap r l with
    | none => rw [e] at h; cases h
    | some q =>
      rw [e] at h; cases h
      rcases List.mem_cons.mp hx with z | z
      · cases z
      · exact List.mem_cons_of_mem _ (ap_mem (k := q.2) e z)
  | .cut :: r, [], _, _, _, h, _ => by cases h
  | .cut :: r, y :: l, out, k, x, h, hx => by
    unfold ap at h
    rcases List.mem_cons.mp hx with z | z
    · cases z
    · exact ap_mem h z
  | .put y :: r, l, out, k, x, h, hx => by
    unfold ap at h
    cases e : ap r l with
    | none => rw [e] at h; cases h
    | some q =>
      rw [e] at h; cases h
      rcases List.mem_cons.mp hx with z | z
      · cases z; exact List.mem_cons_self
      · exact List.mem_cons_of_mem _ (ap_mem (k := q.2) e z)
theorem grp_fine {ops : List (Op Str)} (hl : ops.length ≤ 120) (hf : ∀ x, .put x ∈ ops → PyData.strOk x = true) : (∀ r ∈ grp ops, r.fine) ∧ (grp ops).length ≤ ops.length := by
  obtain ⟨h1, h2, h3⟩ := grp_all ops
  refine ⟨fun r hr => ?_, ?_⟩
  · have sub : ∀ o ∈ r.flat, o ∈ ops := fun o ho => by rw [← h1]; exact List.mem_flatMap.mpr ⟨r, hr, ho⟩
    have len : r.flat.length ≤ 120 := by
      obtain ⟨s, t, e⟩ := List.append_of_mem hr
      have : ops.length = (s.flatMap Row.flat).length + r.flat.length + (t.flatMap Row.flat).length := by
        rw [← h1, e]; simp [List.flatMap_append]; omega
      omega
    cases r with
    | keep n => show n ≤ 120; simpa [Row.flat] using len
    | cut n => show n ≤ 120; simpa [Row.flat] using len
    | put xs => exact ⟨fun x hx => hf x (sub _ (List.mem_map.mpr ⟨x, hx, rfl⟩)), by simpa [Row.flat] using len⟩
  · have key : ∀ rs : List (Row Str), (∀ r ∈ rs, r.ok) → rs.length ≤ (rs.flatMap Row.flat).length := by
      intro rs
      induction rs with
      | nil => intro _; exact Nat.zero_le _
      | cons r rs ih =>
        intro h
        have := ih fun s hs => h s (List.mem_cons_of_mem _ hs)
        have hr := h r List.mem_cons_self
        have : 0 < r.flat.length := by
          cases r with
          | keep n =>
            have hr : 0 < n := hr
            simpa [Row.flat] using hr
          | cut n =>
            have hr : 0 < n := hr
            simpa [Row.flat] using hr
          | put xs =>
            have hr : xs ≠ [] := hr
            simpa [Row.flat, List.length_pos_iff] using hr
        rw [List.flatMap_cons, List.length_append, List.length_cons]
        omega
    have := key _ h3
    rw [h1] at this
    exact this
def Op.base : Op Str → Row Str
  | .keep => .keep 0 | .cut => .cut 0 | .put _ => .put []
theorem base_w (o : Op Str) : o.base.w = o.w := by cases o <;> rfl
theorem base_more (o : Op Str) : o.base.more o = o.row := by cases o <;> rfl
/-- rows at a list -/
def RowsAt' (S : Store) (r : Nat) (rs : List (Row Str)) : Prop := S[r]? = some (Cell.lst (rs.map rowDD))
include H in
theorem patchK (hK : 3 ≤ K) (ha : PgAt S pa a) (hb : PgAt S pb b) (la : a.length ≤ 60) (lb : b.length ≤ 60) (fb : Fine b) :
    Sat (prg.run K "patch" [.loc pa, .loc pb] S) fun d S' => ∃ r rs, d = .loc r ∧ S.length ≤ r ∧ RowsAt' S' r rs ∧ Alt rs ∧ (∀ q ∈ rs, q.ok ∧ q.fine) ∧ rs.length ≤ 120 ∧ runR rs a = some (b, L a b a.length b.length) ∧ Old S S' := by
  obtain ⟨k, rfl⟩ := fuel hK
  rw [r_patch H, sat_runBody]; unfold t_patch
  walk_at "st"
  walk_at "go"
  refine k_forS (i_eL rfl (x_call ?_))
  walk_at "go"
  refine (stepsK H (by omega) (S := S ++ [Cell.lst []]) (app_at ha) (app_at hb) la lb).mono fun d S1 h => ?_
  obtain ⟨rs, ops, rfl, gs, hs, hap, hlen, o1⟩ := h
  refine ⟨rs, _, rfl, hs, ?_⟩
  rw [ib_lst hs]
  have gs : S.length + 1 ≤ rs := by rw [List.length_append] at gs; exact gs
  have hf0 : S1[S.length]? = some (Cell.lst []) := o1.at new_at
  have oo : Old S S1 := Old.app.trans o1
  have fo : ∀ x, .put x ∈ ops → PyData.strOk x = true := fun x hx => fb x (ap_mem hap hx)
  refine floop_at (xs := ops.map opD) (fun i g S' => (∃ v3 v4 v5, g = [some (.loc pa), some (.loc pb), some (.loc S.length), v3, v4, v5]) ∧ Old S S' ∧ S'[rs]? = some (Cell.lst (ops.map opD)) ∧ RowsAt' S' S.length (grp (ops.take i)))
    (fun i g S' p => is_lst p.2.2.1) (fun i d g S2 hi p => ?_) (fun g S' p => ?_) _ 0 _ _ (by omega) (Nat.zero_le _) ⟨⟨_, _, _, rfl⟩, oo, hs, hf0⟩
  rotate_left
  · obtain ⟨⟨v3, v4, v5, rfl⟩, o2, hs2, hr2⟩ := p
    rw [List.length_map, List.take_length] at hr2
    obtain ⟨h1, h2, h3⟩ := grp_all ops
    obtain ⟨f1, f2⟩ := grp_fine (by omega) fo
    walk_at "go"
    exact ⟨S.length, grp ops, rfl, Nat.le_refl _, hr2, h2, fun q hq => ⟨h3 q hq, f1 q hq⟩, by omega, grp_run hap, o2⟩
  obtain ⟨⟨v3, v4, v5, rfl⟩, o2, hs2, hr2⟩ := p
  rw [List.getElem?_map] at hi
  cases ho : ops[i]? with
  | none => rw [ho] at hi; cases hi
  | some o =>
    rw [ho] at hi
    cases hi
    have ei : ops.take (i + 1) = ops.take i ++ [o] := by rw [List.take_add_one, ho]; rfl
    obtain ⟨f1, f2⟩ := grp_fine (ops := ops.take i) (by rw [List.length_take]; omega) fun x hx => fo x (List.mem_of_mem_take hx)
    have f2 : (grp (ops.take i)).length ≤ 120 := by rw [List.length_take] at f2; omega
    rw [ei, grp_add]
    generalize grp (ops.take i) = q at hr2 f1 f2 ⊢
    rw [op_d]
    refine sat_ok.mpr ?_
    simp only [List.set_cons_zero, List.set_cons_succ]
    have nl : rs ≠ S.length := by omega
    -- one more row, where the word is another one
    refine k_cons (SatR.mono (N := fun g S' => g = [some (.loc pa), some (.loc pb), some (.loc S.length), some (.str (wd o.w)), some (opA o), v5] ∧ Old S S' ∧ S'[rs]? = some (Cell.lst (ops.map opD)) ∧ ∃ t r', RowsAt' S' S.length (t ++ [r']) ∧ r'.w = o.w ∧ addOp q o = t ++ [r'.more o] ∧ (r' ∈ q ∨ r' = o.base)) (k_ifS (SatX.mono (Q := fun c S' => (c = true → addOp q o = q ++ [o.row]) ∧ (c = false → ∃ t r', q = t ++ [r'] ∧ r'.w = o.w) ∧ S' = S2 ++ [Cell.lst []]) ?_ fun c S3 h3 => ?_)) fun g S3 h3 => ?_)
    · refine y_or (y_cmp ?_)
      walk_at "go"
      rcases List.eq_nil_or_concat q with rfl | ⟨t, r', e⟩
      · refine p_eqNil0 (app_at hr2) new_at ?_
        exact ⟨_, rfl, fun _ => ⟨fun _ => rfl, fun z => (by cases z), rfl⟩, fun z => (by cases z)⟩
      · have e : q = t ++ [r'] := by rw [e]; simp
        have hr2' : S2[S.length]? = some (Cell.lst (t.map rowDD ++ [rowDD r'])) := by
          have : RowsAt' S2 S.length (t ++ [r']) := e ▸ hr2
          unfold RowsAt' at this
          rw [List.map_append] at this
          exact this
        obtain ⟨y, ys, ey⟩ : ∃ y ys, q.map rowDD = y :: ys := by
          cases q with
          | nil => simp at e
          | cons z zs => exact ⟨_, _, rfl⟩
        have hr2y : S2[S.length]? = some (Cell.lst (y :: ys)) := by rw [← ey]; exact hr2
        refine p_eqNil (k := 3) (app_at hr2y) new_at (by decide) (fun z hz => ?_) (by decide) ?_
        · rw [← ey] at hz
          obtain ⟨w, hw, rfl⟩ := List.mem_map.mp hz
          exact row_pd (f1 w hw)
        refine ⟨_, rfl, fun z => (by cases z), fun _ => y_cmp ?_⟩
        walk_at "go"
        refine x_neg ?_
        walk_at "go"
        refine ⟨_, rfl, ?_⟩
        refine p_itLast (app_at hr2') ?_
        walk_at "go"
        refine p_itT (xs := [.str (wd r'.w), rowA r']) (by decide) rfl ?_
        walk_at "go"
        refine ⟨_, rfl, ?_⟩
        rw [w_eq]
        refine ⟨fun z => ?_, fun z => ?_, rfl⟩
        · have z : ¬ r'.w = o.w := by simpa using z
          unfold addOp
          rw [e, List.getLast?_concat]
          show (if r'.w = o.w then (t ++ [r']).dropLast ++ [r'.more o] else (t ++ [r']) ++ [o.row]) = _
          exact if_neg z
        · have z : r'.w = o.w := by simpa using z
          exact ⟨t, r', e, z⟩
    · obtain ⟨c1, c2, rfl⟩ := h3
      have hr3 : (S2 ++ [Cell.lst []])[S.length]? = some (Cell.lst (q.map rowDD)) := app_at hr2
      have hs3 : (S2 ++ [Cell.lst []])[rs]? = some (Cell.lst (ops.map opD)) := app_at hs2
      have o3 : Old S (S2 ++ [Cell.lst []]) := o2.trans .app
      refine ⟨fun z => ?_, fun z => k_nil ⟨rfl, o3, hs3, ?_⟩⟩
      · generalize S2 ++ [Cell.lst []] = S3 at hr3 hs3 o3 ⊢
        refine k_cons (k_exS (x_mth (x_var (by with_unfolding_all exact rfl) ⟨ty_lst rfl hr3, ?_⟩)))
        walk_at "go"
        refine x_if (y_cmp ?_)
        walk_at "go"
        refine ⟨_, rfl, fun hp => ?_, fun hp => ?_⟩
        all_goals
          rw [w_put] at hp
          walk_at "go"
          refine p_append hr3 (by rw [List.length_map, sizeLine_eq]; omega) (k_nil ⟨rfl, o3.set (Nat.le_refl _), set_ne' nl hs3, q, o.base, ?_, base_w o, by rw [c1 z, base_more], .inr rfl⟩)
          unfold RowsAt'
          rw [set_at hr3, List.map_append]
        · have hp : o.w = 2 := of_decide_eq_true hp
          cases o <;> first | rfl | cases hp
        · have hp : ¬ o.w = 2 := of_decide_eq_false hp
          cases o <;> first | rfl | exact absurd rfl hp
      · obtain ⟨t, r', e, e2⟩ := c2 z
        refine ⟨t, r', by rw [← e]; exact hr3, e2, ?_, .inl (by rw [e]; simp)⟩
        unfold addOp
        rw [e, List.getLast?_concat]
        show (if r'.w = o.w then (t ++ [r']).dropLast ++ [r'.more o] else (t ++ [r']) ++ [o.row]) = _
        rw [if_pos e2, List.dropLast_concat]
    · obtain ⟨rfl, o3, hs3, t, r', hr3, hw, ea, hm⟩ := h3
      have hr3' : S3[S.length]? = some (Cell.lst (t.map rowDD ++ [rowDD r'])) := by
        have : RowsAt' S3 S.length (t ++ [r']) := hr3
        unfold RowsAt' at this
        rw [List.map_append] at this
        exact this
      have more : ∀ m : D, (o.w = 2 ∧ (∃ x, o = .put x ∧ m = .tup [.str x])) ∨ (o.w ≠ 2 ∧ m = .int 1) → ∀ {Q : D → Store → Prop} {Y : Xc → Store → Prop}, Q (rowA (r'.more o)) S3 → SatX Y (semBop .add (rowA r') m S3) Q := by
        intro m hm' Q Y qq
        have hlen : ∀ xs, r' = .put xs → xs.length ≤ 120 := fun xs e => by
          rcases hm with z | z
          · have := f1 _ z
            rw [e] at this
            exact this.2
          · rw [e] at z
            cases o <;> cases z
            exact Nat.zero_le _
        rcases hm' with ⟨e1, x, rfl, rfl⟩ | ⟨e1, rfl⟩
        · cases r' with
          | keep n => cases hw
          | cut n => cases hw
          | put xs =>
            have := hlen xs rfl
            refine p_addT (by rw [sizeLine_eq]; simp; omega) ?_
            have : rowA ((Row.put xs).more (.put x)) = .tup (xs.map .str ++ [.str x]) := by
              show D.tup ((xs ++ [x]).map .str) = _
              rw [List.map_append]; rfl
            rw [this] at qq
            exact qq
        · cases r' with
          | put xs => exact absurd hw.symm e1
          | keep n => exact qq
          | cut n => exact qq
      refine k_cons (k_asgS (x_if (y_cmp ?_)))
      walk_at "go"
      refine ⟨_, rfl, fun hp => ?_, fun hp => ?_⟩
      all_goals
        rw [w_put] at hp
        walk_at "go"
        refine k_setLast ?_
        walk_at "go"
        refine x_neg ?_
        walk_at "go"
        refine ⟨_, rfl, ?_⟩
        refine p_itLast hr3' ?_
        walk_at "go"
        refine p_itT (xs := [.str (wd r'.w), rowA r']) (by decide) rfl ?_
        walk_at "go"
        refine more _ ?_ ?_
        rotate_left
        walk_at "go"
        refine x_neg ?_
        walk_at "go"
        refine ⟨_, rfl, S.length, t.map rowDD, _, rfl, rfl, hr3', k_nil ⟨⟨_, _, _, rfl⟩, o3.set (Nat.le_refl _), set_ne' nl hs3, ?_⟩⟩
        · unfold RowsAt'
          rw [set_at hr3', ea, List.map_append]
          show _ = some (Cell.lst (t.map rowDD ++ [rowDD (r'.more o)]))
          unfold rowDD
          rw [more_w, hw]
      · have hp : o.w = 2 := of_decide_eq_true hp
        refine .inl ⟨hp, ?_⟩
        cases o with
        | put x => exact ⟨x, rfl, rfl⟩
        | keep => cases hp
        | cut => cases hp
      · exact .inr ⟨of_decide_eq_false hp, rfl⟩
end Pt

end

section
set_option Elab.async false
set_option linter.all false
set_option maxRecDepth 100000
set_option maxHeartbeats 4000000
local macro_rules | `(tactic| walk_at "cl") => `(tactic| first | assumption | exact Mz.new_at | exact Mz.set_at (by walk_at "cl") | exact Mz.app_at (by walk_at "cl") | exact Mz.Grow.at ‹_› (by walk_at "cl"))
local macro_rules | `(tactic| walk_at "go") => `(tactic| repeat (first | (with_reducible refine (?_ : Mz.SatX _ (Mz.Sm.e (Mz.sem _ (Mz.T.var _)) _ _) _); first | (with_reducible refine (?_ : Mz.SatX _ _ _); simp only [List.set_cons_zero, List.set_cons_succ]) | with_reducible refine Mz.x_var (by with_unfolding_all exact rfl) ?_) | (with_reducible refine (?_ : Mz.SatRX _ _ _ _ _ _); first | with_reducible refine Mz.k_cons ?_ | with_reducible refine Mz.k_asgS ?_ | with_reducible refine Mz.k_retS ?_ | with_reducible refine Mz.k_exS ?_) | (with_reducible refine (?_ : Mz.SatX _ (Mz.Sm.e _ _ _) _); first | with_reducible refine Mz.x_int ?_ | with_reducible refine Mz.x_str ?_ | with_reducible refine Mz.x_bin ?_ | with_reducible refine Mz.x_cmp ?_ | with_reducible refine Mz.x_sub ?_ | with_reducible refine Mz.x_call ?_ | with_reducible refine Mz.x_blt ?_ | with_reducible refine Mz.x_tup ?_ | with_reducible refine Mz.x_lst ?_ | with_reducible refine Mz.x_bl ?_ | with_reducible refine Mz.x_non ?_ | with_reducible refine Mz.x_fst ?_ | with_reducible refine Mz.x_fmt ?_ | with_reducible refine Mz.x_chain ?_ | (with_reducible refine (?_ : Mz.SatX _ _ _); simp only [List.set_cons_zero, List.set_cons_succ])) | (with_reducible refine (?_ : Mz.SatX _ (Mz.Sm.a _ _ _) _); first | with_reducible refine Mz.x_cons ?_ | with_reducible refine Mz.x_nil ?_ | (with_reducible refine (?_ : Mz.SatX _ _ _); simp only [List.set_cons_zero, List.set_cons_succ])) | (with_reducible refine (?_ : Mz.SatX _ (Mz.semItem _ _ _) _); first | with_reducible refine Mz.p_itT (by decide) rfl ?_ | (with_reducible refine (?_ : Mz.SatX _ _ _); simp only [List.set_cons_zero, List.set_cons_succ])) | (with_reducible refine (?_ : Mz.SatX _ (Mz.semBop _ _ _ _) _); first | with_reducible refine Mz.p_add ?_ | with_reducible refine Mz.p_sub ?_ | (with_reducible refine (?_ : Mz.SatX _ _ _); simp only [List.set_cons_zero, List.set_cons_succ])) | (with_reducible refine (?_ : Mz.SatX _ (Mz.semCop _ _ _ _) _); first | with_reducible refine Mz.p_eqI ?_ | with_reducible refine Mz.p_neI ?_ | with_reducible refine Mz.p_eqS ?_ | with_reducible refine Mz.p_neS ?_ | with_reducible refine Mz.p_lt ?_ | with_reducible refine Mz.p_le ?_ | with_reducible refine Mz.p_ge ?_ | with_reducible refine Mz.p_gt ?_ | with_reducible refine Mz.p_leS ?_ | with_reducible refine Mz.p_is ?_ | with_reducible refine Mz.p_isnot ?_ | (with_reducible refine (?_ : Mz.SatX _ _ _); simp only [List.set_cons_zero, List.set_cons_succ])) | (with_reducible refine (?_ : Mz.SatX _ (Mz.Sm.t _ _ _) _); first | with_reducible refine Mz.y_cmp ?_ | with_reducible refine Mz.y_chain ?_ | (with_reducible refine (?_ : Mz.SatX _ _ _); simp only [List.set_cons_zero, List.set_cons_succ])) | (with_reducible refine (?_ : Mz.SatX _ (Mz.semBlt _ _ _) _); first | with_reducible refine Mz.p_ord ?_ | with_reducible refine Mz.p_max ?_ | with_reducible refine Mz.p_min ?_ | with_reducible refine Mz.p_abs ?_ | (with_reducible refine (?_ : Mz.SatX _ _ _); simp only [List.set_cons_zero, List.set_cons_succ])) | (with_reducible refine (?_ : Mz.SatX _ (Mz.Sm.j _ _ _ _) _); first | with_reducible refine Mz.j_cons ?_ | with_reducible refine Mz.j_nil ?_ | (with_reducible refine (?_ : Mz.SatX _ _ _); simp only [List.set_cons_zero, List.set_cons_succ])) | (with_reducible refine (?_ : Mz.SatX _ _ _); simp only [List.set_cons_zero, List.set_cons_succ]) | with_reducible refine ⟨_, _, _, _, _, _, rfl, (by walk_at "cl"), ?_⟩ | with_reducible refine ⟨(by simp only [List.length_cons, List.length_nil, PySem.sizeLine_eq]; omega : (List.length _ ≤ PySem.sizeLine)), ?_⟩))
local macro_rules | `(tactic| walk_at "st") => `(tactic| simp only [Mz.startG, List.map_cons, List.map_nil, List.length_cons, List.length_nil, Nat.reduceAdd, Nat.reduceSub, List.replicate, List.cons_append, List.nil_append, Nat.zero_add])
namespace Pt
open PySem PySem.Spec L2 Mz TL Rc
variable {prg : Prg} (H : HasT prg) {K : Nat} {S : Store} {pa pb pr : Nat} {a b : List Str} {rs : List (Row Str)}
theorem cut_lo {xs : List D} {i : Nat} : cutD xs (some (i : Int)) none = xs.drop i := by
  unfold cutD
  rw [HT.sIx_nat, HT.sIx_none]
  by_cases h : i ≤ xs.length
  · rw [Nat.min_eq_left h, List.take_of_length_le (by rw [List.length_drop]; exact Nat.le_refl _)]
  · rw [Nat.min_eq_right (by omega), List.drop_eq_nil_of_le (Nat.le_refl xs.length), List.drop_eq_nil_of_le (by omega), List.take_nil]
theorem cut_hi {xs : List D} {j : Nat} : cutD xs none (some (j : Int)) = xs.take j := by
  unfold cutD
  rw [HT.sIx_nat, HT.sIx_none, List.drop_zero, Nat.sub_zero]
  by_cases h : j ≤ xs.length
  · rw [Nat.min_eq_left h]
  · rw [Nat.min_eq_right (by omega), List.take_length, List.take_of_length_le (by omega)]
theorem p_listT {xs : List D} {S : Store} {Q : D → Store → Prop} {Y : Xc → Store → Prop} (q : Q (.loc S.length) (S ++ [.lst xs])) : SatX Y (semBlt .list1 [.tup xs] S) Q := q
theorem run_put {xs : List Str} {r : List (Row Str)} {l : List Str} : runR (.put xs :: r) l = (runR r l).map fun q => (xs ++ q.1, q.2) := by rw [runR]
theorem run_keep {n : Nat} {r : List (Row Str)} {l : List Str} : runR (.keep n :: r) l = if n ≤ l.length then (runR r (l.drop n)).map fun q => (l.take n ++ q.1, n + q.2) else none := by rw [runR]
theorem run_cut {n : Nat} {r : List (Row Str)} {l : List Str} : runR (.cut n :: r) l = if n ≤ l.length then runR r (l.drop n) else none := by rw [runR]
theorem app_d (out xs : List Str) : out.map D.str ++ xs.map D.str = (out ++ xs).map D.str := by rw [List.map_append]
def ledD (S' : Store) (lo : Nat) (d : D) : Option (List Str × Nat) → Prop
  | none => d = .tup [.non, .int 0]
  | some q => ∃ r : Nat, d = .tup [.loc r, .int (q.2 : Nat)] ∧ lo ≤ r ∧ PgAt S' r q.1
include H in
theorem ledK (hK : 1 ≤ K) (ha : PgAt S pa a) (hr : RowsAt' S pr rs) (la : a.length ≤ 60) (fa : Fine a) (fr : ∀ r ∈ rs, r.fine) (lr : rs.length ≤ 1000) :
    Sat (prg.run K "_law_led" [.loc pa, .loc pr] S) fun d S' => Old S S' ∧ ledD S' S.length d (runR rs a) := by
  obtain ⟨k, rfl⟩ := fuel hK
  rw [r__law_led H, sat_runBody]; unfold t__law_led
  walk_at "st"
  walk_at "go"
  refine p_list (app_at ha) ?_
  walk_at "go"
  have o1 : Old S (S ++ [Cell.lst []] ++ [Cell.lst (a.map .str)]) := Old.app.trans .app
  have f1 : PgAt (S ++ [Cell.lst []] ++ [Cell.lst (a.map .str)]) S.length [] := app_at new_at
  have l1 : PgAt (S ++ [Cell.lst []] ++ [Cell.lst (a.map .str)]) (S ++ [Cell.lst []]).length a := new_at
  have b1 : S.length ≤ (S ++ [Cell.lst []]).length := by rw [List.length_append]; omega
  generalize S ++ [Cell.lst []] ++ [Cell.lst (a.map .str)] = S1 at o1 f1 l1 ⊢
  generalize (S ++ [Cell.lst []]).length = rl at l1 b1 ⊢
  refine k_forS (i_vL (by with_unfolding_all exact rfl) (o1.at hr) ?_)
  rw [ib_lst (o1.at hr)]
  refine floop_at (xs := rs.map rowDD) (fun i g S' => Old S S' ∧ ∃ (rf rl k : Nat) (out left : List Str) (v5 v6 : Option D), g = [some (.loc pa), some (.loc pr), some (.loc rf), some (.int (k : Nat)), some (.loc rl), v5, v6] ∧ S.length ≤ rf ∧ S.length ≤ rl ∧ PgAt S' rf out ∧ PgAt S' rl left ∧ left.length ≤ 60 ∧ (∀ y ∈ left, y ∈ a) ∧ out.length ≤ 200 * i ∧
      runR rs a = (runR (rs.drop i) left).map fun q => (out ++ q.1, k + q.2))
    (fun i g S' p => is_lst (p.1.at hr)) (fun i d g S2 hi p => ?_) (fun g S' p => ?_) _ 0 _ _ (by omega) (Nat.zero_le _) ⟨o1, S.length, rl, 0, [], a, _, _, rfl, Nat.le_refl _, b1, f1, l1, la, fun _ h => h, Nat.le_refl _, by
      rw [List.drop_zero]
      cases runR rs a <;> simp⟩
  · obtain ⟨o2, rf, rl, kk, out, left, v5, v6, rfl, gf, gl, hf, hl, ll, sub, lo, er⟩ := p
    rw [List.getElem?_map] at hi
    cases hq : rs[i]? with
    | none => rw [hq] at hi; cases hi
    | some r =>
      rw [hq] at hi
      cases hi
      have hil := (List.getElem?_eq_some_iff.mp hq).1
      have fi := fr r (List.mem_of_getElem? hq)
      rw [List.drop_eq_getElem_cons hil, (List.getElem?_eq_some_iff.mp hq).2] at er
      refine sat_ok.mpr ?_
      simp only [List.set_cons_zero, List.set_cons_succ]
      refine k_cons (k_ifS (y_cmp ?_))
      walk_at "go"
      refine ⟨_, rfl, fun hp => ?_, fun hp => ?_⟩
      · cases r with
        | keep n => exact absurd hp (show ¬ decide (wd 0 = ("put" : Str)) = true by decide +kernel)
        | cut n => exact absurd hp (show ¬ decide (wd 1 = ("put" : Str)) = true by decide +kernel)
        | put xs =>
          show SatRX _ ((sem _ _).b [_, _, _, _, _, _, some (.tup (xs.map .str))] _) _ _ _ _
          walk_at "go"
          refine p_listT ?_
          refine p_addLL (app_at hf) new_at (by simp; have := fi.2; omega) ?_
          refine k_nil (k_nil ⟨(o2.trans .app).trans .app, _, rl, kk, out ++ xs, left, _, _, rfl, ?_, gl, by rw [app_d]; exact new_at, app_at (app_at hl), ll, sub, by have := fi.2; rw [List.length_append]; omega, ?_⟩)
          · have := o2.1; rw [List.length_append]; omega
          · rw [er, run_put, Option.map_map]
            congr 1
            funext q
            simp
      · obtain ⟨n, hn, en⟩ : ∃ n : Nat, rowA r = .int (n : Nat) ∧ n ≤ 120 := by
          cases r with
          | keep n => exact ⟨n, rfl, fi⟩
          | cut n => exact ⟨n, rfl, fi⟩
          | put xs => exact absurd hp (show ¬ decide (wd 2 = ("put" : Str)) = false by decide +kernel)
        rw [hn]
        refine k_cons (k_ifS (y_cmp ?_))
        walk_at "go"
        refine p_lenL hl ?_
        walk_at "go"
        rw [List.length_map]
        refine ⟨_, rfl, fun hw => ?_, fun hw => ?_⟩
        · have hw : ((left.length : Nat) : Int) < (n : Int) := of_decide_eq_true hw
          have e0 : runR rs a = none := by
            cases r with
            | keep _ =>
              cases hn
              rw [er, run_keep, if_neg (by omega)]; rfl
            | cut _ =>
              cases hn
              rw [er, run_cut, if_neg (by omega)]; rfl
            | put xs => cases hn
          walk_at "go"
          refine ⟨o2, ?_⟩
          rw [e0]
          exact rfl
        · have hw : ¬ ((left.length : Nat) : Int) < (n : Int) := of_decide_eq_false hw
          refine k_cons (k_ifS (y_cmp ?_))
          walk_at "go"
          refine ⟨_, rfl, fun hkp => ?_, fun hkp => ?_⟩
          · cases r with
            | cut n => exact absurd hkp (show ¬ decide (wd 1 = ("keep" : Str)) = true by decide +kernel)
            | put xs => cases hn
            | keep _ =>
              cases hn
              walk_at "go"
              refine x_sliT rfl ?_
              walk_at "go"
              refine ⟨_, rfl, p_cutL hl ?_⟩
              rw [cut_hi, ← List.map_take]
              refine p_addLL (app_at hf) new_at (by simp; omega) ?_
              walk_at "go"
              refine k_nil ?_
              walk_at "go"
              refine x_sliD rfl ?_
              walk_at "go"
              refine ⟨_, rfl, p_cutL (app_at (app_at hl)) ?_⟩
              rw [cut_lo, ← List.map_drop, app_d]
              refine k_nil (k_nil (k_nil ⟨((o2.trans .app).trans .app).trans .app, _, _, kk + n, out ++ left.take n, left.drop n, _, _, rfl, ?_, ?_, app_at new_at, new_at, by rw [List.length_drop]; omega, fun y hy => sub y (List.mem_of_mem_drop hy), by rw [List.length_append, List.length_take]; omega, ?_⟩))
              · have := o2.1; rw [List.length_append]; omega
              · have := o2.1; rw [List.length_append, List.length_append]; omega
              · rw [er, run_keep, if_pos (by omega), Option.map_map]
                congr 1
                funext q
                simp only [Function.comp_apply, List.append_assoc]
                congr 1
                omega
          · cases r with
            | keep n => exact absurd hkp (show ¬ decide (wd 0 = ("keep" : Str)) = false by decide +kernel)
            | put xs => cases hn
            | cut _ =>
              cases hn
              refine k_nil ?_
              walk_at "go"
              refine x_sliD rfl ?_
              walk_at "go"
              refine ⟨_, rfl, p_cutL hl ?_⟩
              rw [cut_lo, ← List.map_drop]
              refine k_nil (k_nil (k_nil ⟨o2.trans .app, rf, _, kk, out, left.drop n, _, _, rfl, gf, ?_, app_at hf, new_at, by rw [List.length_drop]; omega, fun y hy => sub y (List.mem_of_mem_drop hy), by omega, ?_⟩))
              · have := o2.1; omega
              · rw [er, run_cut, if_pos (by omega)]
  · obtain ⟨o2, rf, rl, kk, out, left, v5, v6, rfl, gf, gl, hf, hl, ll, sub, lo, er⟩ := p
    rw [List.length_map, List.drop_length] at er
    refine k_cons (k_retS (x_if (y_cmp ?_)))
    walk_at "go"
    have fl : ∀ y ∈ left, y ∈ a := fun y hy => sub y hy
    refine p_neNil (k := 1) (app_at hl) new_at (by decide) (fun y hy => ?_) (by decide) ⟨_, rfl, fun z => ?_, fun z => ?_⟩
    · obtain ⟨w, hw, rfl⟩ := List.mem_map.mp hy
      exact pd_str (fa w (fl w hw))
    · have hne : left ≠ [] := by
        intro q; rw [q] at z; cases z
      walk_at "go"
      refine ⟨o2.trans .app, ?_⟩
      have : runR ([] : List (Row Str)) left = none := by
        cases left with
        | nil => exact absurd rfl hne
        | cons y ys => rw [runR]
      rw [er, this]
      exact rfl
    · have he : left = [] := by
        cases left with
        | nil => rfl
        | cons y ys => cases z
      subst he
      walk_at "go"
      refine ⟨o2.trans .app, ?_⟩
      have : runR ([] : List (Row Str)) [] = some ([], 0) := by rw [runR]
      rw [er, this]
      refine ⟨rf, rfl, gf, ?_⟩
      show PgAt _ rf (out ++ [])
      rw [List.append_nil]
      exact app_at hf
end Pt

end

section
set_option Elab.async false
set_option linter.all false
set_option maxRecDepth 100000
set_option maxHeartbeats 4000000
local macro_rules | `(tactic| walk_at "cl") => `(tactic| first | assumption | exact Mz.new_at | exact Mz.set_at (by walk_at "cl") | exact Mz.app_at (by walk_at "cl") | exact Mz.Grow.at ‹_› (by walk_at "cl"))
local macro_rules | `(tactic| walk_at "go") => `(tactic| repeat (first | (with_reducible refine (?_ : Mz.SatX _ (Mz.Sm.e (Mz.sem _ (Mz.T.var _)) _ _) _); first | (with_reducible refine (?_ : Mz.SatX _ _ _); simp only [List.set_cons_zero, List.set_cons_succ]) | with_reducible refine Mz.x_var (by with_unfolding_all exact rfl) ?_) | (with_reducible refine (?_ : Mz.SatRX _ _ _ _ _ _); first | with_reducible refine Mz.k_cons ?_ | with_reducible refine Mz.k_asgS ?_ | with_reducible refine Mz.k_retS ?_ | with_reducible refine Mz.k_exS ?_) | (with_reducible refine (?_ : Mz.SatX _ (Mz.Sm.e _ _ _) _); first | with_reducible refine Mz.x_int ?_ | with_reducible refine Mz.x_str ?_ | with_reducible refine Mz.x_bin ?_ | with_reducible refine Mz.x_cmp ?_ | with_reducible refine Mz.x_sub ?_ | with_reducible refine Mz.x_call ?_ | with_reducible refine Mz.x_blt ?_ | with_reducible refine Mz.x_tup ?_ | with_reducible refine Mz.x_lst ?_ | with_reducible refine Mz.x_bl ?_ | with_reducible refine Mz.x_non ?_ | with_reducible refine Mz.x_fst ?_ | with_reducible refine Mz.x_fmt ?_ | with_reducible refine Mz.x_chain ?_ | (with_reducible refine (?_ : Mz.SatX _ _ _); simp only [List.set_cons_zero, List.set_cons_succ])) | (with_reducible refine (?_ : Mz.SatX _ (Mz.Sm.a _ _ _) _); first | with_reducible refine Mz.x_cons ?_ | with_reducible refine Mz.x_nil ?_ | (with_reducible refine (?_ : Mz.SatX _ _ _); simp only [List.set_cons_zero, List.set_cons_succ])) | (with_reducible refine (?_ : Mz.SatX _ (Mz.semItem _ _ _) _); first | with_reducible refine Mz.p_itT (by decide) rfl ?_ | (with_reducible refine (?_ : Mz.SatX _ _ _); simp only [List.set_cons_zero, List.set_cons_succ])) | (with_reducible refine (?_ : Mz.SatX _ (Mz.semBop _ _ _ _) _); first | with_reducible refine Mz.p_add ?_ | with_reducible refine Mz.p_sub ?_ | (with_reducible refine (?_ : Mz.SatX _ _ _); simp only [List.set_cons_zero, List.set_cons_succ])) | (with_reducible refine (?_ : Mz.SatX _ (Mz.semCop _ _ _ _) _); first | with_reducible refine Mz.p_eqI ?_ | with_reducible refine Mz.p_neI ?_ | with_reducible refine Mz.p_eqS ?_ | with_reducible refine Mz.p_neS ?_ | with_reducible refine Mz.p_lt ?_ | with_reducible refine Mz.p_le ?_ | with_reducible refine Mz.p_ge ?_ | with_reducible refine Mz.p_gt ?_ | with_reducible refine Mz.p_leS ?_ | with_reducible refine Mz.p_is ?_ | with_reducible refine Mz.p_isnot ?_ | (with_reducible refine (?_ : Mz.SatX _ _ _); simp only [List.set_cons_zero, List.set_cons_succ])) | (with_reducible refine (?_ : Mz.SatX _ (Mz.Sm.t _ _ _) _); first | with_reducible refine Mz.y_cmp ?_ | with_reducible refine Mz.y_chain ?_ | (with_reducible refine (?_ : Mz.SatX _ _ _); simp only [List.set_cons_zero, List.set_cons_succ])) | (with_reducible refine (?_ : Mz.SatX _ (Mz.semBlt _ _ _) _); first | with_reducible refine Mz.p_ord ?_ | with_reducible refine Mz.p_max ?_ | with_reducible refine Mz.p_min ?_ | with_reducible refine Mz.p_abs ?_ | (with_reducible refine (?_ : Mz.SatX _ _ _); simp only [List.set_cons_zero, List.set_cons_succ])) | (with_reducible refine (?_ : Mz.SatX _ (Mz.Sm.j _ _ _ _) _); first | with_reducible refine Mz.j_cons ?_ | with_reducible refine Mz.j_nil ?_ | (with_reducible refine (?_ : Mz.SatX _ _ _); simp only [List.set_cons_zero, List.set_cons_succ])) | (with_reducible refine (?_ : Mz.SatX _ _ _); simp only [List.set_cons_zero, List.set_cons_succ]) | with_reducible refine ⟨_, _, _, _, _, _, rfl, (by walk_at "cl"), ?_⟩ | with_reducible refine ⟨(by simp only [List.length_cons, List.length_nil, PySem.sizeLine_eq]; omega : (List.length _ ≤ PySem.sizeLine)), ?_⟩))
local macro_rules | `(tactic| walk_at "st") => `(tactic| simp only [Mz.startG, List.map_cons, List.map_nil, List.length_cons, List.length_nil, Nat.reduceAdd, Nat.reduceSub, List.replicate, List.cons_append, List.nil_append, Nat.zero_add])
namespace Pt
open PySem PySem.Spec L2 Mz TL Rc
variable {prg : Prg} (H : HasT prg) {K : Nat} {S : Store} {pa pb pr : Nat} {a b : List Str} {rs : List (Row Str)} {Q : D → Store → Prop} {Y : Xc → Store → Prop}
theorem p_isS {x : Str} (q : Q (.bl true) S) : SatX Y (semIsi .str (.str x) S) Q := q
theorem eq_py {d e : D} {p q : PyData} (hd : flatD d = false ∨ flatD e = false ∨ (d = .non ∧ e ≠ .non) ∨ (e = .non ∧ d ≠ .non)) (h1 : toPy S 70 d = some p) (h2 : toPy S 70 e = some q) (s1 : SeqAt.shaped p = true) (s2 : SeqAt.shaped q = true) : eqD d e S = some (PyData.eqv p q) := by
  have : eqD d e S = (match toPy S 70 d, toPy S 70 e with
    | some p, some q => if (SeqAt.shaped p && SeqAt.shaped q) = true then some (PyData.eqv p q) else none
    | _, _ => none) := by
    rcases hd with h | h | ⟨rfl, h⟩ | ⟨rfl, h⟩
    · cases d <;> first | exact Bool.noConfusion h | (cases e <;> rfl)
    · cases e <;> first | exact Bool.noConfusion h | (cases d <;> rfl)
    · cases e <;> first | exact absurd rfl h | rfl
    · cases d <;> first | exact absurd rfl h | rfl
  rw [this, h1, h2]
  simp only [s1, s2, Bool.and_self, if_true]
/-- a text is not None -/
theorem p_eqSN {x : Str} (ok : PyData.strOk x = true) (q : Q (.bl false) S) : SatX Y (semCop .eq (.str x) .non S) Q := by
  obtain ⟨p, h1, h2, h3⟩ := pd_str ok
  have e1 : toPy S 70 (.str x) = some (.str x) := rfl
  have : eqD (.str x) .non S = some false := by
    rw [eq_py (p := .str x) (q := .none) (.inr (.inr (.inr ⟨rfl, by intro z; cases z⟩))) e1 rfl (by have := h1 S 70 (by decide); rw [e1] at this; cases this; exact shaped_of h2 h3 (by decide)) (by decide)]
    rfl
  unfold semCop
  simp only [this]
  exact q
theorem tup_py {k : Nat} {xs : List D} (hk : 0 < k) (h : ∀ x ∈ xs, PD k x) (hk2 : k ≤ 60) : ∃ ps, toPy S 70 (.tup xs) = some (.tuple ps) ∧ SeqAt.shaped (.tuple ps) = true ∧ (ps = [] ↔ xs = []) := by
  obtain ⟨ps, g1, g2, g3⟩ := pd_all hk h
  have e : toPy S 70 (.tup xs) = some (.tuple ps) := by
    show (xs.mapM (toPy S 69)).map PyData.tuple = _
    rw [g1 S 69 (by omega)]; rfl
  refine ⟨ps, e, shaped_of (k := k + 1) g2 (show PyData.depthAll ps + 1 < k + 1 by omega) (by omega), ?_⟩
  have := g1 S 69 (by omega)
  constructor
  · rintro rfl
    cases xs with
    | nil => rfl
    | cons x xs =>
      rw [List.mapM_cons] at this
      cases e1 : toPy S 69 x with
      | none => rw [e1] at this; cases this
      | some p =>
        cases e2 : xs.mapM (toPy S 69) with
        | none => rw [e1, e2] at this; cases this
        | some qs => rw [e1, e2] at this; cases this
  · rintro rfl
    cases this; rfl
theorem eqv_tnil (ps : List PyData) : PyData.eqv (.tuple ps) (.tuple []) = ps.isEmpty := by
  cases ps <;> rfl
theorem p_eqT0 {k : Nat} {xs : List D} (hk : 0 < k) (h : ∀ x ∈ xs, PD k x) (hk2 : k ≤ 60) (q : Q (.bl xs.isEmpty) S) : SatX Y (semCop .eq (.tup xs) (.tup []) S) Q := by
  obtain ⟨ps, e1, e2, e3⟩ := tup_py (S := S) hk h hk2
  refine p_eqTP e1 (show toPy S 70 (.tup []) = some (.tuple []) from rfl) e2 (by decide) ?_
  rw [eqv_tnil]
  have : ps.isEmpty = xs.isEmpty := by
    cases ps with
    | nil => rw [e3.mp rfl]; rfl
    | cons p ps =>
      cases xs with
      | nil => cases e3.mpr rfl
      | cons x xs => rfl
  rw [this]; exact q
theorem p_neT0 {k : Nat} {xs : List D} (hk : 0 < k) (h : ∀ x ∈ xs, PD k x) (hk2 : k ≤ 60) (q : Q (.bl (!xs.isEmpty)) S) : SatX Y (semCop .ne (.tup xs) (.tup []) S) Q := by
  obtain ⟨ps, e1, e2, e3⟩ := tup_py (S := S) hk h hk2
  refine p_neTP e1 (show toPy S 70 (.tup []) = some (.tuple []) from rfl) e2 (by decide) ?_
  rw [eqv_tnil]
  have : ps.isEmpty = xs.isEmpty := by
    cases ps with
    | nil => rw [e3.mp rfl]; rfl
    | cons p ps =>
      cases xs with
      | nil => cases e3.mpr rfl
      | cons x xs => rfl
  rw [this]; exact q
include H in
theorem wholeK {i : Int} (hK : 1 ≤ K) : Sat (prg.run K "is_whole" [.int i] S) fun d S' => d = .bl true ∧ S' = S := by
  obtain ⟨k, rfl⟩ := fuel hK
  rw [r_is_whole H, sat_runBody]; unfold t_is_whole
  walk_at "st"
  refine k_cons (k_retS (x_and (x_isi ?_)))
  walk_at "go"
  refine p_isI ⟨_, rfl, fun _ => x_not (x_isi ?_), fun z => by cases z⟩
  walk_at "go"
  exact p_isIB ⟨_, rfl, rfl, rfl⟩
include H in
theorem lawWholeK {i : Int} (hK : 1 ≤ K) : Sat (prg.run K "_law_whole" [.int i] S) fun d S' => d = .bl true ∧ S' = S := by
  obtain ⟨k, rfl⟩ := fuel hK
  rw [r__law_whole H, sat_runBody]; unfold t__law_whole
  walk_at "st"
  refine k_cons (k_retS (x_and (x_isi ?_)))
  walk_at "go"
  refine p_isI ⟨_, rfl, fun _ => x_not (x_isi ?_), fun z => by cases z⟩
  walk_at "go"
  exact p_isIB ⟨_, rfl, rfl, rfl⟩
theorem in_kc (n : Nat) (hn : n < 3) : ([D.str "keep", .str "cut"].any fun y => eqF y (.str (wd n))) = decide (n < 2) := by
  have : ∀ m : Fin 3, ([D.str "keep", .str "cut"].any fun y => eqF y (.str (wd m))) = decide (m.val < 2) := by decide +kernel
  exact this ⟨n, hn⟩
theorem all_rep (n : Nat) : (List.replicate n true).all id = true := by
  induction n with
  | zero => rfl
  | succ n ih => rw [List.replicate_succ, List.all_cons, ih]; rfl
include H in
theorem isRowK {r : Row Str} (hK : 2 ≤ K) (ok : r.ok) (fi : r.fine) : Sat (prg.run K "is_row" [rowDD r] S) fun d S' => d = .bl true ∧ Old S S' := by
  obtain ⟨k, rfl⟩ := fuel hK
  rw [r_is_row H, sat_runBody]; unfold t_is_row rowDD
  walk_at "st"
  refine k_cons (k_ifS (y_or (y_not (y_isi ?_))))
  walk_at "go"
  refine p_isT ⟨_, rfl, fun z => (by cases z), fun _ => y_cmp ?_⟩
  walk_at "go"
  refine p_lenT ?_
  walk_at "go"
  refine ⟨_, rfl, fun z => (by cases z), fun _ => k_nil ?_⟩
  refine k_cons (k_asgT2 ?_)
  walk_at "go"
  refine ⟨_, _, rfl, ?_⟩
  refine k_cons (k_ifS (y_cmp ?_))
  walk_at "go"
  refine p_inT rfl ⟨_, rfl, fun z => ?_, fun z => ?_⟩
  · rw [in_kc _ (row_lt r)] at z
    have z := of_decide_eq_true z
    obtain ⟨n, hn, en⟩ : ∃ n : Nat, rowA r = .int (n : Nat) ∧ 0 < n := by
      cases r with
      | keep n => exact ⟨n, rfl, ok⟩
      | cut n => exact ⟨n, rfl, ok⟩
      | put xs => exact absurd z (by simp [Row.w])
    rw [hn]
    refine k_cons (k_retS (x_and ?_))
    walk_at "go"
    refine (wholeK H (by omega)).mono fun d S1 h => ?_
    obtain ⟨rfl, rfl⟩ := h
    refine ⟨_, rfl, fun _ => ?_, fun z => by cases z⟩
    walk_at "go"
    exact ⟨by rw [decide_eq_true (by omega)], .refl _⟩
  · rw [in_kc _ (row_lt r)] at z
    have z := of_decide_eq_false z
    cases r with
    | keep n => exact absurd (show (0 : Nat) < 2 by decide) z
    | cut n => exact absurd (show (1 : Nat) < 2 by decide) z
    | put xs =>
      have ok : xs ≠ [] := ok
      refine k_nil ?_
      refine k_cons (k_retS (x_and ?_))
      walk_at "go"
      refine ⟨_, rfl, fun _ => ?_, fun z => absurd z (show ¬ decide (wd 2 = ("put" : Str)) = false by decide +kernel)⟩
      refine x_and (x_isi ?_)
      walk_at "go"
      refine p_isT ⟨_, rfl, fun _ => ?_, fun z => by cases z⟩
      refine x_and ?_
      walk_at "go"
      refine p_neT0 (k := 1) (by decide) (fun y hy => ?_) (by decide) ⟨_, rfl, fun _ => ?_, fun z => ?_⟩
      · obtain ⟨w, hw, rfl⟩ := List.mem_map.mp hy
        exact pd_str (fi.1 w hw)
      · refine x_blt (x_cons (x_lc (i_vT (by with_unfolding_all exact rfl) ?_)))
        have hl : (xs.map D.str).length = xs.length := List.length_map ..
        refine lcLoop_vals (xs := xs.map .str) (fun i acc S' => acc = (List.replicate i true).map D.bl ∧ S' = S) (fun i d acc S' hi p => ?_) (fun acc S' p => ?_) _ 0 [] S (by show _ + (_ + 1) = _; omega) (Nat.zero_le _) ⟨rfl, rfl⟩
        · obtain ⟨rfl, rfl⟩ := p
          have hil := (List.getElem?_eq_some_iff.mp hi).1
          rw [List.getElem?_map] at hi
          cases hx : xs[i]? with
          | none => rw [hx] at hi; cases hi
          | some x =>
            rw [hx] at hi
            cases hi
            refine sat_ok.mpr (sat_ok.mpr ⟨fun _ => x_isi ?_, fun z => by cases z⟩)
            refine x_var (by with_unfolding_all exact rfl) ?_
            refine p_isS ⟨?_, ?_, rfl⟩
            · have := fi.2; rw [List.length_map, List.length_replicate, sizeLine_eq]; omega
            · rw [List.replicate_succ', List.map_append]; rfl
        · obtain ⟨rfl, rfl⟩ := p
          walk_at "go"
          refine p_all new_at ?_
          rw [all_rep]
          exact ⟨rfl, .app⟩
      · cases xs with
        | nil => exact absurd rfl ok
        | cons x xs => cases z
include H in
theorem formK (hK : 2 ≤ K) (hr : RowsAt' S pr rs) (al : Alt rs) (fr : ∀ r ∈ rs, r.ok ∧ r.fine) : Sat (prg.run K "_law_form" [.loc pr] S) fun d S' => d = .bl true ∧ Old S S' := by
  obtain ⟨k, rfl⟩ := fuel hK
  rw [r__law_form H, sat_runBody]; unfold t__law_form
  walk_at "st"
  refine k_cons (k_ifS (y_not (y_isi ?_)))
  walk_at "go"
  refine p_isL hr ⟨_, rfl, fun z => (by cases z), fun _ => k_nil ?_⟩
  walk_at "go"
  refine k_forS (i_vL (by with_unfolding_all exact rfl) hr ?_)
  rw [ib_lst hr]
  refine floop_at (xs := rs.map rowDD) (fun i g S' => (∃ l v2 v3 v4, g = [some (.loc pr), some l, v2, v3, v4] ∧ ((i = 0 ∧ l = .non) ∨ ∃ r, 0 < i ∧ rs[i - 1]? = some r ∧ l = .str (wd r.w))) ∧ Old S S')
    (fun i g S' p => is_lst (p.2.at hr)) (fun i d g S2 hi p => ?_) (fun g S' p => ?_) _ 0 _ _ (by omega) (Nat.zero_le _) ⟨⟨_, _, _, _, rfl, .inl ⟨rfl, rfl⟩⟩, .refl _⟩
  rotate_left
  · obtain ⟨⟨l, v2, v3, v4, rfl, _⟩, o2⟩ := p
    walk_at "go"
    exact ⟨rfl, o2⟩
  obtain ⟨⟨l, v2, v3, v4, rfl, hlast⟩, o2⟩ := p
  rw [List.getElem?_map] at hi
  cases hq : rs[i]? with
  | none => rw [hq] at hi; cases hi
  | some r =>
    rw [hq] at hi
    cases hi
    obtain ⟨ok, fi⟩ := fr r (List.mem_of_getElem? hq)
    refine sat_ok.mpr ?_
    simp only [List.set_cons_zero, List.set_cons_succ]
    unfold rowDD
    refine k_cons (k_ifS (y_or (y_not (y_isi ?_))))
    walk_at "go"
    refine p_isT ⟨_, rfl, fun z => (by cases z), fun _ => y_cmp ?_⟩
    walk_at "go"
    refine p_lenT ?_
    walk_at "go"
    refine ⟨_, rfl, fun z => (by cases z), fun _ => k_nil ?_⟩
    refine k_cons (k_ifS (y_or (y_not (y_isi ?_))))
    walk_at "go"
    refine p_isS ⟨_, rfl, fun z => (by cases z), fun _ => y_cmp ?_⟩
    walk_at "go"
    have eql : SatX (fun _ _ => False) (semCop .eq (.str (wd r.w)) l S2) fun d S' => d = .bl false ∧ S' = S2 := by
      rcases hlast with ⟨_, rfl⟩ | ⟨r0, h0, h1, rfl⟩
      · exact p_eqSN (wd_ok _) ⟨rfl, rfl⟩
      · refine p_eqS ⟨?_, rfl⟩
        have ne : r0.w ≠ r.w := by
          clear ok fi fr hr
          obtain ⟨j, rfl⟩ : ∃ j, i = j + 1 := ⟨i - 1, by omega⟩
          have h1 : rs[j]? = some r0 := h1
          have key : ∀ (rs : List (Row Str)) (j : Nat) (x y : Row Str), Alt rs → rs[j]? = some x → rs[j + 1]? = some y → x.w ≠ y.w := by
            intro rs
            induction rs with
            | nil => intro j x y _ h; simp at h
            | cons u rs ih =>
              intro j x y al hx hy
              cases rs with
              | nil => simp at hy
              | cons v rs =>
                have al : u.w ≠ v.w ∧ Alt (v :: rs) := al
                cases j with
                | zero =>
                  have hx : u = x := by simpa using hx
                  have hy : v = y := by simpa using hy
                  subst hx hy
                  exact al.1
                | succ j => exact ih j x y al.2 (by simpa using hx) (by simpa using hy)
          exact key rs j r0 r al h1 hq
        rw [wd_eq ⟨r.w, row_lt r⟩ ⟨r0.w, row_lt r0⟩]
        rw [decide_eq_false (fun z => ne z.symm)]
    refine eql.mono fun d S3 h => ?_
    obtain ⟨rfl, rfl⟩ := h
    refine ⟨_, rfl, fun z => (by cases z), fun _ => k_nil ?_⟩
    refine k_cons (k_asgT2 ?_)
    walk_at "go"
    refine ⟨_, _, rfl, ?_⟩
    have nx : ∀ {v4 : Option D} {S' : Store}, Old S S' → (∃ l' v2' v3' v4', ([some (.loc pr), some (.str (wd r.w)), some (.tup [.str (wd r.w), rowA r]), some (rowA r), v4] : Sg) = [some (.loc pr), some l', v2', v3', v4'] ∧ ((i + 1 = 0 ∧ l' = .non) ∨ ∃ r, 0 < i + 1 ∧ rs[i + 1 - 1]? = some r ∧ l' = .str (wd r.w))) ∧ Old S S' := fun o => ⟨⟨_, _, _, _, rfl, .inr ⟨r, by omega, hq, rfl⟩⟩, o⟩
    refine k_cons (k_ifS (y_cmp ?_))
    walk_at "go"
    refine p_inT rfl ⟨_, rfl, fun z => ?_, fun z => ?_⟩
    · rw [in_kc _ (row_lt r)] at z
      have z := of_decide_eq_true z
      obtain ⟨n, hn, en⟩ : ∃ n : Nat, rowA r = .int (n : Nat) ∧ 0 < n := by
        cases r with
        | keep n => exact ⟨n, rfl, ok⟩
        | cut n => exact ⟨n, rfl, ok⟩
        | put xs => exact absurd z (by simp [Row.w])
      rw [hn] at nx ⊢
      refine k_cons (k_ifS (y_or (y_not (y_callB ?_))))
      walk_at "go"
      refine (lawWholeK H (by omega)).mono fun d S3 h => ?_
      obtain ⟨rfl, rfl⟩ := h
      refine ⟨_, rfl, fun z => (by cases z), fun _ => y_cmp ?_⟩
      walk_at "go"
      refine ⟨_, rfl, fun z => ?_, fun _ => k_nil (k_nil (k_nil (nx o2)))⟩
      have z : (n : Int) < 1 := of_decide_eq_true z
      omega
    · rw [in_kc _ (row_lt r)] at z
      have z := of_decide_eq_false z
      cases r with
      | keep n => exact absurd (show (0 : Nat) < 2 by decide) z
      | cut n => exact absurd (show (1 : Nat) < 2 by decide) z
      | put xs =>
        have ok : xs ≠ [] := ok
        refine k_cons (k_ifS (y_or (y_cmp ?_)))
        walk_at "go"
        refine ⟨_, rfl, fun z => absurd z (show ¬ (!decide (wd 2 = ("put" : Str))) = true by decide +kernel), fun _ => y_or (y_not (y_isi ?_))⟩
        walk_at "go"
        refine p_isT ⟨_, rfl, fun z => (by cases z), fun _ => y_cmp ?_⟩
        walk_at "go"
        refine p_eqT0 (k := 1) (by decide) (fun y hy => ?_) (by decide) ⟨_, rfl, fun z => ?_, fun _ => ?_⟩
        · obtain ⟨w, hw, rfl⟩ := List.mem_map.mp hy
          exact pd_str (fi.1 w hw)
        · cases xs with
          | nil => exact absurd rfl ok
          | cons x xs => cases z
        · refine k_cons (k_ifS (y_cmp (x_lc (i_vT (by with_unfolding_all exact rfl) ?_))))
          have hl : (xs.map D.str).length = xs.length := List.length_map ..
          refine lcLoop_vals (xs := xs.map .str) (fun i acc S' => acc = [] ∧ S' = S3) (fun i d acc S' hi p => ?_) (fun acc S' p => ?_) _ 0 [] S3 (by show _ + (_ + 1) = _; omega) (Nat.zero_le _) ⟨rfl, rfl⟩
          · obtain ⟨rfl, rfl⟩ := p
            rw [List.getElem?_map] at hi
            cases hx : xs[i]? with
            | none => rw [hx] at hi; cases hi
            | some x =>
              rw [hx] at hi
              cases hi
              refine sat_ok.mpr ?_
              rw [show ∀ E : PEnv, (sem E (.cons (.nt (.isi .str (.var 4))) .nil)).t = (sem E (.nt (.isi .str (.var 4)))).t from fun _ => rfl]
              refine y_not (y_isi ?_)
              refine x_var (by with_unfolding_all exact rfl) ?_
              exact p_isS ⟨_, rfl, fun z => (by cases z), fun _ => ⟨rfl, rfl⟩⟩
          · obtain ⟨rfl, rfl⟩ := p
            walk_at "go"
            refine p_neNil (k := 1) (app_at new_at) new_at (by decide) (fun _ h => by cases h) (by decide) ⟨_, rfl, fun z => (by cases z), fun _ => k_nil (k_nil (k_nil (k_nil (nx ((o2.trans .app).trans .app)))))⟩
end Pt

end

section
set_option Elab.async false
set_option linter.all false
set_option maxRecDepth 100000
set_option maxHeartbeats 4000000
local macro_rules | `(tactic| walk_at "cl") => `(tactic| first | assumption | exact Mz.new_at | exact Mz.set_at (by walk_at "cl") | exact Mz.app_at (by walk_at "cl") | exact Mz.Grow.at ‹_› (by walk_at "cl"))
local macro_rules | `(tactic| walk_at "go") => `(tactic| repeat (first | (with_reducible refine (?_ : Mz.SatX _ (Mz.Sm.e (Mz.sem _ (Mz.T.var _)) _ _) _); first | (with_reducible refine (?_ : Mz.SatX _ _ _); simp only [List.set_cons_zero, List.set_cons_succ]) | with_reducible refine Mz.x_var (by with_unfolding_all exact rfl) ?_) | (with_reducible refine (?_ : Mz.SatRX _ _ _ _ _ _); first | with_reducible refine Mz.k_cons ?_ | with_reducible refine Mz.k_asgS ?_ | with_reducible refine Mz.k_retS ?_ | with_reducible refine Mz.k_exS ?_) | (with_reducible refine (?_ : Mz.SatX _ (Mz.Sm.e _ _ _) _); first | with_reducible refine Mz.x_int ?_ | with_reducible refine Mz.x_str ?_ | with_reducible refine Mz.x_bin ?_ | with_reducible refine Mz.x_cmp ?_ | with_reducible refine Mz.x_sub ?_ | with_reducible refine Mz.x_call ?_ | with_reducible refine Mz.x_blt ?_ | with_reducible refine Mz.x_tup ?_ | with_reducible refine Mz.x_lst ?_ | with_reducible refine Mz.x_bl ?_ | with_reducible refine Mz.x_non ?_ | with_reducible refine Mz.x_fst ?_ | with_reducible refine Mz.x_fmt ?_ | with_reducible refine Mz.x_chain ?_ | (with_reducible refine (?_ : Mz.SatX _ _ _); simp only [List.set_cons_zero, List.set_cons_succ])) | (with_reducible refine (?_ : Mz.SatX _ (Mz.Sm.a _ _ _) _); first | with_reducible refine Mz.x_cons ?_ | with_reducible refine Mz.x_nil ?_ | (with_reducible refine (?_ : Mz.SatX _ _ _); simp only [List.set_cons_zero, List.set_cons_succ])) | (with_reducible refine (?_ : Mz.SatX _ (Mz.semItem _ _ _) _); first | with_reducible refine Mz.p_itT (by decide) rfl ?_ | (with_reducible refine (?_ : Mz.SatX _ _ _); simp only [List.set_cons_zero, List.set_cons_succ])) | (with_reducible refine (?_ : Mz.SatX _ (Mz.semBop _ _ _ _) _); first | with_reducible refine Mz.p_add ?_ | with_reducible refine Mz.p_sub ?_ | (with_reducible refine (?_ : Mz.SatX _ _ _); simp only [List.set_cons_zero, List.set_cons_succ])) | (with_reducible refine (?_ : Mz.SatX _ (Mz.semCop _ _ _ _) _); first | with_reducible refine Mz.p_eqI ?_ | with_reducible refine Mz.p_neI ?_ | with_reducible refine Mz.p_eqS ?_ | with_reducible refine Mz.p_neS ?_ | with_reducible refine Mz.p_lt ?_ | with_reducible refine Mz.p_le ?_ | with_reducible refine Mz.p_ge ?_ | with_reducible refine Mz.p_gt ?_ | with_reducible refine Mz.p_leS ?_ | with_reducible refine Mz.p_is ?_ | with_reducible refine Mz.p_isnot ?_ | (with_reducible refine (?_ : Mz.SatX _ _ _); simp only [List.set_cons_zero, List.set_cons_succ])) | (with_reducible refine (?_ : Mz.SatX _ (Mz.Sm.t _ _ _) _); first | with_reducible refine Mz.y_cmp ?_ | with_reducible refine Mz.y_chain ?_ | (with_reducible refine (?_ : Mz.SatX _ _ _); simp only [List.set_cons_zero, List.set_cons_succ])) | (with_reducible refine (?_ : Mz.SatX _ (Mz.semBlt _ _ _) _); first | with_reducible refine Mz.p_ord ?_ | with_reducible refine Mz.p_max ?_ | with_reducible refine Mz.p_min ?_ | with_reducible refine Mz.p_abs ?_ | (with_reducible refine (?_ : Mz.SatX _ _ _); simp only [List.set_cons_zero, List.set_cons_succ])) | (with_reducible refine (?_ : Mz.SatX _ (Mz.Sm.j _ _ _ _) _); first | with_reducible refine Mz.j_cons ?_ | with_reducible refine Mz.j_nil ?_ | (with_reducible refine (?_ : Mz.SatX _ _ _); simp only [List.set_cons_zero, List.set_cons_succ])) | (with_reducible refine (?_ : Mz.SatX _ _ _); simp only [List.set_cons_zero, List.set_cons_succ]) | with_reducible refine ⟨_, _, _, _, _, _, rfl, (by walk_at "cl"), ?_⟩ | with_reducible refine ⟨(by simp only [List.length_cons, List.length_nil, PySem.sizeLine_eq]; omega : (List.length _ ≤ PySem.sizeLine)), ?_⟩))
local macro_rules | `(tactic| walk_at "st") => `(tactic| simp only [Mz.startG, List.map_cons, List.map_nil, List.length_cons, List.length_nil, Nat.reduceAdd, Nat.reduceSub, List.replicate, List.cons_append, List.nil_append, Nat.zero_add])
namespace Pt
open PySem PySem.Spec L2 Mz TL Rc
variable {prg : Prg} (H : HasT prg) {K : Nat} {S : Store} {pa pb pr : Nat} {a b : List Str} {rs : List (Row Str)} {Q : D → Store → Prop} {Y : Xc → Store → Prop}
/-- rows of numbers, wherever they stand -/
def Tb (S : Store) (r : Nat) (rows : List (List Nat)) : Prop := ∃ ls : List Nat, S[r]? = some (Cell.lst (ls.map .loc)) ∧ All2 (fun l row => S[l]? = some (Cell.lst (rowD row))) ls rows
theorem Tab.tb {lo r : Nat} {rows : List (List Nat)} (h : Tab S lo r rows) : Tb S r rows := by
  obtain ⟨ls, e, _, _, _, _, al⟩ := h.at_
  exact ⟨ls, e, al⟩
theorem Tab.old {S S' : Store} {lo r : Nat} {rows : List (List Nat)} (h : Tab S lo r rows) (o : Old S S') : Tab S' lo r rows := by
  obtain ⟨ls, e, h1, h2, h3, h4, al⟩ := h.at_
  exact ⟨ls, o.at e, h1, h2, h3, h4, al.imp fun _ _ q => o.at q⟩
theorem Tb.old {S S' : Store} {r : Nat} {rows : List (List Nat)} (h : Tb S r rows) (o : Old S S') : Tb S' r rows := by
  obtain ⟨ls, e, al⟩ := h
  exact ⟨ls, o.at e, al.imp fun _ _ q => o.at q⟩
def pyT (rows : List (List Nat)) : PyData := .list (rows.map fun r => .list ((r.map Int.ofNat).map PyData.int))
theorem rowD_int (r : List Nat) : rowD r = (r.map Int.ofNat).map D.int := by
  unfold rowD
  rw [List.map_map]; rfl
theorem tb_py {r : Nat} {rows : List (List Nat)} (h : Tb S r rows) : toPy S 70 (.loc r) = some (pyT rows) := by
  obtain ⟨ls, e, al⟩ := h
  rw [show (70 : Nat) = 69 + 1 from rfl, py_loc e]
  have : (ls.map D.loc).mapM (toPy S 69) = some (rows.map fun r => .list ((r.map Int.ofNat).map PyData.int)) := by
    clear e
    induction al with
    | nil => rfl
    | cons h1 _ ih =>
      rw [List.map_cons, List.mapM_cons, ih, show (69 : Nat) = 68 + 1 from rfl, py_loc h1, rowD_int, show (68 : Nat) = 67 + 1 from rfl, py_ints]
      rfl
  rw [this]
  rfl
theorem pyT_lay (rows : List (List Nat)) : PyData.canLay0 (pyT rows) = true ∧ PyData.depth (pyT rows) < 3 := by
  have key : PyData.canLayAll0 (rows.map fun r => PyData.list ((r.map Int.ofNat).map PyData.int)) = true ∧ PyData.depthAll (rows.map fun r => PyData.list ((r.map Int.ofNat).map PyData.int)) < 2 := by
    induction rows with
    | nil => exact ⟨rfl, by show 0 < 2; decide⟩
    | cons r rows ih =>
      refine ⟨?_, ?_⟩
      · show (PyData.canLayAll0 ((r.map Int.ofNat).map PyData.int) && _) = true
        rw [lay_ints, ih.1]; rfl
      · show max (PyData.depthAll ((r.map Int.ofNat).map PyData.int) + 1) _ < 2
        rw [depth_ints]
        have := ih.2
        omega
  exact ⟨key.1, by show PyData.depthAll _ + 1 < 3; have := key.2; omega⟩
theorem pyT_sh (rows : List (List Nat)) : SeqAt.shaped (pyT rows) = true := shaped_of (pyT_lay rows).1 (pyT_lay rows).2 (by decide)
theorem p_eqTb {r r' : Nat} {rows : List (List Nat)} (h : Tb S r rows) (h' : Tb S r' rows) (q : Q (.bl true) S) : SatX Y (semCop .eq (.loc r) (.loc r') S) Q := by
  refine p_eqP (tb_py h) (tb_py h') (pyT_sh _) (pyT_sh _) ?_
  rw [SeqAt.eqv_refl _ (pyT_lay rows).1]
  exact q
theorem p_neTb {r r' : Nat} {rows : List (List Nat)} (h : Tb S r rows) (h' : Tb S r' rows) (q : Q (.bl false) S) : SatX Y (semCop .ne (.loc r) (.loc r') S) Q := by
  refine p_neP (tb_py h) (tb_py h') (pyT_sh _) (pyT_sh _) ?_
  rw [SeqAt.eqv_refl _ (pyT_lay rows).1]
  exact q
theorem row_len (i : Nat) : (rowT a b i).length = b.length + 1 := part_len a b i b.length
theorem tab_len : (tabT a b).length = a.length + 1 := by simp [tabT]
include H in
theorem isTableK {lo r : Nat} (hK : 2 ≤ K) (ha : PgAt S pa a) (hb : PgAt S pb b) (la : a.length ≤ 60) (lb : b.length ≤ 60) (ht : Tab S lo r (tabT a b)) :
    Sat (prg.run K "is_table" [.loc pa, .loc pb, .loc r] S) fun d S' => d = .bl true ∧ Old S S' := by
  obtain ⟨k, rfl⟩ := fuel hK
  obtain ⟨ls, e, al⟩ := ht.tb
  have hl := al.len
  rw [tab_len] at hl
  have hlm : (ls.map D.loc).length = ls.length := List.length_map ..
  rw [r_is_table H, sat_runBody]; unfold t_is_table
  walk_at "st"
  refine k_cons (k_ifS (y_or (y_not (y_isi ?_))))
  walk_at "go"
  refine p_isL e ⟨_, rfl, fun z => (by cases z), fun _ => y_not (y_blt (x_cons (x_lc (i_vL (by with_unfolding_all exact rfl) e ?_))))⟩
  rw [ib_lst e]
  refine lcLoop_at (xs := ls.map .loc) (fun i acc S' => acc = (List.replicate i true).map D.bl ∧ S' = S) (fun i acc S' p => by rw [p.2]; exact is_lst e) (fun i d acc S' hi p => ?_) (fun acc S' p => ?_) _ 0 [] S (by omega) (Nat.zero_le _) ⟨rfl, rfl⟩
  · obtain ⟨rfl, e'⟩ := p
    obtain rfl := e'.symm
    have hil := (List.getElem?_eq_some_iff.mp hi).1
    rw [List.getElem?_map] at hi
    cases hx : ls[i]? with
    | none => rw [hx] at hi; cases hi
    | some l =>
      rw [hx] at hi
      cases hi
      obtain ⟨row, _, hrow⟩ := al.get hx
      refine sat_ok.mpr (sat_ok.mpr ⟨fun _ => x_isi ?_, fun z => by cases z⟩)
      refine x_var (by with_unfolding_all exact rfl) ?_
      refine p_isL hrow ⟨?_, ?_, rfl⟩
      · rw [List.length_map, List.length_replicate, sizeLine_eq]; omega
      · rw [List.replicate_succ', List.map_append]; rfl
  obtain ⟨rfl, e'⟩ := p
  obtain rfl := e'.symm
  walk_at "go"
  refine p_all new_at ?_
  rw [all_rep]
  refine ⟨_, rfl, fun z => (by cases z), fun _ => k_nil ?_⟩
  refine k_cons (k_retS (x_and ?_))
  walk_at "go"
  have o1 : Old S (S ++ [Cell.lst ((List.replicate (ls.map D.loc).length true).map D.bl)]) := .app
  generalize S ++ [Cell.lst ((List.replicate (ls.map D.loc).length true).map D.bl)] = S1 at o1 ⊢
  refine (tableK H (by omega) (o1.at ha) (o1.at hb) la lb).mono fun d S2 h => ?_
  obtain ⟨r2, rfl, t2, o2⟩ := h
  have o12 := o1.trans o2
  refine p_eqTb (ht.old o12).tb t2.tb ⟨_, rfl, fun _ => ?_, fun z => by cases z⟩
  have e2 := o12.at e
  refine x_blt (x_cons (x_lc2 (i_vL (by with_unfolding_all exact rfl) e2 ?_)))
  rw [ib_lst e2]
  refine lcLoop2_at (xs := ls.map .loc) (fun i acc S' => acc = (List.replicate (i * (b.length + 1)) true).map D.bl ∧ S' = S2) (fun i acc S' p => by rw [p.2]; exact is_lst e2) (fun i d acc S' hi p => ?_) (fun acc S' p => ?_) _ 0 [] S2 (by omega) (Nat.zero_le _) ⟨by rw [Nat.zero_mul]; rfl, rfl⟩
  · obtain ⟨rfl, e'⟩ := p
    obtain rfl := e'.symm
    have hil := (List.getElem?_eq_some_iff.mp hi).1
    rw [List.getElem?_map] at hi
    cases hx : ls[i]? with
    | none => rw [hx] at hi; cases hi
    | some l =>
      rw [hx] at hi
      cases hi
      obtain ⟨row, hr1, hrow⟩ := al.get hx
      rw [tab_at (by omega)] at hr1
      cases hr1
      have hrow := o12.at hrow
      have hrl : (rowD (rowT a b i)).length = b.length + 1 := by unfold rowD; rw [List.length_map, row_len]
      refine sat_ok.mpr (sat_ok.mpr ⟨fun _ => ?_, fun z => by cases z⟩)
      refine i_vL (by with_unfolding_all exact rfl) hrow ?_
      rw [ib_lst hrow]
      have hi60 : i * (b.length + 1) ≤ 61 * 61 := Nat.mul_le_mul (by omega) (by omega)
      refine lcLoop_at (xs := rowD (rowT a b i)) (fun j acc S' => acc = (List.replicate (i * (b.length + 1) + j) true).map D.bl ∧ S' = S2) (fun i acc S' p => by rw [p.2]; exact is_lst hrow) (fun j d acc S' hj p => ?_) (fun acc S' p => ?_) _ 0 _ S2 (by omega) (Nat.zero_le _) ⟨rfl, rfl⟩
      · obtain ⟨rfl, e'⟩ := p
        obtain rfl := e'.symm
        have hjl := (List.getElem?_eq_some_iff.mp hj).1
        unfold rowD at hj
        rw [List.getElem?_map] at hj
        cases hy : (rowT a b i)[j]? with
        | none => rw [hy] at hj; cases hj
        | some n =>
          rw [hy] at hj
          cases hj
          refine sat_ok.mpr (sat_ok.mpr ⟨fun _ => x_call ?_, fun z => by cases z⟩)
          refine x_cons (x_var (by with_unfolding_all exact rfl) (x_nil ?_))
          refine (wholeK H (by omega)).mono fun d S3 h => ?_
          obtain ⟨rfl, rfl⟩ := h
          refine ⟨?_, ?_, rfl⟩
          · rw [List.length_map, List.length_replicate, sizeLine_eq]; omega
          · rw [← Nat.add_assoc, List.replicate_succ', List.map_append]; rfl
      · obtain ⟨rfl, e'⟩ := p
        obtain rfl := e'.symm
        rw [hrl]
        refine ⟨?_, rfl⟩
        rw [Nat.succ_mul]
  · obtain ⟨rfl, e'⟩ := p
    obtain rfl := e'.symm
    walk_at "go"
    refine p_all new_at ?_
    rw [all_rep]
    exact ⟨rfl, o12.trans .app⟩
end Pt

end

section
set_option Elab.async false
set_option linter.all false
set_option maxRecDepth 100000
set_option maxHeartbeats 4000000
local macro_rules | `(tactic| walk_at "cl") => `(tactic| first | assumption | exact Mz.new_at | exact Mz.set_at (by walk_at "cl") | exact Mz.app_at (by walk_at "cl") | exact Mz.Grow.at ‹_› (by walk_at "cl"))
local macro_rules | `(tactic| walk_at "go") => `(tactic| repeat (first | (with_reducible refine (?_ : Mz.SatX _ (Mz.Sm.e (Mz.sem _ (Mz.T.var _)) _ _) _); first | (with_reducible refine (?_ : Mz.SatX _ _ _); simp only [List.set_cons_zero, List.set_cons_succ]) | with_reducible refine Mz.x_var (by with_unfolding_all exact rfl) ?_) | (with_reducible refine (?_ : Mz.SatRX _ _ _ _ _ _); first | with_reducible refine Mz.k_cons ?_ | with_reducible refine Mz.k_asgS ?_ | with_reducible refine Mz.k_retS ?_ | with_reducible refine Mz.k_exS ?_) | (with_reducible refine (?_ : Mz.SatX _ (Mz.Sm.e _ _ _) _); first | with_reducible refine Mz.x_int ?_ | with_reducible refine Mz.x_str ?_ | with_reducible refine Mz.x_bin ?_ | with_reducible refine Mz.x_cmp ?_ | with_reducible refine Mz.x_sub ?_ | with_reducible refine Mz.x_call ?_ | with_reducible refine Mz.x_blt ?_ | with_reducible refine Mz.x_tup ?_ | with_reducible refine Mz.x_lst ?_ | with_reducible refine Mz.x_bl ?_ | with_reducible refine Mz.x_non ?_ | with_reducible refine Mz.x_fst ?_ | with_reducible refine Mz.x_fmt ?_ | with_reducible refine Mz.x_chain ?_ | (with_reducible refine (?_ : Mz.SatX _ _ _); simp only [List.set_cons_zero, List.set_cons_succ])) | (with_reducible refine (?_ : Mz.SatX _ (Mz.Sm.a _ _ _) _); first | with_reducible refine Mz.x_cons ?_ | with_reducible refine Mz.x_nil ?_ | (with_reducible refine (?_ : Mz.SatX _ _ _); simp only [List.set_cons_zero, List.set_cons_succ])) | (with_reducible refine (?_ : Mz.SatX _ (Mz.semItem _ _ _) _); first | with_reducible refine Mz.p_itT (by decide) rfl ?_ | (with_reducible refine (?_ : Mz.SatX _ _ _); simp only [List.set_cons_zero, List.set_cons_succ])) | (with_reducible refine (?_ : Mz.SatX _ (Mz.semBop _ _ _ _) _); first | with_reducible refine Mz.p_add ?_ | with_reducible refine Mz.p_sub ?_ | (with_reducible refine (?_ : Mz.SatX _ _ _); simp only [List.set_cons_zero, List.set_cons_succ])) | (with_reducible refine (?_ : Mz.SatX _ (Mz.semCop _ _ _ _) _); first | with_reducible refine Mz.p_eqI ?_ | with_reducible refine Mz.p_neI ?_ | with_reducible refine Mz.p_eqS ?_ | with_reducible refine Mz.p_neS ?_ | with_reducible refine Mz.p_lt ?_ | with_reducible refine Mz.p_le ?_ | with_reducible refine Mz.p_ge ?_ | with_reducible refine Mz.p_gt ?_ | with_reducible refine Mz.p_leS ?_ | with_reducible refine Mz.p_is ?_ | with_reducible refine Mz.p_isnot ?_ | (with_reducible refine (?_ : Mz.SatX _ _ _); simp only [List.set_cons_zero, List.set_cons_succ])) | (with_reducible refine (?_ : Mz.SatX _ (Mz.Sm.t _ _ _) _); first | with_reducible refine Mz.y_cmp ?_ | with_reducible refine Mz.y_chain ?_ | (with_reducible refine (?_ : Mz.SatX _ _ _); simp only [List.set_cons_zero, List.set_cons_succ])) | (with_reducible refine (?_ : Mz.SatX _ (Mz.semBlt _ _ _) _); first | with_reducible refine Mz.p_ord ?_ | with_reducible refine Mz.p_max ?_ | with_reducible refine Mz.p_min ?_ | with_reducible refine Mz.p_abs ?_ | (with_reducible refine (?_ : Mz.SatX _ _ _); simp only [List.set_cons_zero, List.set_cons_succ])) | (with_reducible refine (?_ : Mz.SatX _ (Mz.Sm.j _ _ _ _) _); first | with_reducible refine Mz.j_cons ?_ | with_reducible refine Mz.j_nil ?_ | (with_reducible refine (?_ : Mz.SatX _ _ _); simp only [List.set_cons_zero, List.set_cons_succ])) | (with_reducible refine (?_ : Mz.SatX _ _ _); simp only [List.set_cons_zero, List.set_cons_succ]) | with_reducible refine ⟨_, _, _, _, _, _, rfl, (by walk_at "cl"), ?_⟩ | with_reducible refine ⟨(by simp only [List.length_cons, List.length_nil, PySem.sizeLine_eq]; omega : (List.length _ ≤ PySem.sizeLine)), ?_⟩))
local macro_rules | `(tactic| walk_at "st") => `(tactic| simp only [Mz.startG, List.map_cons, List.map_nil, List.length_cons, List.length_nil, Nat.reduceAdd, Nat.reduceSub, List.replicate, List.cons_append, List.nil_append, Nat.zero_add])
namespace Pt
open PySem PySem.Spec L2 Mz TL Rc
variable {prg : Prg} (H : HasT prg) {K : Nat} {S : Store} {pa pb pr n l : Nat} {ns : List Int} {B : Int} {a b : List Str} {rs : List (Row Str)} {Q : D → Store → Prop} {Y : Xc → Store → Prop}
def nine : List Str := ["- a", "- b", "  = 1", "", "    = 1", "  ^", "= 1", "yy", "- "]
theorem nine_ok : Fine nine := by
  intro y hy
  have : ∀ i : Fin 9, PyData.strOk (nine[i]) = true := by decide +kernel
  obtain ⟨i, hi⟩ := List.mem_iff_getElem?.mp hy
  obtain ⟨h1, h2⟩ := List.getElem?_eq_some_iff.mp hi
  rw [← h2]
  exact this ⟨i, h1⟩
def four : List Str := ["- a", "- b", "new", ""]
theorem four_ok : Fine four := by
  intro y hy
  have : ∀ i : Fin 4, PyData.strOk (four[i]) = true := by decide +kernel
  obtain ⟨i, hi⟩ := List.mem_iff_getElem?.mp hy
  obtain ⟨h1, h2⟩ := List.getElem?_eq_some_iff.mp hi
  rw [← h2]
  exact this ⟨i, h1⟩
theorem kept_old {S S1 S2 : Store} (k : Keep n S S1) (o : Old S1 S2) : Keep n S S2 := k.trans o.keep
theorem DB.old {S S' : Store} (h : DB S n l ns B) (o : Old S S') : DB S' n l ns B := by
  obtain ⟨z, h1, h2, h3⟩ := h
  obtain ⟨x, y, e⟩ := h3.c
  exact ⟨z, h1, h2, ⟨⟨x, y, o.at e⟩, o.at h3.hl, h3.ne⟩⟩
/-- cells that are new, but for the dice -/
theorem DB.set {S : Store} {f : Nat} {c : Cell} (h : DB S n l ns B) (hn : f ≠ n) (hl : f ≠ l) : DB (S.set f c) n l ns B := by
  obtain ⟨z, h1, h2, h3⟩ := h
  obtain ⟨x, y, e⟩ := h3.c
  exact ⟨z, h1, h2, ⟨⟨x, y, set_ne' hn.symm e⟩, set_ne' hl.symm h3.hl, h3.ne⟩⟩
theorem DB.ll {S : Store} (h : DB S n l ns B) : l < S.length := let ⟨_, _, _, h3⟩ := h; lt_of h3.hl
theorem keep_set {S S' : Store} {f : Nat} {c : Cell} (k : Keep n S S') (hf : S.length ≤ f) : Keep n S (S'.set f c) := ⟨by rw [List.length_set]; exact k.1, fun i h1 h2 => by rw [List.getElem?_set_ne (by omega)]; exact k.2 i h1 h2⟩
include H in
theorem linesK (hK : 3 ≤ K) (hd : DB S n l ns B) (hB : B < 2 ^ 59) : Sat (prg.run K "_law_lines_drawn" [.loc n] S) fun d S' => ∃ p ys, d = .loc p ∧ S.length ≤ p ∧ PgAt S' p ys ∧ ys.length ≤ 14 ∧ Fine ys ∧ DB S' n l ns (B + 20) ∧ Keep n S S' := by
  obtain ⟨k, rfl⟩ := fuel hK
  have lt := hd.lt
  rw [r__law_lines_drawn H, sat_runBody]; unfold t__law_lines_drawn
  walk_at "st"
  walk_at "go"
  refine (pickK H (xs := [.int 2, .int 3, .int 9]) (by omega) (hd.app _) (by omega) new_at (Nat.ne_of_gt lt) (by simp) (by simp)).mono fun d1 S1 h1 => ?_
  obtain ⟨hm1, d1, k1⟩ := h1
  have k1 := Keep.trans (Keep.app (c := [Cell.lst [.int 2, .int 3, .int 9]])) k1
  obtain ⟨few, rfl, f1, f2⟩ : ∃ few : Nat, (by assumption : D) = .int few ∧ 0 < few ∧ few ≤ 9 := by
    simp only [List.mem_cons, List.not_mem_nil, or_false] at hm1
    rcases hm1 with e | e | e
    · exact ⟨2, e, by decide, by decide⟩
    · exact ⟨3, e, by decide, by decide⟩
    · exact ⟨9, e, by decide, by decide⟩
  walk_at "go"
  refine x_sliT rfl ?_
  walk_at "go"
  refine ⟨_, rfl, p_cutL new_at ?_⟩
  have ecut : cutD [D.str "- a", .str "- b", .str "  = 1", .str "", .str "    = 1", .str "  ^", .str "= 1", .str "yy", .str "- "] none (some (few : Int)) = (nine.take few).map .str := by
    rw [cut_hi, List.map_take]; rfl
  rw [ecut]
  walk_at "go"
  have hs : (S1 ++ [Cell.lst [D.str "- a", .str "- b", .str "  = 1", .str "", .str "    = 1", .str "  ^", .str "= 1", .str "yy", .str "- "]] ++ [Cell.lst ((nine.take few).map .str)])[(S1 ++ [Cell.lst [D.str "- a", .str "- b", .str "  = 1", .str "", .str "    = 1", .str "  ^", .str "= 1", .str "yy", .str "- "]]).length]? = some (Cell.lst ((nine.take few).map .str)) := new_at
  have o2 : Old S1 (S1 ++ [Cell.lst [D.str "- a", .str "- b", .str "  = 1", .str "", .str "    = 1", .str "  ^", .str "= 1", .str "yy", .str "- "]] ++ [Cell.lst ((nine.take few).map .str)]) := Old.app.trans .app
  have b2 : S1.length ≤ (S1 ++ [Cell.lst [D.str "- a", .str "- b", .str "  = 1", .str "", .str "    = 1", .str "  ^", .str "= 1", .str "yy", .str "- "]]).length := by rw [List.length_append]; omega
  generalize (S1 ++ [Cell.lst [D.str "- a", .str "- b", .str "  = 1", .str "", .str "    = 1", .str "  ^", .str "= 1", .str "yy", .str "- "]]).length = sm at hs b2 ⊢
  generalize S1 ++ [Cell.lst [D.str "- a", .str "- b", .str "  = 1", .str "", .str "    = 1", .str "  ^", .str "= 1", .str "yy", .str "- "]] ++ [Cell.lst ((nine.take few).map .str)] = S2 at hs o2 ⊢
  have d2 := d1.old o2
  have k2 := kept_old k1 o2
  refine x_lc (i_rng1 ?_)
  walk_at "go"
  refine (rollK H (by omega) d2 (by omega) (by decide) (by decide)).mono fun d3 S3 h3 => ?_
  obtain ⟨r, rfl, r1, d3, k3⟩ := h3
  refine ⟨_, rfl, rngOk_of (by omega) (by omega), ?_⟩
  have nsm : sm ≠ n := by have := d1.lt; omega
  have hs3 := k3.at hs nsm
  have k03 := k2.trans k3
  refine lcLoop_vals (xs := Mz.intsFrom 0 (r : Int).toNat) (fun i acc S' => ∃ ys : List Str, acc = ys.map .str ∧ ys.length = i ∧ Fine ys ∧ DB S' n l ns (B + 2 + i) ∧ Keep n S3 S') (fun i d acc S' hi p => ?_) (fun acc S' p => ?_) _ 0 [] S3 (by show _ + (_ + 1) = _; simp [Mz.intsFrom]) (Nat.zero_le _) ⟨[], rfl, rfl, fun _ h => (by cases h), d3.le (by omega), .refl _ _⟩
  · obtain ⟨ys, rfl, hl, fy, dd, kk⟩ := p
    have hi2 : i < 15 := by
      have := (List.getElem?_eq_some_iff.mp hi).1
      simp [Mz.intsFrom] at this
      omega
    refine sat_ok.mpr (sat_ok.mpr ⟨fun _ => ?_, fun z => by cases z⟩)
    refine x_call (x_cons (x_var (by with_unfolding_all exact rfl) (x_cons (x_var (by with_unfolding_all exact rfl) (x_nil ?_)))))
    refine (pickK H (by omega) dd (by omega) (kk.at hs3 nsm) nsm (by
      intro z
      have := congrArg List.length z
      simp [nine] at this
      omega) (by simp [nine]; omega)).mono fun d S4 h4 => ?_
    obtain ⟨hm, d4, k4⟩ := h4
    obtain ⟨y, hy, rfl⟩ := List.mem_map.mp hm
    refine ⟨by rw [List.length_map, sizeLine_eq]; omega, ys ++ [y], by rw [List.map_append]; rfl, by simp [hl], ?_, d4.le (by omega), kk.trans k4⟩
    intro z hz
    rcases List.mem_append.mp hz with hz | hz
    · exact fy z hz
    · rw [List.mem_singleton.mp hz]
      exact nine_ok y (List.mem_of_mem_take hy)
  · obtain ⟨ys, rfl, hl, fy, dd, kk⟩ := p
    have hr : (Mz.intsFrom 0 (r : Int).toNat).length = r := by simp [Mz.intsFrom]
    rw [hr] at hl dd
    refine ⟨_, ys, rfl, ?_, new_at, by omega, fy, (dd.app _).le (by omega), (k03.trans kk).trans .app⟩
    exact (k03.trans kk).1
end Pt

end

section
set_option Elab.async false
set_option linter.all false
set_option maxRecDepth 100000
set_option maxHeartbeats 4000000
local macro_rules | `(tactic| walk_at "cl") => `(tactic| first | assumption | exact Mz.new_at | exact Mz.set_at (by walk_at "cl") | exact Mz.app_at (by walk_at "cl") | exact Mz.Grow.at ‹_› (by walk_at "cl"))
local macro_rules | `(tactic| walk_at "go") => `(tactic| repeat (first | (with_reducible refine (?_ : Mz.SatX _ (Mz.Sm.e (Mz.sem _ (Mz.T.var _)) _ _) _); first | (with_reducible refine (?_ : Mz.SatX _ _ _); simp only [List.set_cons_zero, List.set_cons_succ]) | with_reducible refine Mz.x_var (by with_unfolding_all exact rfl) ?_) | (with_reducible refine (?_ : Mz.SatRX _ _ _ _ _ _); first | with_reducible refine Mz.k_cons ?_ | with_reducible refine Mz.k_asgS ?_ | with_reducible refine Mz.k_retS ?_ | with_reducible refine Mz.k_exS ?_) | (with_reducible refine (?_ : Mz.SatX _ (Mz.Sm.e _ _ _) _); first | with_reducible refine Mz.x_int ?_ | with_reducible refine Mz.x_str ?_ | with_reducible refine Mz.x_bin ?_ | with_reducible refine Mz.x_cmp ?_ | with_reducible refine Mz.x_sub ?_ | with_reducible refine Mz.x_call ?_ | with_reducible refine Mz.x_blt ?_ | with_reducible refine Mz.x_tup ?_ | with_reducible refine Mz.x_lst ?_ | with_reducible refine Mz.x_bl ?_ | with_reducible refine Mz.x_non ?_ | with_reducible refine Mz.x_fst ?_ | with_reducible refine Mz.x_fmt ?_ | with_reducible refine Mz.x_chain ?_ | (with_reducible refine (?_ : Mz.SatX _ _ _); simp only [List.set_cons_zero, List.set_cons_succ])) | (with_reducible refine (?_ : Mz.SatX _ (Mz.Sm.a _ _ _) _); first | with_reducible refine Mz.x_cons ?_ | with_reducible refine Mz.x_nil ?_ | (with_reducible refine (?_ : Mz.SatX _ _ _); simp only [List.set_cons_zero, List.set_cons_succ])) | (with_reducible refine (?_ : Mz.SatX _ (Mz.semItem _ _ _) _); first | with_reducible refine Mz.p_itT (by decide) rfl ?_ | (with_reducible refine (?_ : Mz.SatX _ _ _); simp only [List.set_cons_zero, List.set_cons_succ])) | (with_reducible refine (?_ : Mz.SatX _ (Mz.semBop _ _ _ _) _); first | with_reducible refine Mz.p_add ?_ | with_reducible refine Mz.p_sub ?_ | (with_reducible refine (?_ : Mz.SatX _ _ _); simp only [List.set_cons_zero, List.set_cons_succ])) | (with_reducible refine (?_ : Mz.SatX _ (Mz.semCop _ _ _ _) _); first | with_reducible refine Mz.p_eqI ?_ | with_reducible refine Mz.p_neI ?_ | with_reducible refine Mz.p_eqS ?_ | with_reducible refine Mz.p_neS ?_ | with_reducible refine Mz.p_lt ?_ | with_reducible refine Mz.p_le ?_ | with_reducible refine Mz.p_ge ?_ | with_reducible refine Mz.p_gt ?_ | with_reducible refine Mz.p_leS ?_ | with_reducible refine Mz.p_is ?_ | with_reducible refine Mz.p_isnot ?_ | (with_reducible refine (?_ : Mz.SatX _ _ _); simp only [List.set_cons_zero, List.set_cons_succ])) | (with_reducible refine (?_ : Mz.SatX _ (Mz.Sm.t _ _ _) _); first | with_reducible refine Mz.y_cmp ?_ | with_reducible refine Mz.y_chain ?_ | (with_reducible refine (?_ : Mz.SatX _ _ _); simp only [List.set_cons_zero, List.set_cons_succ])) | (with_reducible refine (?_ : Mz.SatX _ (Mz.semBlt _ _ _) _); first | with_reducible refine Mz.p_ord ?_ | with_reducible refine Mz.p_max ?_ | with_reducible refine Mz.p_min ?_ | with_reducible refine Mz.p_abs ?_ | (with_reducible refine (?_ : Mz.SatX _ _ _); simp only [List.set_cons_zero, List.set_cons_succ])) | (with_reducible refine (?_ : Mz.SatX _ (Mz.Sm.j _ _ _ _) _); first | with_reducible refine Mz.j_cons ?_ | with_reducible refine Mz.j_nil ?_ | (with_reducible refine (?_ : Mz.SatX _ _ _); simp only [List.set_cons_zero, List.set_cons_succ])) | (with_reducible refine (?_ : Mz.SatX _ _ _); simp only [List.set_cons_zero, List.set_cons_succ]) | with_reducible refine ⟨(by simp only [List.length_cons, List.length_nil, PySem.sizeLine_eq]; omega : (List.length _ ≤ PySem.sizeLine)), ?_⟩))
local macro_rules | `(tactic| walk_at "st") => `(tactic| simp only [Mz.startG, List.map_cons, List.map_nil, List.length_cons, List.length_nil, Nat.reduceAdd, Nat.reduceSub, List.replicate, List.cons_append, List.nil_append, Nat.zero_add])
namespace Pt
open PySem PySem.Spec L2 Mz TL Rc
variable {prg : Prg} (H : HasT prg) {K : Nat} {S : Store} {pa pb pr n l : Nat} {ns : List Int} {B : Int} {a b : List Str} {rs : List (Row Str)} {Q : D → Store → Prop} {Y : Xc → Store → Prop}
theorem p_insert {f i : Nat} {xs : List D} {y : D} (h : S[f]? = some (Cell.lst xs)) (hx : xs.length < sizeLine) (hi : i < 2 ^ 60) (q : Q .non (S.set f (.lst (xs.take i ++ [y] ++ xs.drop i)))) : SatX Y (semMth .insert (.loc f) [.int (i : Nat), y] S) Q := by
  unfold semMth
  simp only [lstAt_loc h]
  refine sat_guard.mpr ⟨?_, q⟩
  rw [decide_eq_true hx, decide_eq_true (by omega), decide_eq_true (by omega)]; rfl
theorem cut_ab {xs : List D} {i j : Nat} (hij : i ≤ j) : cutD xs (some (i : Int)) (some (j : Int)) = (xs.take j).drop i := by
  unfold cutD
  rw [HT.sIx_nat, HT.sIx_nat]
  refine List.ext_getElem? fun q => ?_
  simp only [List.getElem?_take, List.getElem?_drop]
  by_cases h1 : i ≤ xs.length
  · rw [Nat.min_eq_left h1]
    by_cases h2 : q < min j xs.length - i
    · rw [if_pos h2, if_pos (by omega)]
    · rw [if_neg h2]
      by_cases h3 : i + q < j
      · rw [if_pos h3, List.getElem?_eq_none (by omega)]
      · rw [if_neg h3]
  · rw [if_neg (by omega)]
    by_cases h3 : i + q < j
    · rw [if_pos h3, List.getElem?_eq_none (by omega)]
    · rw [if_neg h3]
theorem o_var (E : PEnv) (i : Nat) : (sem E (.var i)).o = oSome (sem E (.var i)).e := rfl
theorem fine_app {xs ys : List Str} (h : Fine xs) (h' : Fine ys) : Fine (xs ++ ys) := fun y hy => (List.mem_append.mp hy).elim (h y) (h' y)
theorem fine_take {xs : List Str} (h : Fine xs) (i : Nat) : Fine (xs.take i) := fun y hy => h y (List.mem_of_mem_take hy)
theorem fine_drop {xs : List Str} (h : Fine xs) (i : Nat) : Fine (xs.drop i) := fun y hy => h y (List.mem_of_mem_drop hy)
theorem fine_one {x : Str} (h : PyData.strOk x = true) : Fine [x] := fun y hy => by rw [List.mem_singleton.mp hy]; exact h
/-- the found list, cell by cell -/
structure Fd (S S' : Store) (n l : Nat) (ns : List Int) (B : Int) (f : Nat) (ys : List Str) (m : Nat) : Prop where
  ge : S.length ≤ f
  at_ : PgAt S' f ys
  len : ys.length ≤ m
  fine : Fine ys
  db : DB S' n l ns B
  k : Keep n S S'
include H in
theorem otherK (hK : 4 ≤ K) (hd : DB S n l ns B) (hB : B < 2 ^ 58) (ha : PgAt S pa a) (na : pa ≠ n) (fa : Fine a) (la : a.length ≤ 14) :
    Sat (prg.run K "_law_other" [.loc n, .loc pa] S) fun d S' => ∃ p ys, d = .loc p ∧ S.length ≤ p ∧ PgAt S' p ys ∧ ys.length ≤ 18 ∧ Fine ys ∧ DB S' n l ns (B + 50) ∧ Keep n S S' := by
  obtain ⟨k, rfl⟩ := fuel hK
  have lt := hd.lt
  have ll := hd.ll
  rw [r__law_other H, sat_runBody]; unfold t__law_other
  walk_at "st"
  walk_at "go"
  refine p_list ha ?_
  walk_at "go"
  have f0 : Fd S (S ++ [Cell.lst (a.map .str)]) n l ns B S.length a 14 := ⟨Nat.le_refl _, new_at, la, fa, hd.app _, .app⟩
  generalize S ++ [Cell.lst (a.map .str)] = S1 at f0 ⊢
  refine k_forS (i_rng1 ?_)
  walk_at "go"
  refine (rollK H (by omega) f0.db (by omega) (by decide) (by decide)).mono fun d2 S2 h2 => ?_
  obtain ⟨r, rfl, r5, d2, k2⟩ := h2
  refine ⟨_, rfl, rngOk_of (by omega) (by omega), ?_⟩
  have hr : (Mz.intsFrom 0 (r : Int).toNat).length = r := by simp [Mz.intsFrom]
  refine floop_vals (xs := Mz.intsFrom 0 (r : Int).toNat) (fun i g S' => ∃ (f : Nat) (ys : List Str) (v3 v4 v5 v6 v7 : Option D), g = [some (.loc n), some (.loc pa), some (.loc f), v3, v4, v5, v6, v7] ∧ Fd S S' n l ns (B + 1 + 6 * i) f ys (14 + i)) (fun i d g S3 hi p => ?_) (fun g S3 p => ?_) _ 0 _ _ (by show _ + (_ + 1) = _; omega) (Nat.zero_le _)
    ⟨_, a, _, _, _, _, _, rfl, f0.ge, k2.at f0.at_ (by have := f0.ge; omega), la, fa, d2.le (by omega), f0.k.trans k2⟩
  · obtain ⟨f, ys, v3, v4, v5, v6, v7, rfl, fd⟩ := p
    have hi4 : i < 4 := by
      have := (List.getElem?_eq_some_iff.mp hi).1
      omega
    have nf : f ≠ n := by have := fd.ge; omega
    have nl : f ≠ l := by have := fd.ge; omega
    have ylen := fd.len
    refine sat_ok.mpr ?_
    simp only [List.set_cons_zero, List.set_cons_succ]
    walk_at "go"
    refine p_lenL fd.at_ ?_
    walk_at "go"
    rw [List.length_map]
    refine (rollK H (by omega) fd.db (by omega) (by omega) (divOk_of (by omega) (by omega))).mono fun d4 S4 h4 => ?_
    obtain ⟨at_, rfl, hat, d4, k4⟩ := h4
    walk_at "go"
    refine p_lenL (k4.at fd.at_ nf) ?_
    walk_at "go"
    rw [List.length_map]
    refine (rollK H (by omega) d4 (by omega) (by omega) (divOk_of (by omega) (by omega))).mono fun d5 S5 h5 => ?_
    obtain ⟨to, rfl, hto, d5, k5⟩ := h5
    walk_at "go"
    refine (rollK H (by omega) d5 (by omega) (by decide) (by decide)).mono fun d6 S6 h6 => ?_
    obtain ⟨way, rfl, hway, d6, k6⟩ := h6
    have hf6 : PgAt S6 f ys := k6.at (k5.at (k4.at fd.at_ nf) nf) nf
    have k06 := ((fd.k.trans k4).trans k5).trans k6
    have l06 : S.length ≤ S6.length := k06.1
    have e1 : ((at_ : Nat) : Int) + 1 = ((at_ + 1 : Nat) : Int) := by omega
    have ex : ∀ {f8 : Nat} {zs : List Str} {S8 : Store} {v3 v4 v5 v6 v7 : Option D}, Old S6 S8 → S.length ≤ f8 → PgAt S8 f8 zs → zs.length ≤ ys.length + 1 → Fine zs → ∃ (f : Nat) (ys : List Str) (w3 w4 w5 w6 w7 : Option D), ([some (.loc n), some (.loc pa), some (.loc f8), v3, v4, v5, v6, v7] : Sg) = [some (.loc n), some (.loc pa), some (.loc f), w3, w4, w5, w6, w7] ∧ Fd S S8 n l ns (B + 1 + 6 * (i + 1 : Nat)) f ys (14 + (i + 1)) := by
      intro f8 zs S8 v3 v4 v5 v6 v7 o h1 h2 h3 h4
      exact ⟨f8, zs, _, _, _, _, _, rfl, h1, h2, by omega, h4, (d6.old o).le (by omega), k06.trans o.keep⟩
    walk_at "go"
    refine k_ifS (y_cmp ?_)
    walk_at "go"
    refine ⟨_, rfl, fun hw => ?_, fun hw => ?_⟩
    · walk_at "go"
      refine x_sliT rfl ?_
      walk_at "go"
      refine ⟨_, rfl, p_cutL hf6 ?_⟩
      refine x_sliD rfl ?_
      walk_at "go"
      refine ⟨_, rfl, p_cutL (app_at hf6) ?_⟩
      rw [e1, cut_hi, cut_lo, ← List.map_take, ← List.map_drop]
      refine p_addLL (app_at new_at) new_at (by simp; omega) ?_
      rw [app_d]
      refine k_nil (k_nil (ex ((Old.app.trans .app).trans .app) ?_ new_at (by simp; omega) (fine_app (fine_take fd.fine _) (fine_drop fd.fine _))))
      rw [List.length_append, List.length_append]; omega
    refine k_cons (k_ifS (y_cmp ?_))
    walk_at "go"
    refine ⟨_, rfl, fun hw1 => ?_, fun hw1 => ?_⟩
    · refine k_cons (k_exS (x_mth (x_var (by with_unfolding_all exact rfl) ⟨ty_lst rfl hf6, ?_⟩)))
      walk_at "go"
      have o7 : Old S6 (S6 ++ [Cell.lst (four.map .str)]) := .app
      refine (pickK H (xs := four.map .str) (by omega) (d6.app _) (by omega) new_at (by have := d6.lt; omega) (by simp [four]) (by simp [four])).mono fun d7 S7 h7 => ?_
      obtain ⟨hm, d7, k7⟩ := h7
      obtain ⟨y, hy, rfl⟩ := List.mem_map.mp hm
      have k67 := Keep.trans (Keep.app (c := [Cell.lst (four.map .str)])) k7
      have hf7 : PgAt S7 f ys := k67.at hf6 nf
      walk_at "go"
      refine p_insert hf7 (by rw [List.length_map, sizeLine_eq]; omega) (by omega) ?_
      have eins : (ys.map D.str).take at_ ++ [.str y] ++ (ys.map D.str).drop at_ = (ys.take at_ ++ [y] ++ ys.drop at_).map .str := by
        rw [List.map_append, List.map_append, List.map_take, List.map_drop]; rfl
      rw [eins]
      refine k_nil (k_nil (k_nil ⟨f, _, _, _, _, _, _, rfl, fd.ge, set_at hf7, by simp; omega, fine_app (fine_app (fine_take fd.fine _) (fine_one (four_ok y hy))) (fine_drop fd.fine _), (d7.set nf nl).le (by omega), keep_set (k06.trans k67) fd.ge⟩))
    refine k_cons (k_ifS (y_and (y_cmp ?_)))
    walk_at "go"
    have els : SatR ((sem (prg.env (prg.run (k + 3))) (.cons (.asg (.var 7) (.sli (.var 2) (.var 4) (.bin .add (.var 4) (.int 1)))) (.cons (.asg (.var 2) (.bin .add (.sli (.var 2) .nil (.var 4)) (.sli (.var 2) (.bin .add (.var 4) (.int 1)) .nil))) (.cons (.asg (.sls (.var 2) (.var 5) (.var 5)) (.var 7)) .nil)))).b [some (.loc n), some (.loc pa), some (.loc f), some d, some (.int (at_ : Nat)), some (.int (to : Nat)), some (.int (way : Nat)), v7] S6)
        (fun g S8 => ∃ (f : Nat) (ys : List Str) (w3 w4 w5 w6 w7 : Option D), g = [some (.loc n), some (.loc pa), some (.loc f), w3, w4, w5, w6, w7] ∧ Fd S S8 n l ns (B + 1 + 6 * (i + 1 : Nat)) f ys (14 + (i + 1))) (fun _ _ => False) (fun _ _ => False) (fun _ _ => False) := by
      walk_at "go"
      refine x_sli rfl rfl ?_
      walk_at "go"
      refine ⟨_, rfl, ?_⟩
      walk_at "go"
      refine ⟨_, rfl, p_cutL hf6 ?_⟩
      walk_at "go"
      obtain ⟨zs, ez, fz, lz⟩ : ∃ zs : List Str, cutD (ys.map D.str) (some (at_ : Int)) (some ((at_ : Int) + 1)) = zs.map .str ∧ Fine zs ∧ zs.length ≤ 1 := by
        refine ⟨(ys.take (at_ + 1)).drop at_, ?_, fine_drop (fine_take fd.fine _) _, by simp; omega⟩
        rw [e1, cut_ab (by omega), List.map_drop, List.map_take]
      rw [ez]
      have hl7 : PgAt (S6 ++ [Cell.lst (zs.map .str)]) S6.length zs := new_at
      have hf7 : PgAt (S6 ++ [Cell.lst (zs.map .str)]) f ys := app_at hf6
      have o7 : Old S6 (S6 ++ [Cell.lst (zs.map .str)]) := .app
      generalize S6 ++ [Cell.lst (zs.map .str)] = S7 at hl7 hf7 o7 ⊢
      refine x_sliT rfl ?_
      walk_at "go"
      refine ⟨_, rfl, p_cutL hf7 ?_⟩
      refine x_sliD rfl ?_
      walk_at "go"
      refine ⟨_, rfl, p_cutL (app_at hf7) ?_⟩
      rw [e1, cut_hi, cut_lo, ← List.map_take, ← List.map_drop]
      refine p_addLL (app_at new_at) new_at (by simp; omega) ?_
      rw [app_d]
      have o8 : Old S6 (S7 ++ [Cell.lst ((ys.take at_).map .str)] ++ [Cell.lst ((ys.drop (at_ + 1)).map .str)] ++ [Cell.lst ((ys.take at_ ++ ys.drop (at_ + 1)).map .str)]) := ((o7.trans .app).trans .app).trans .app
      have hn8 : PgAt (S7 ++ [Cell.lst ((ys.take at_).map .str)] ++ [Cell.lst ((ys.drop (at_ + 1)).map .str)] ++ [Cell.lst ((ys.take at_ ++ ys.drop (at_ + 1)).map .str)]) (S7 ++ [Cell.lst ((ys.take at_).map .str)] ++ [Cell.lst ((ys.drop (at_ + 1)).map .str)]).length (ys.take at_ ++ ys.drop (at_ + 1)) := new_at
      have hl8 : PgAt (S7 ++ [Cell.lst ((ys.take at_).map .str)] ++ [Cell.lst ((ys.drop (at_ + 1)).map .str)] ++ [Cell.lst ((ys.take at_ ++ ys.drop (at_ + 1)).map .str)]) S6.length zs := app_at (app_at (app_at hl7))
      have b8 : S6.length < (S7 ++ [Cell.lst ((ys.take at_).map .str)] ++ [Cell.lst ((ys.drop (at_ + 1)).map .str)]).length := by
        have := lt_of hl7
        rw [List.length_append, List.length_append]; omega
      generalize (S7 ++ [Cell.lst ((ys.take at_).map .str)] ++ [Cell.lst ((ys.drop (at_ + 1)).map .str)]).length = f8 at hn8 b8 ⊢
      generalize S7 ++ [Cell.lst ((ys.take at_).map .str)] ++ [Cell.lst ((ys.drop (at_ + 1)).map .str)] ++ [Cell.lst ((ys.take at_ ++ ys.drop (at_ + 1)).map .str)] = S8 at o8 hn8 hl8 ⊢
      refine k_cons ?_
      refine k_setSl (lo := .var 5) (hi := .var 5) (o_var _ 5) (o_var _ 5) ?_
      walk_at "go"
      refine ⟨to, rfl, ?_⟩
      walk_at "go"
      refine ⟨to, f8, S6.length, _, _, rfl, rfl, rfl, by omega, hn8, hl8, Nat.le_refl _, by simp [sizeLine_eq]; omega, ?_⟩
      have esl : ((ys.take at_ ++ ys.drop (at_ + 1)).map D.str).take to ++ zs.map .str ++ ((ys.take at_ ++ ys.drop (at_ + 1)).map D.str).drop to = ((ys.take at_ ++ ys.drop (at_ + 1)).take to ++ zs ++ (ys.take at_ ++ ys.drop (at_ + 1)).drop to).map .str := by
        simp only [List.map_append, List.map_take, List.map_drop]
      rw [esl]
      refine k_nil (ex (o8.set (by omega)) (by omega) (set_at hn8) (by simp; omega) (fine_app (fine_app (fine_take (fine_app (fine_take fd.fine _) (fine_drop fd.fine _)) _) fz) (fine_drop (fine_app (fine_take fd.fine _) (fine_drop fd.fine _)) _)))
    refine ⟨_, rfl, fun hw2 => y_cmp ?_, fun hw2 => ⟨fun z => (by cases z), fun _ => ?_⟩⟩
    rotate_left
    · exact satUp els fun _ _ h => k_nil (k_nil (k_nil h))
    walk_at "go"
    refine p_lenL hf6 ?_
    walk_at "go"
    rw [List.length_map]
    refine ⟨_, rfl, fun hw3 => ?_, fun hw3 => ?_⟩
    · refine k_cons (Mz.k_setL ?_)
      walk_at "go"
      refine ⟨f, at_, _, rfl, rfl, hf6, by rw [List.length_map]; have := of_decide_eq_true hw3; omega, ?_⟩
      have eset : (ys.map D.str).set at_ (.str "turned") = (ys.set at_ "turned").map .str := by rw [List.map_set]
      rw [eset]
      refine k_nil (k_nil (k_nil (k_nil ⟨f, _, _, _, _, _, _, rfl, fd.ge, set_at hf6, by simp; omega, ?_, (d6.set nf nl).le (by omega), keep_set k06 fd.ge⟩)))
      intro y hy
      rcases List.mem_or_eq_of_mem_set hy with h | h
      · exact fd.fine y h
      · rw [h]; decide +kernel
    · exact satUp els fun _ _ h => k_nil (k_nil (k_nil h))
  · obtain ⟨f, ys, v3, v4, v5, v6, v7, rfl, fd⟩ := p
    rw [hr] at fd
    have nf : f ≠ n := by have := fd.ge; omega
    have l3 := fd.k.1
    have flen := fd.len
    walk_at "go"
    refine (linesK H (by omega) fd.db (by omega)).mono fun d4 S4 h4 => ?_
    obtain ⟨p, zs, rfl, gp, hp, lp, fp, d4, k4⟩ := h4
    walk_at "go"
    have k04 := fd.k.trans k4
    refine p_list (k04.at ha na) ?_
    walk_at "go"
    have hf5 : PgAt (S4 ++ [Cell.lst (a.map .str)] ++ [Cell.lst []] ++ [Cell.lst [.loc f, .loc f, .loc p, .loc S4.length, .loc (S4 ++ [Cell.lst (a.map .str)]).length]]) f ys := app_at (app_at (app_at (k4.at fd.at_ nf)))
    have hp5 : PgAt (S4 ++ [Cell.lst (a.map .str)] ++ [Cell.lst []] ++ [Cell.lst [.loc f, .loc f, .loc p, .loc S4.length, .loc (S4 ++ [Cell.lst (a.map .str)]).length]]) p zs := app_at (app_at (app_at hp))
    have ha5 : PgAt (S4 ++ [Cell.lst (a.map .str)] ++ [Cell.lst []] ++ [Cell.lst [.loc f, .loc f, .loc p, .loc S4.length, .loc (S4 ++ [Cell.lst (a.map .str)]).length]]) S4.length a := app_at (app_at new_at)
    have h05 : PgAt (S4 ++ [Cell.lst (a.map .str)] ++ [Cell.lst []] ++ [Cell.lst [.loc f, .loc f, .loc p, .loc S4.length, .loc (S4 ++ [Cell.lst (a.map .str)]).length]]) (S4 ++ [Cell.lst (a.map .str)]).length [] := app_at new_at
    have o5 : Old S4 (S4 ++ [Cell.lst (a.map .str)] ++ [Cell.lst []] ++ [Cell.lst [.loc f, .loc f, .loc p, .loc S4.length, .loc (S4 ++ [Cell.lst (a.map .str)]).length]]) := (Old.app.trans .app).trans .app
    have b4 : S.length ≤ S4.length := k04.1
    refine (pickK H (by omega) (d4.old o5) (by omega) new_at (by rw [List.length_append, List.length_append]; omega) (by simp) (by simp)).mono fun d6 S6 h6 => ?_
    obtain ⟨hm, d6, k6⟩ := h6
    have k06 := (kept_old k04 o5).trans k6
    have res : ∀ {q : Nat} {ws : List Str}, S.length ≤ q → PgAt (S4 ++ [Cell.lst (a.map .str)] ++ [Cell.lst []] ++ [Cell.lst [.loc f, .loc f, .loc p, .loc S4.length, .loc (S4 ++ [Cell.lst (a.map .str)]).length]]) q ws → ws.length ≤ 18 → Fine ws → ∃ p ys, D.loc q = D.loc p ∧ S.length ≤ p ∧ PgAt S6 p ys ∧ ys.length ≤ 18 ∧ Fine ys ∧ DB S6 n l ns (B + 50) ∧ Keep n S S6 :=
      fun h1 h2 h3 h4 => ⟨_, _, rfl, h1, k6.at h2 (by omega), h3, h4, d6.le (by omega), k06⟩
    simp only [List.mem_cons, List.not_mem_nil, or_false] at hm
    rcases hm with rfl | rfl | rfl | rfl | rfl
    · exact res fd.ge hf5 (by omega) fd.fine
    · exact res fd.ge hf5 (by omega) fd.fine
    · exact res (by omega) hp5 (by omega) fp
    · exact res b4 ha5 (by omega) fa
    · exact res (by rw [List.length_append]; omega) h05 (by simp) (fun _ h => by cases h)
end Pt

end

section
set_option Elab.async false
set_option linter.all false
set_option maxRecDepth 100000
set_option maxHeartbeats 4000000
local macro_rules | `(tactic| walk_at "cl") => `(tactic| first | assumption | exact Mz.new_at | exact Mz.set_at (by walk_at "cl") | exact Mz.app_at (by walk_at "cl") | exact Mz.Grow.at ‹_› (by walk_at "cl"))
local macro_rules | `(tactic| walk_at "go") => `(tactic| repeat (first | (with_reducible refine (?_ : Mz.SatX _ (Mz.Sm.e (Mz.sem _ (Mz.T.var _)) _ _) _); first | (with_reducible refine (?_ : Mz.SatX _ _ _); simp only [List.set_cons_zero, List.set_cons_succ]) | with_reducible refine Mz.x_var (by with_unfolding_all exact rfl) ?_) | (with_reducible refine (?_ : Mz.SatRX _ _ _ _ _ _); first | with_reducible refine Mz.k_cons ?_ | with_reducible refine Mz.k_asgS ?_ | with_reducible refine Mz.k_retS ?_ | with_reducible refine Mz.k_exS ?_) | (with_reducible refine (?_ : Mz.SatX _ (Mz.Sm.e _ _ _) _); first | with_reducible refine Mz.x_int ?_ | with_reducible refine Mz.x_str ?_ | with_reducible refine Mz.x_bin ?_ | with_reducible refine Mz.x_cmp ?_ | with_reducible refine Mz.x_sub ?_ | with_reducible refine Mz.x_call ?_ | with_reducible refine Mz.x_blt ?_ | with_reducible refine Mz.x_tup ?_ | with_reducible refine Mz.x_lst ?_ | with_reducible refine Mz.x_bl ?_ | with_reducible refine Mz.x_non ?_ | with_reducible refine Mz.x_fst ?_ | with_reducible refine Mz.x_fmt ?_ | with_reducible refine Mz.x_chain ?_ | (with_reducible refine (?_ : Mz.SatX _ _ _); simp only [List.set_cons_zero, List.set_cons_succ])) | (with_reducible refine (?_ : Mz.SatX _ (Mz.Sm.a _ _ _) _); first | with_reducible refine Mz.x_cons ?_ | with_reducible refine Mz.x_nil ?_ | (with_reducible refine (?_ : Mz.SatX _ _ _); simp only [List.set_cons_zero, List.set_cons_succ])) | (with_reducible refine (?_ : Mz.SatX _ (Mz.semItem _ _ _) _); first | with_reducible refine Mz.p_itT (by decide) rfl ?_ | (with_reducible refine (?_ : Mz.SatX _ _ _); simp only [List.set_cons_zero, List.set_cons_succ])) | (with_reducible refine (?_ : Mz.SatX _ (Mz.semBop _ _ _ _) _); first | with_reducible refine Mz.p_add ?_ | with_reducible refine Mz.p_sub ?_ | (with_reducible refine (?_ : Mz.SatX _ _ _); simp only [List.set_cons_zero, List.set_cons_succ])) | (with_reducible refine (?_ : Mz.SatX _ (Mz.semCop _ _ _ _) _); first | with_reducible refine Mz.p_eqI ?_ | with_reducible refine Mz.p_neI ?_ | with_reducible refine Mz.p_eqS ?_ | with_reducible refine Mz.p_neS ?_ | with_reducible refine Mz.p_lt ?_ | with_reducible refine Mz.p_le ?_ | with_reducible refine Mz.p_ge ?_ | with_reducible refine Mz.p_gt ?_ | with_reducible refine Mz.p_leS ?_ | with_reducible refine Mz.p_is ?_ | with_reducible refine Mz.p_isnot ?_ | (with_reducible refine (?_ : Mz.SatX _ _ _); simp only [List.set_cons_zero, List.set_cons_succ])) | (with_reducible refine (?_ : Mz.SatX _ (Mz.Sm.t _ _ _) _); first | with_reducible refine Mz.y_cmp ?_ | with_reducible refine Mz.y_chain ?_ | (with_reducible refine (?_ : Mz.SatX _ _ _); simp only [List.set_cons_zero, List.set_cons_succ])) | (with_reducible refine (?_ : Mz.SatX _ (Mz.semBlt _ _ _) _); first | with_reducible refine Mz.p_ord ?_ | with_reducible refine Mz.p_max ?_ | with_reducible refine Mz.p_min ?_ | with_reducible refine Mz.p_abs ?_ | (with_reducible refine (?_ : Mz.SatX _ _ _); simp only [List.set_cons_zero, List.set_cons_succ])) | (with_reducible refine (?_ : Mz.SatX _ (Mz.Sm.j _ _ _ _) _); first | with_reducible refine Mz.j_cons ?_ | with_reducible refine Mz.j_nil ?_ | (with_reducible refine (?_ : Mz.SatX _ _ _); simp only [List.set_cons_zero, List.set_cons_succ])) | (with_reducible refine (?_ : Mz.SatX _ _ _); simp only [List.set_cons_zero, List.set_cons_succ]) | with_reducible refine ⟨(by simp only [List.length_cons, List.length_nil, PySem.sizeLine_eq]; omega : (List.length _ ≤ PySem.sizeLine)), ?_⟩))
local macro_rules | `(tactic| walk_at "st") => `(tactic| simp only [Mz.startG, List.map_cons, List.map_nil, List.length_cons, List.length_nil, Nat.reduceAdd, Nat.reduceSub, List.replicate, List.cons_append, List.nil_append, Nat.zero_add])
namespace Pt
open PySem PySem.Spec L2 Mz TL Rc
section
variable {E : PEnv} {S : Store} {g : Sg} {Q : D → Store → Prop} {QI : IK → Store → Prop} {Y : Xc → Store → Prop} {as b : T}
theorem zip_at {xs ys : List D} {i : Nat} : ((xs.zip ys).map fun p => D.tup [p.1, p.2])[i]? = (match xs[i]?, ys[i]? with | some x, some y => some (.tup [x, y]) | _, _ => none) := by
  rw [List.getElem?_map]
  induction xs generalizing ys i with
  | nil => simp
  | cons x xs ih =>
    cases ys with
    | nil =>
      simp
    | cons y ys =>
      cases i with
      | zero => rfl
      | succ i => simpa using ih (ys := ys) (i := i)
theorem is_zip {p q i : Nat} {xs ys : List D} (h1 : S[p]? = some (.lst xs)) (h2 : S[q]? = some (.lst ys)) : istep (.zip p q) i S = some ((xs.zip ys).map fun p => D.tup [p.1, p.2])[i]? := by
  rw [zip_at]
  unfold istep
  simp only [h1, h2]
  cases xs[i]? with
  | none => rfl
  | some x => cases ys[i]? <;> rfl
theorem ib_zip {p q : Nat} {xs ys : List D} (h1 : S[p]? = some (.lst xs)) (h2 : S[q]? = some (.lst ys)) : ibound (.zip p q) S = xs.length + 1 := by
  unfold ibound; simp only [h1]
theorem i_zip (h : SatX Y ((sem E as).a g S) fun ds S => ∃ (p q : Nat) (xs ys : List D), ds = [.loc p, .loc q] ∧ S[p]? = some (.lst xs) ∧ S[q]? = some (.lst ys) ∧ QI (.zip p q) S) : SatX Y ((sem E (.izip as)).i g S) QI := by
  refine sat_bind.mpr (h.mono fun ds S h => ?_)
  obtain ⟨p, q, xs, ys, rfl, h1, h2, hq⟩ := h
  show SatX Y (match S[p]?, S[q]? with | some (.lst _), some (.lst _) => O.ok (IK.zip p q) S | _, _ => .no) QI
  rw [h1, h2]
  exact hq
theorem mapM_int : ∀ ns : List Int, (ns.map D.int).mapM asInt = some ns
  | [] => rfl
  | n :: ns => by rw [List.map_cons, List.mapM_cons, mapM_int ns]; rfl
theorem p_any {l : Nat} {bs : List Bool} (hS : S[l]? = some (.lst (bs.map .bl))) (q : Q (.bl (bs.any id)) S) : SatX Y (semBlt .any1 [.loc l] S) Q := by
  unfold semBlt
  simp only [listAt_loc hS, mapM_bl]
  exact q
theorem p_sum {l : Nat} {ns : List Int} (hS : S[l]? = some (.lst (ns.map .int))) (q : Q (.int ns.sum) S) : SatX Y (semBlt .sum1 [.loc l] S) Q := by
  unfold semBlt
  simp only [listAt_loc hS, mapM_int]
  exact q
theorem k_thru {Z : Xc → Sg → Store → Prop} {N B C : Sg → Store → Prop} {Rt : D → Store → Prop} (h : SatR ((sem E b).b g S) N Rt B C) : SatRX Z ((sem E (.thru b)).s g S) N Rt B C := by
  show SatRX Z (sThru (sem E b).b g S) N Rt B C
  unfold sThru
  cases e : (sem E b).b g S with
  | ex x g S => rw [e] at h; exact h.elim
  | no => rw [e] at h; exact h.elim
  | nx _ _ => rw [e] at h; exact h
  | rt _ _ => rw [e] at h; exact h
  | bk _ _ => rw [e] at h; exact h
  | ct _ _ => rw [e] at h; exact h
/-- a comprehension over what stands still, with turns to spare -/
theorem lcLoop_ge {ik : IK} {t : SG} {xs : List D} {ts : ST} {el : SE} {g0 : Sg} {Q : List D → Store → Prop} (P : Nat → List D → Store → Prop) (st : ∀ i acc S, P i acc S → istep ik i S = some xs[i]?)
    (turn : ∀ i d acc S, xs[i]? = some d → P i acc S → SatX Y (t d g0 S) fun g S => SatX Y (ts g S) fun c S => (c = true → SatX Y (el g S) fun y S => acc.length < sizeLine ∧ P (i + 1) (acc ++ [y]) S) ∧ (c = false → P (i + 1) acc S))
    (done : ∀ acc S, P xs.length acc S → Q acc S) : ∀ n i acc S, xs.length + 1 ≤ i + n → i ≤ xs.length → P i acc S → SatX Y (lcLoop ik t ts el g0 n i acc S) Q := by
  intro n i acc S hn hi p
  obtain ⟨m, rfl⟩ : ∃ m, n = m + (xs.length + 1 - i) := ⟨n - (xs.length + 1 - i), by omega⟩
  have mono : ∀ (n m i : Nat) (acc : List D) (S : Store), SatX Y (lcLoop ik t ts el g0 n i acc S) Q → SatX Y (lcLoop ik t ts el g0 (m + n) i acc S) Q := by
    intro n
    induction n with
    | zero => intro m i acc S h; exact h.elim
    | succ n ih =>
      intro m i acc S h
      show SatX Y (match istep ik i S with
        | some (some d) => (t d g0 S).bind fun g S => (ts g S).bind fun c S => if c = true then (el g S).bind fun y S => if acc.length < sizeLine then lcLoop ik t ts el g0 (m + n) (i + 1) (acc ++ [y]) S else .no else lcLoop ik t ts el g0 (m + n) (i + 1) acc S
        | some none => .ok acc S
        | none => .no) Q
      have h : SatX Y (match istep ik i S with
        | some (some d) => (t d g0 S).bind fun g S => (ts g S).bind fun c S => if c = true then (el g S).bind fun y S => if acc.length < sizeLine then lcLoop ik t ts el g0 n (i + 1) (acc ++ [y]) S else .no else lcLoop ik t ts el g0 n (i + 1) acc S
        | some none => .ok acc S
        | none => .no) Q := h
      cases e : istep ik i S with
      | none => rw [e] at h; exact h
      | some od =>
        cases od with
        | none => rw [e] at h; exact h
        | some d =>
          rw [e] at h
          refine sat_bind.mpr ((sat_bind.mp h).mono fun g S h => sat_bind.mpr ((sat_bind.mp h).mono fun c S h => ?_))
          cases c with
          | true =>
            rw [if_pos rfl] at h ⊢
            refine sat_bind.mpr ((sat_bind.mp h).mono fun y S h => ?_)
            split
            · rename_i hz
              rw [if_pos hz] at h
              exact ih m _ _ _ h
            · rename_i hz
              rw [if_neg hz] at h
              exact h
          | false =>
            rw [if_neg Bool.false_ne_true] at h ⊢
            exact ih m _ _ _ h
  exact mono _ m i acc S (lcLoop_at P st turn done _ i acc S (by omega) hi p)
end
end Pt

end

section
set_option Elab.async false
set_option linter.all false
set_option maxRecDepth 100000
set_option maxHeartbeats 4000000
namespace k88
open PySem PySem.Spec L2 Mz
def topS (i : Nat) : Stmt := PySem.Challenge.pw_leafround_k88_patches_lead_over.main.body.getD i (.Pass ⟨0, 0, 0, 0⟩)
def t_table : T := (.cons (.alc 2 [4] (.var 4) (.irng (.cons (.bin .add (.blt .len (.cons (.var 0) .nil)) (.int 1)) .nil)) .nil (.bin .mul (.lst (.cons (.int 0) .nil)) (.bin .add (.blt .len (.cons (.var 1) .nil)) (.int 1)))) (.cons (.for_ (.tup (.cons (.var 3) (.cons (.var 4) .nil))) (.ienum (.cons (.var 0) .nil)) (.cons (.for_ (.tup (.cons (.var 5) (.cons (.var 6) .nil))) (.ienum (.cons (.var 1) .nil)) (.cons (.asg (.sub (.sub (.var 2) (.bin .add (.var 3) (.int 1))) (.bin .add (.var 5) (.int 1))) (.ife (.cmp .eq (.var 4) (.var 6)) (.bin .add (.sub (.sub (.var 2) (.var 3)) (.var 5)) (.int 1)) (.blt .max2 (.cons (.sub (.sub (.var 2) (.var 3)) (.bin .add (.var 5) (.int 1))) (.cons (.sub (.sub (.var 2) (.bin .add (.var 3) (.int 1))) (.var 5)) .nil))))) .nil)) .nil)) (.cons (.ret (.var 2)) .nil)))
abbrev s_table : Stmt := topS 4
theorem sc_table : FnScope ["old", "new", "found", "i", "one", "j", "other"] ["old", "new"] (defScope s_table) := ⟨rfl, rfl, rfl, by decide +kernel, rfl, by decide +kernel, by decide +kernel⟩
def t_steps_between : T := (.cons (.asg (.var 2) (.call "table" (.cons (.var 0) (.cons (.var 1) .nil)))) (.cons (.par 4 5 (.cons (.blt .len (.cons (.var 0) .nil)) (.cons (.blt .len (.cons (.var 1) .nil)) .nil))) (.cons (.asg (.var 3) (.lst .nil)) (.cons (.whl 1000000 (.or (.cmp .gt (.var 4) (.int 0)) (.cmp .gt (.var 5) (.int 0))) (.cons (.ifs (.and (.cmp .gt (.var 4) (.int 0)) (.and (.cmp .gt (.var 5) (.int 0)) (.cmp .eq (.sub (.var 0) (.bin .sub (.var 4) (.int 1))) (.sub (.var 1) (.bin .sub (.var 5) (.int 1)))))) (.cons (.par 4 5 (.cons (.bin .sub (.var 4) (.int 1)) (.cons (.bin .sub (.var 5) (.int 1)) .nil))) (.cons (.ex (.mth .append (.var 3) (.cons (.tup (.cons (.str "keep") (.cons .non .nil))) .nil))) .nil)) (.cons (.ifs (.and (.cmp .gt (.var 5) (.int 0)) (.or (.cmp .eq (.var 4) (.int 0)) (.cmp .ge (.sub (.sub (.var 2) (.var 4)) (.bin .sub (.var 5) (.int 1))) (.sub (.sub (.var 2) (.bin .sub (.var 4) (.int 1))) (.var 5))))) (.cons (.aug 5 .sub (.int 1)) (.cons (.ex (.mth .append (.var 3) (.cons (.tup (.cons (.str "put") (.cons (.sub (.var 1) (.var 5)) .nil))) .nil))) .nil)) (.cons (.aug 4 .sub (.int 1)) (.cons (.ex (.mth .append (.var 3) (.cons (.tup (.cons (.str "cut") (.cons .non .nil))) .nil))) .nil))) .nil)) .nil)) (.cons (.ret (.rev (.var 3))) .nil)))))
abbrev s_steps_between : Stmt := topS 5
theorem sc_steps_between : FnScope ["old", "new", "known", "found", "i", "j"] ["old", "new"] (defScope s_steps_between) := ⟨rfl, rfl, rfl, by decide +kernel, rfl, by decide +kernel, by decide +kernel⟩
def t_patch : T := (.cons (.asg (.var 2) (.lst .nil)) (.cons (.for_ (.tup (.cons (.var 3) (.cons (.var 4) .nil))) (.call "steps_between" (.cons (.var 0) (.cons (.var 1) .nil))) (.cons (.ifs (.or (.cmp .eq (.var 2) (.lst .nil)) (.cmp .ne (.sub (.sub (.var 2) (.neg (.int 1))) (.int 0)) (.var 3))) (.cons (.ex (.mth .append (.var 2) (.cons (.tup (.cons (.var 3) (.cons (.ife (.cmp .eq (.var 3) (.str "put")) (.tup .nil) (.int 0)) .nil))) .nil))) .nil) .nil) (.cons (.asg (.var 5) (.ife (.cmp .eq (.var 3) (.str "put")) (.tup (.cons (.var 4) .nil)) (.int 1))) (.cons (.asg (.sub (.var 2) (.neg (.int 1))) (.tup (.cons (.var 3) (.cons (.bin .add (.sub (.sub (.var 2) (.neg (.int 1))) (.int 1)) (.var 5)) .nil)))) .nil)))) (.cons (.ret (.var 2)) .nil)))
abbrev s_patch : Stmt := topS 6
theorem sc_patch : FnScope ["old", "new", "found", "word", "line", "more"] ["old", "new"] (defScope s_patch) := ⟨rfl, rfl, rfl, by decide +kernel, rfl, by decide +kernel, by decide +kernel⟩
def t_put_on : T := (.cons (.asg (.var 2) (.lst .nil)) (.cons (.asg (.var 3) (.int 0)) (.cons (.for_ (.tup (.cons (.var 4) (.cons (.tup (.cons (.var 5) (.cons (.var 6) .nil))) .nil))) (.ienum (.cons (.var 1) .nil)) (.cons (.ifs (.cmp .eq (.var 5) (.str "put")) (.cons (.ex (.mth .extend (.var 2) (.cons (.var 6) .nil))) .nil) (.cons (.ifs (.cmp .gt (.bin .add (.var 3) (.var 6)) (.blt .len (.cons (.var 0) .nil))) (.cons .stk .nil) .nil) (.cons (.ifs (.cmp .eq (.var 5) (.str "keep")) (.cons (.ex (.mth .extend (.var 2) (.cons (.sli (.var 0) (.var 3) (.bin .add (.var 3) (.var 6))) .nil))) .nil) .nil) (.cons (.aug 3 .add (.var 6)) .nil)))) .nil)) (.cons (.ifs (.cmp .lt (.var 3) (.blt .len (.cons (.var 0) .nil))) (.cons .stk .nil) .nil) (.cons (.ret (.var 2)) .nil)))))
abbrev s_put_on : Stmt := topS 7
theorem sc_put_on : FnScope ["lines", "patch", "found", "at", "number", "word", "what"] ["lines", "patch"] (defScope s_put_on) := ⟨rfl, rfl, rfl, by decide +kernel, rfl, by decide +kernel, by decide +kernel⟩
def t_is_whole : T := (.cons (.ret (.and (.isi .int (.var 0)) (.nt (.isi .bool (.var 0))))) .nil)
abbrev s_is_whole : Stmt := topS 8
theorem sc_is_whole : FnScope ["thing"] ["thing"] (defScope s_is_whole) := ⟨rfl, rfl, rfl, by decide +kernel, rfl, by decide +kernel, by decide +kernel⟩
def t_is_row : T := (.cons (.ifs (.or (.nt (.isi .tuple (.var 0))) (.cmp .ne (.blt .len (.cons (.var 0) .nil)) (.int 2))) (.cons (.ret (.bl false)) .nil) .nil) (.cons (.asg (.tup (.cons (.var 1) (.cons (.var 2) .nil))) (.var 0)) (.cons (.ifs (.cmp .in_ (.var 1) (.tup (.cons (.str "keep") (.cons (.str "cut") .nil)))) (.cons (.ret (.and (.call "is_whole" (.cons (.var 2) .nil)) (.cmp .gt (.var 2) (.int 0)))) .nil) .nil) (.cons (.ret (.and (.cmp .eq (.var 1) (.str "put")) (.and (.isi .tuple (.var 2)) (.and (.cmp .ne (.var 2) (.tup .nil)) (.blt .all1 (.cons (.lc [3] (.var 3) (.var 2) .nil (.isi .str (.var 3))) .nil)))))) .nil))))
abbrev s_is_row : Stmt := topS 9
theorem sc_is_row : FnScope ["thing", "word", "what", "one"] ["thing"] (defScope s_is_row) := ⟨rfl, rfl, rfl, by decide +kernel, rfl, by decide +kernel, by decide +kernel⟩
def t_is_patch : T := (.cons (.ifs (.or (.nt (.isi .list (.var 2))) (.nt (.blt .all1 (.cons (.lc [4] (.var 4) (.var 2) .nil (.call "is_row" (.cons (.var 4) .nil))) .nil)))) (.cons (.ret (.bl false)) .nil) .nil) (.cons (.alc 3 [4] (.var 4) (.var 2) .nil (.sub (.var 4) (.int 0))) (.cons (.ifs (.blt .any1 (.cons (.lc [5, 6] (.tup (.cons (.var 5) (.cons (.var 6) .nil))) (.izip (.cons (.var 3) (.cons (.sli (.var 3) (.int 1) .nil) .nil))) .nil (.cmp .eq (.var 5) (.var 6))) .nil)) (.cons (.ret (.bl false)) .nil) .nil) (.cons (.ifs (.cmp .ne (.blt .sum1 (.cons (.lc [4] (.var 4) (.var 2) (.cons (.cmp .eq (.sub (.var 4) (.int 0)) (.str "keep")) .nil) (.sub (.var 4) (.int 1))) .nil)) (.sub (.sub (.call "table" (.cons (.var 0) (.cons (.var 1) .nil))) (.neg (.int 1))) (.neg (.int 1)))) (.cons (.ret (.bl false)) .nil) .nil) (.cons (.thru (.cons (.ret (.cmp .eq (.call "put_on" (.cons (.var 0) (.cons (.var 2) .nil))) (.blt .list1 (.cons (.var 1) .nil)))) .nil)) .nil)))))
abbrev s_is_patch : Stmt := topS 10
theorem sc_is_patch : FnScope ["old", "new", "thing", "words", "row", "one", "other"] ["old", "new", "thing"] (defScope s_is_patch) := ⟨rfl, rfl, rfl, by decide +kernel, rfl, by decide +kernel, by decide +kernel⟩
def t_is_table : T := (.cons (.ifs (.or (.nt (.isi .list (.var 2))) (.nt (.blt .all1 (.cons (.lc [3] (.var 3) (.var 2) .nil (.isi .list (.var 3))) .nil)))) (.cons (.ret (.bl false)) .nil) .nil) (.cons (.ret (.and (.cmp .eq (.var 2) (.call "table" (.cons (.var 0) (.cons (.var 1) .nil)))) (.blt .all1 (.cons (.lc2 [3, 4] (.var 3) (.var 2) .nil (.var 4) (.var 3) .nil (.call "is_whole" (.cons (.var 4) .nil))) .nil)))) .nil))
abbrev s_is_table : Stmt := topS 11
theorem sc_is_table : FnScope ["old", "new", "thing", "row", "one"] ["old", "new", "thing"] (defScope s_is_table) := ⟨rfl, rfl, rfl, by decide +kernel, rfl, by decide +kernel, by decide +kernel⟩
def t__law_roll : T := (.cons (.ifs (.cmp .eq (.sub (.var 0) (.int 2)) (.int 0)) (.cons (.asg (.var 3) (.sub (.var 0) (.int 1))) (.cons (.asg (.sub (.var 0) (.int 1)) (.bin .add (.var 3) (.int 1))) (.cons (.asg (.var 4) (.int 0)) (.cons (.ifs (.cmp .ne (.sub (.var 0) (.int 0)) (.lst .nil)) (.cons (.asg (.var 4) (.sub (.sub (.var 0) (.int 0)) (.bin .mod (.var 3) (.blt .len (.cons (.sub (.var 0) (.int 0)) .nil))))) .nil) .nil) (.cons (.ifs (.or (.cmp .ge (.var 3) (.blt .len (.cons (.sub (.var 0) (.int 0)) .nil))) (.cmp .lt (.var 4) (.bin .pow (.int 10) (.int 18)))) (.cons (.asg (.var 5) (.bin .mod (.bin .mul (.bin .add (.bin .mod (.var 4) (.int 999953)) (.int 37)) (.bin .add (.bin .add (.bin .mul (.var 3) (.var 3)) (.bin .mul (.int 79) (.var 3))) (.int 4001))) (.int 1000003))) (.cons (.asg (.var 5) (.bin .mod (.bin .pow (.var 5) (.int 3)) (.int 998244353))) (.cons (.ret (.bin .mod (.bin .fdiv (.bin .mod (.bin .add (.var 5) (.bin .mul (.int 7109) (.var 3))) (.int 1000033)) (.int 2)) (.var 1))) .nil))) .nil) (.cons (.asg (.sub (.var 0) (.int 2)) (.int 30)) (.cons (.asg (.sub (.var 0) (.int 3)) (.bin .sub (.var 4) (.bin .pow (.int 10) (.int 18)))) .nil))))))) .nil) (.cons (.asg (.sub (.var 0) (.int 2)) (.bin .sub (.sub (.var 0) (.int 2)) (.int 1))) (.cons (.asg (.var 2) (.sub (.var 0) (.int 3))) (.cons (.asg (.sub (.var 0) (.int 3)) (.bin .fdiv (.var 2) (.var 1))) (.cons (.ret (.bin .mod (.var 2) (.var 1))) .nil)))))
abbrev s__law_roll : Stmt := topS 13
theorem sc__law_roll : FnScope ["_law_dice", "_law_size", "_law_rest", "_law_spot", "_law_cell", "_law_seed"] ["_law_dice", "_law_size"] (defScope s__law_roll) := ⟨rfl, rfl, rfl, by decide +kernel, rfl, by decide +kernel, by decide +kernel⟩
def t__law_pick : T := (.cons (.ret (.sub (.var 1) (.call "_law_roll" (.cons (.var 0) (.cons (.blt .len (.cons (.var 1) .nil)) .nil))))) .nil)
abbrev s__law_pick : Stmt := topS 14
theorem sc__law_pick : FnScope ["_law_dice", "_law_some"] ["_law_dice", "_law_some"] (defScope s__law_pick) := ⟨rfl, rfl, rfl, by decide +kernel, rfl, by decide +kernel, by decide +kernel⟩
def t__law_whole : T := (.cons (.ret (.and (.isi .int (.var 0)) (.nt (.isi .bool (.var 0))))) .nil)
abbrev s__law_whole : Stmt := topS 15
theorem sc__law_whole : FnScope ["_law_thing"] ["_law_thing"] (defScope s__law_whole) := ⟨rfl, rfl, rfl, by decide +kernel, rfl, by decide +kernel, by decide +kernel⟩
def t__law_lines_drawn : T := (.cons (.asg (.var 1) (.call "_law_pick" (.cons (.var 0) (.cons (.lst (.cons (.int 2) (.cons (.int 3) (.cons (.int 9) .nil)))) .nil)))) (.cons (.asg (.var 2) (.sli (.lst (.cons (.str "- a") (.cons (.str "- b") (.cons (.str "  = 1") (.cons (.str "") (.cons (.str "    = 1") (.cons (.str "  ^") (.cons (.str "= 1") (.cons (.str "yy") (.cons (.str "- ") .nil)))))))))) .nil (.var 1))) (.cons (.ret (.lc [3] (.var 3) (.irng (.cons (.call "_law_roll" (.cons (.var 0) (.cons (.int 15) .nil))) .nil)) .nil (.call "_law_pick" (.cons (.var 0) (.cons (.var 2) .nil))))) .nil)))
abbrev s__law_lines_drawn : Stmt := topS 16
theorem sc__law_lines_drawn : FnScope ["_law_dice", "_law_few", "_law_some", "_law_k"] ["_law_dice"] (defScope s__law_lines_drawn) := ⟨rfl, rfl, rfl, by decide +kernel, rfl, by decide +kernel, by decide +kernel⟩
def t__law_other : T := (.cons (.asg (.var 2) (.blt .list1 (.cons (.var 1) .nil))) (.cons (.for_ (.var 3) (.irng (.cons (.call "_law_roll" (.cons (.var 0) (.cons (.int 5) .nil))) .nil)) (.cons (.asg (.var 4) (.call "_law_roll" (.cons (.var 0) (.cons (.bin .add (.blt .len (.cons (.var 2) .nil)) (.int 1)) .nil)))) (.cons (.asg (.var 5) (.call "_law_roll" (.cons (.var 0) (.cons (.bin .add (.blt .len (.cons (.var 2) .nil)) (.int 1)) .nil)))) (.cons (.asg (.var 6) (.call "_law_roll" (.cons (.var 0) (.cons (.int 4) .nil)))) (.cons (.ifs (.cmp .eq (.var 6) (.int 0)) (.cons (.asg (.var 2) (.bin .add (.sli (.var 2) .nil (.var 4)) (.sli (.var 2) (.bin .add (.var 4) (.int 1)) .nil))) .nil) (.cons (.ifs (.cmp .eq (.var 6) (.int 1)) (.cons (.ex (.mth .insert (.var 2) (.cons (.var 4) (.cons (.call "_law_pick" (.cons (.var 0) (.cons (.lst (.cons (.str "- a") (.cons (.str "- b") (.cons (.str "new") (.cons (.str "") .nil))))) .nil))) .nil)))) .nil) (.cons (.ifs (.and (.cmp .eq (.var 6) (.int 2)) (.cmp .lt (.var 4) (.blt .len (.cons (.var 2) .nil)))) (.cons (.asg (.sub (.var 2) (.var 4)) (.str "turned")) .nil) (.cons (.asg (.var 7) (.sli (.var 2) (.var 4) (.bin .add (.var 4) (.int 1)))) (.cons (.asg (.var 2) (.bin .add (.sli (.var 2) .nil (.var 4)) (.sli (.var 2) (.bin .add (.var 4) (.int 1)) .nil))) (.cons (.asg (.sls (.var 2) (.var 5) (.var 5)) (.var 7)) .nil)))) .nil)) .nil)) .nil))))) (.cons (.ret (.call "_law_pick" (.cons (.var 0) (.cons (.lst (.cons (.var 2) (.cons (.var 2) (.cons (.call "_law_lines_drawn" (.cons (.var 0) .nil)) (.cons (.blt .list1 (.cons (.var 1) .nil)) (.cons (.lst .nil) .nil)))))) .nil)))) .nil)))
abbrev s__law_other : Stmt := topS 17
theorem sc__law_other : FnScope ["_law_dice", "_law_old", "_law_found", "_law_turn", "_law_at", "_law_to", "_law_way", "_law_line"] ["_law_dice", "_law_old"] (defScope s__law_other) := ⟨rfl, rfl, rfl, by decide +kernel, rfl, by decide +kernel, by decide +kernel⟩
def t__law_table : T := (.cons (.asg (.var 2) (.lst (.cons (.bin .mul (.lst (.cons (.int 0) .nil)) (.bin .add (.blt .len (.cons (.var 1) .nil)) (.int 1))) .nil))) (.cons (.for_ (.var 3) (.var 0) (.cons (.asg (.var 4) (.sub (.var 2) (.neg (.int 1)))) (.cons (.asg (.var 5) (.lst (.cons (.int 0) .nil))) (.cons (.for_ (.tup (.cons (.var 6) (.cons (.var 7) .nil))) (.ienum (.cons (.var 1) .nil)) (.cons (.ex (.mth .append (.var 5) (.cons (.ife (.cmp .eq (.var 3) (.var 7)) (.bin .add (.sub (.var 4) (.var 6)) (.int 1)) (.blt .max2 (.cons (.sub (.var 5) (.neg (.int 1))) (.cons (.sub (.var 4) (.bin .add (.var 6) (.int 1))) .nil)))) .nil))) .nil)) (.cons (.ex (.mth .append (.var 2) (.cons (.var 5) .nil))) .nil))))) (.cons (.ret (.var 2)) .nil)))
abbrev s__law_table : Stmt := topS 18
theorem sc__law_table : FnScope ["_law_old", "_law_new", "_law_found", "_law_one", "_law_above", "_law_line", "_law_j", "_law_other_here"] ["_law_old", "_law_new"] (defScope s__law_table) := ⟨rfl, rfl, rfl, by decide +kernel, rfl, by decide +kernel, by decide +kernel⟩
def t__law_led : T := (.cons (.asg (.var 2) (.lst .nil)) (.cons (.asg (.var 3) (.int 0)) (.cons (.asg (.var 4) (.blt .list1 (.cons (.var 0) .nil))) (.cons (.for_ (.tup (.cons (.var 5) (.cons (.var 6) .nil))) (.var 1) (.cons (.ifs (.cmp .eq (.var 5) (.str "put")) (.cons (.asg (.var 2) (.bin .add (.var 2) (.blt .list1 (.cons (.var 6) .nil)))) .nil) (.cons (.ifs (.cmp .gt (.var 6) (.blt .len (.cons (.var 4) .nil))) (.cons (.ret (.tup (.cons .non (.cons (.int 0) .nil)))) .nil) (.cons (.ifs (.cmp .eq (.var 5) (.str "keep")) (.cons (.asg (.var 2) (.bin .add (.var 2) (.sli (.var 4) .nil (.var 6)))) (.cons (.asg (.var 3) (.bin .add (.var 3) (.var 6))) .nil)) .nil) (.cons (.asg (.var 4) (.sli (.var 4) (.var 6) .nil)) .nil))) .nil)) .nil)) (.cons (.ret (.ife (.cmp .ne (.var 4) (.lst .nil)) (.tup (.cons .non (.cons (.int 0) .nil))) (.tup (.cons (.var 2) (.cons (.var 3) .nil))))) .nil)))))
abbrev s__law_led : Stmt := topS 19
theorem sc__law_led : FnScope ["_law_old", "_law_rows", "_law_found", "_law_kept", "_law_left", "_law_word", "_law_what"] ["_law_old", "_law_rows"] (defScope s__law_led) := ⟨rfl, rfl, rfl, by decide +kernel, rfl, by decide +kernel, by decide +kernel⟩
def t__law_form : T := (.cons (.ifs (.nt (.isi .list (.var 0))) (.cons (.ret (.bl false)) .nil) .nil) (.cons (.asg (.var 1) .non) (.cons (.for_ (.var 2) (.var 0) (.cons (.ifs (.or (.nt (.isi .tuple (.var 2))) (.cmp .ne (.blt .len (.cons (.var 2) .nil)) (.int 2))) (.cons (.ret (.bl false)) .nil) .nil) (.cons (.ifs (.or (.nt (.isi .str (.sub (.var 2) (.int 0)))) (.cmp .eq (.sub (.var 2) (.int 0)) (.var 1))) (.cons (.ret (.bl false)) .nil) .nil) (.cons (.asg (.tup (.cons (.var 1) (.cons (.var 3) .nil))) (.var 2)) (.cons (.ifs (.cmp .in_ (.var 1) (.tup (.cons (.str "keep") (.cons (.str "cut") .nil)))) (.cons (.ifs (.or (.nt (.call "_law_whole" (.cons (.var 3) .nil))) (.cmp .lt (.var 3) (.int 1))) (.cons (.ret (.bl false)) .nil) .nil) .nil) (.cons (.ifs (.or (.cmp .ne (.var 1) (.str "put")) (.or (.nt (.isi .tuple (.var 3))) (.cmp .eq (.var 3) (.tup .nil)))) (.cons (.ret (.bl false)) .nil) (.cons (.ifs (.cmp .ne (.lc [4] (.var 4) (.var 3) (.cons (.nt (.isi .str (.var 4))) .nil) (.var 4)) (.lst .nil)) (.cons (.ret (.bl false)) .nil) .nil) .nil)) .nil)) .nil))))) (.cons (.ret (.bl true)) .nil))))
abbrev s__law_form : Stmt := topS 20
theorem sc__law_form : FnScope ["_law_rows", "_law_last", "_law_one", "_law_what", "_law_line"] ["_law_rows"] (defScope s__law_form) := ⟨rfl, rfl, rfl, by decide +kernel, rfl, by decide +kernel, by decide +kernel⟩
def t__law_right : T := (.cons (.asg (.var 2) (.lst (.cons (.blt .list1 (.cons (.var 0) .nil)) (.cons (.blt .list1 (.cons (.var 1) .nil)) .nil)))) (.cons (.asg (.var 3) (.call "_law_table" (.cons (.var 0) (.cons (.var 1) .nil)))) (.cons (.asg (.var 4) (.call "table" (.cons (.sub (.var 2) (.int 0)) (.cons (.sub (.var 2) (.int 1)) .nil)))) (.cons (.ifs (.or (.cmp .ne (.var 4) (.var 3)) (.cmp .isnot (.call "is_table" (.cons (.sub (.var 2) (.int 0)) (.cons (.sub (.var 2) (.int 1)) (.cons (.var 4) .nil)))) (.bl true))) (.cons (.ret (.bl false)) .nil) .nil) (.cons (.for_ (.var 5) (.var 4) (.cons (.ifs (.or (.nt (.isi .list (.var 5))) (.cmp .ne (.lc [8] (.var 8) (.var 5) (.cons (.nt (.call "_law_whole" (.cons (.var 8) .nil))) .nil) (.var 8)) (.lst .nil))) (.cons (.ret (.bl false)) .nil) .nil) .nil)) (.cons (.asg (.var 6) (.call "patch" (.cons (.sub (.var 2) (.int 0)) (.cons (.sub (.var 2) (.int 1)) .nil)))) (.cons (.ifs (.or (.nt (.call "_law_form" (.cons (.var 6) .nil))) (.cmp .ne (.call "_law_led" (.cons (.var 0) (.cons (.var 6) .nil))) (.tup (.cons (.blt .list1 (.cons (.var 1) .nil)) (.cons (.sub (.sub (.var 3) (.neg (.int 1))) (.neg (.int 1))) .nil))))) (.cons (.ret (.bl false)) .nil) .nil) (.cons (.ifs (.cmp .isnot (.call "is_patch" (.cons (.sub (.var 2) (.int 0)) (.cons (.sub (.var 2) (.int 1)) (.cons (.var 6) .nil)))) (.bl true)) (.cons (.ret (.bl false)) .nil) .nil) (.cons (.asg (.var 7) (.call "put_on" (.cons (.sub (.var 2) (.int 0)) (.cons (.var 6) .nil)))) (.cons (.ifs (.or (.nt (.isi .list (.var 7))) (.cmp .ne (.var 7) (.blt .list1 (.cons (.var 1) .nil)))) (.cons (.ret (.bl false)) .nil) .nil) (.cons (.ex (.mth .append (.var 7) (.cons (.str "x") .nil))) (.cons (.ex (.mth .append (.var 6) (.cons (.tup (.cons (.str "cut") (.cons (.int 1) .nil))) .nil))) (.cons (.ex (.mth .append (.sub (.var 4) (.int 0)) (.cons (.int 7) .nil))) (.cons (.ifs (.cmp .ne (.sli (.var 4) (.int 1) .nil) (.sli (.var 3) (.int 1) .nil)) (.cons (.ret (.bl false)) .nil) .nil) (.cons (.ex (.mth .append (.var 4) (.cons (.lst .nil) .nil))) (.cons (.ret (.and (.cmp .eq (.var 2) (.lst (.cons (.var 0) (.cons (.var 1) .nil)))) (.cmp .eq (.call "put_on" (.cons (.var 0) (.cons (.call "patch" (.cons (.var 0) (.cons (.var 1) .nil))) .nil))) (.var 1)))) .nil))))))))))))))))
abbrev s__law_right : Stmt := topS 21
theorem sc__law_right : FnScope ["_law_old", "_law_new", "_law_handed", "_law_due", "_law_told", "_law_line", "_law_rows", "_law_led_to", "_law_one"] ["_law_old", "_law_new"] (defScope s__law_right) := ⟨rfl, rfl, rfl, by decide +kernel, rfl, by decide +kernel, by decide +kernel⟩
def t_law : T := (.cons (.ifs (.or (.cmp .ne (.call "table" (.cons (.lst .nil) (.cons (.lst .nil) .nil))) (.lst (.cons (.lst (.cons (.int 0) .nil)) .nil))) (.or (.cmp .ne (.call "patch" (.cons (.lst .nil) (.cons (.lst .nil) .nil))) (.lst .nil)) (.cmp .ne (.call "put_on" (.cons (.lst .nil) (.cons (.lst .nil) .nil))) (.lst .nil)))) (.cons (.ret (.bl false)) .nil) .nil) (.cons (.asg (.var 1) (.lst (.cons (.blt .list1 (.cons (.sli (.var 0) .nil (.int 63)) .nil)) (.cons (.int 0) (.cons (.int 0) (.cons (.int 0) .nil)))))) (.cons (.for_ (.var 2) (.irng (.cons (.int 3) .nil)) (.cons (.asg (.var 3) (.call "_law_lines_drawn" (.cons (.var 1) .nil))) (.cons (.asg (.var 4) (.call "_law_other" (.cons (.var 1) (.cons (.var 3) .nil)))) (.cons (.ifs (.or (.nt (.call "_law_right" (.cons (.var 3) (.cons (.var 4) .nil)))) (.or (.nt (.call "_law_right" (.cons (.var 4) (.cons (.var 3) .nil)))) (.nt (.call "_law_right" (.cons (.var 3) (.cons (.blt .list1 (.cons (.var 3) .nil)) .nil)))))) (.cons (.ret (.bl false)) .nil) .nil) .nil)))) (.cons (.ret (.bl true)) .nil))))
abbrev s_law : Stmt := topS 22
theorem sc_law : FnScope ["_law_script", "_law_dice", "_law_turn", "_law_old", "_law_new"] ["_law_script"] (defScope s_law) := ⟨rfl, rfl, rfl, by decide +kernel, rfl, by decide +kernel, by decide +kernel⟩
def prg : Prg where
  tab := [("table", ⟨2, 7, t_table⟩), ("steps_between", ⟨2, 6, t_steps_between⟩), ("patch", ⟨2, 6, t_patch⟩), ("put_on", ⟨2, 7, t_put_on⟩), ("is_whole", ⟨1, 1, t_is_whole⟩), ("is_row", ⟨1, 4, t_is_row⟩), ("is_patch", ⟨3, 7, t_is_patch⟩), ("is_table", ⟨3, 5, t_is_table⟩), ("_law_roll", ⟨2, 6, t__law_roll⟩), ("_law_pick", ⟨2, 2, t__law_pick⟩), ("_law_whole", ⟨1, 1, t__law_whole⟩), ("_law_lines_drawn", ⟨1, 4, t__law_lines_drawn⟩), ("_law_other", ⟨2, 8, t__law_other⟩), ("_law_table", ⟨2, 8, t__law_table⟩), ("_law_led", ⟨2, 7, t__law_led⟩), ("_law_form", ⟨1, 5, t__law_form⟩), ("_law_right", ⟨2, 9, t__law_right⟩), ("law", ⟨1, 5, t_law⟩)]
  G := []
  tops := ["table", "steps_between", "patch", "put_on", "is_whole", "is_row", "is_patch", "is_table", "_law_roll", "_law_pick", "_law_whole", "_law_lines_drawn", "_law_other", "_law_table", "_law_led", "_law_form", "_law_right", "law"]
  mts := []
  mks := []
  fls := []
  xcl := []
  xms := []
  cal := [("table", 2), ("patch", 2), ("put_on", 2), ("_law_lines_drawn", 1), ("_law_other", 2), ("_law_right", 2), ("_law_table", 2), ("is_table", 3), ("_law_whole", 1), ("_law_form", 1), ("_law_led", 2), ("is_patch", 3), ("steps_between", 2), ("is_row", 1), ("is_whole", 1), ("_law_roll", 2), ("_law_pick", 2), ("law", 1)]
  dfl := []
  kws := []
theorem ck_table : (chk prg.st t_table).b ⟨["old", "new", "found", "i", "one", "j", "other"], defScope s_table, true⟩ (defBody s_table) = true := by decide +kernel
theorem ck_steps_between : (chk prg.st t_steps_between).b ⟨["old", "new", "known", "found", "i", "j"], defScope s_steps_between, true⟩ (defBody s_steps_between) = true := by decide +kernel
theorem ck_patch : (chk prg.st t_patch).b ⟨["old", "new", "found", "word", "line", "more"], defScope s_patch, true⟩ (defBody s_patch) = true := by decide +kernel
theorem ck_put_on : (chk prg.st t_put_on).b ⟨["lines", "patch", "found", "at", "number", "word", "what"], defScope s_put_on, true⟩ (defBody s_put_on) = true := by decide +kernel
theorem ck_is_whole : (chk prg.st t_is_whole).b ⟨["thing"], defScope s_is_whole, true⟩ (defBody s_is_whole) = true := by decide +kernel
theorem ck_is_row : (chk prg.st t_is_row).b ⟨["thing", "word", "what", "one"], defScope s_is_row, true⟩ (defBody s_is_row) = true := by decide +kernel
theorem ck_is_patch : (chk prg.st t_is_patch).b ⟨["old", "new", "thing", "words", "row", "one", "other"], defScope s_is_patch, true⟩ (defBody s_is_patch) = true := by decide +kernel
theorem ck_is_table : (chk prg.st t_is_table).b ⟨["old", "new", "thing", "row", "one"], defScope s_is_table, true⟩ (defBody s_is_table) = true := by decide +kernel
theorem ck__law_roll : (chk prg.st t__law_roll).b ⟨["_law_dice", "_law_size", "_law_rest", "_law_spot", "_law_cell", "_law_seed"], defScope s__law_roll, true⟩ (defBody s__law_roll) = true := by decide +kernel
theorem ck__law_pick : (chk prg.st t__law_pick).b ⟨["_law_dice", "_law_some"], defScope s__law_pick, true⟩ (defBody s__law_pick) = true := by decide +kernel
theorem ck__law_whole : (chk prg.st t__law_whole).b ⟨["_law_thing"], defScope s__law_whole, true⟩ (defBody s__law_whole) = true := by decide +kernel
theorem ck__law_lines_drawn : (chk prg.st t__law_lines_drawn).b ⟨["_law_dice", "_law_few", "_law_some", "_law_k"], defScope s__law_lines_drawn, true⟩ (defBody s__law_lines_drawn) = true := by decide +kernel
theorem ck__law_other : (chk prg.st t__law_other).b ⟨["_law_dice", "_law_old", "_law_found", "_law_turn", "_law_at", "_law_to", "_law_way", "_law_line"], defScope s__law_other, true⟩ (defBody s__law_other) = true := by decide +kernel
theorem ck__law_table : (chk prg.st t__law_table).b ⟨["_law_old", "_law_new", "_law_found", "_law_one", "_law_above", "_law_line", "_law_j", "_law_other_here"], defScope s__law_table, true⟩ (defBody s__law_table) = true := by decide +kernel
theorem ck__law_led : (chk prg.st t__law_led).b ⟨["_law_old", "_law_rows", "_law_found", "_law_kept", "_law_left", "_law_word", "_law_what"], defScope s__law_led, true⟩ (defBody s__law_led) = true := by decide +kernel
theorem ck__law_form : (chk prg.st t__law_form).b ⟨["_law_rows", "_law_last", "_law_one", "_law_what", "_law_line"], defScope s__law_form, true⟩ (defBody s__law_form) = true := by decide +kernel
theorem ck__law_right : (chk prg.st t__law_right).b ⟨["_law_old", "_law_new", "_law_handed", "_law_due", "_law_told", "_law_line", "_law_rows", "_law_led_to", "_law_one"], defScope s__law_right, true⟩ (defBody s__law_right) = true := by decide +kernel
theorem ck_law : (chk prg.st t_law).b ⟨["_law_script", "_law_dice", "_law_turn", "_law_old", "_law_new"], defScope s_law, true⟩ (defBody s_law) = true := by decide +kernel
theorem r_table (k : Nat) (x0 x1 : D) (S : Store) : prg.run (k + 1) "table" [x0, x1] S = runBody 7 (sem (prg.env (prg.run k)) t_table).b [x0, x1] S := by rfl
theorem r_steps_between (k : Nat) (x0 x1 : D) (S : Store) : prg.run (k + 1) "steps_between" [x0, x1] S = runBody 6 (sem (prg.env (prg.run k)) t_steps_between).b [x0, x1] S := by rfl
theorem r_patch (k : Nat) (x0 x1 : D) (S : Store) : prg.run (k + 1) "patch" [x0, x1] S = runBody 6 (sem (prg.env (prg.run k)) t_patch).b [x0, x1] S := by rfl
theorem r_put_on (k : Nat) (x0 x1 : D) (S : Store) : prg.run (k + 1) "put_on" [x0, x1] S = runBody 7 (sem (prg.env (prg.run k)) t_put_on).b [x0, x1] S := by rfl
theorem r_is_whole (k : Nat) (x0 : D) (S : Store) : prg.run (k + 1) "is_whole" [x0] S = runBody 1 (sem (prg.env (prg.run k)) t_is_whole).b [x0] S := by rfl
theorem r_is_row (k : Nat) (x0 : D) (S : Store) : prg.run (k + 1) "is_row" [x0] S = runBody 4 (sem (prg.env (prg.run k)) t_is_row).b [x0] S := by rfl
theorem r_is_patch (k : Nat) (x0 x1 x2 : D) (S : Store) : prg.run (k + 1) "is_patch" [x0, x1, x2] S = runBody 7 (sem (prg.env (prg.run k)) t_is_patch).b [x0, x1, x2] S := by rfl
theorem r_is_table (k : Nat) (x0 x1 x2 : D) (S : Store) : prg.run (k + 1) "is_table" [x0, x1, x2] S = runBody 5 (sem (prg.env (prg.run k)) t_is_table).b [x0, x1, x2] S := by rfl
theorem r__law_roll (k : Nat) (x0 x1 : D) (S : Store) : prg.run (k + 1) "_law_roll" [x0, x1] S = runBody 6 (sem (prg.env (prg.run k)) t__law_roll).b [x0, x1] S := by rfl
theorem r__law_pick (k : Nat) (x0 x1 : D) (S : Store) : prg.run (k + 1) "_law_pick" [x0, x1] S = runBody 2 (sem (prg.env (prg.run k)) t__law_pick).b [x0, x1] S := by rfl
theorem r__law_whole (k : Nat) (x0 : D) (S : Store) : prg.run (k + 1) "_law_whole" [x0] S = runBody 1 (sem (prg.env (prg.run k)) t__law_whole).b [x0] S := by rfl
theorem r__law_lines_drawn (k : Nat) (x0 : D) (S : Store) : prg.run (k + 1) "_law_lines_drawn" [x0] S = runBody 4 (sem (prg.env (prg.run k)) t__law_lines_drawn).b [x0] S := by rfl
theorem r__law_other (k : Nat) (x0 x1 : D) (S : Store) : prg.run (k + 1) "_law_other" [x0, x1] S = runBody 8 (sem (prg.env (prg.run k)) t__law_other).b [x0, x1] S := by rfl
theorem r__law_table (k : Nat) (x0 x1 : D) (S : Store) : prg.run (k + 1) "_law_table" [x0, x1] S = runBody 8 (sem (prg.env (prg.run k)) t__law_table).b [x0, x1] S := by rfl
theorem r__law_led (k : Nat) (x0 x1 : D) (S : Store) : prg.run (k + 1) "_law_led" [x0, x1] S = runBody 7 (sem (prg.env (prg.run k)) t__law_led).b [x0, x1] S := by rfl
theorem r__law_form (k : Nat) (x0 : D) (S : Store) : prg.run (k + 1) "_law_form" [x0] S = runBody 5 (sem (prg.env (prg.run k)) t__law_form).b [x0] S := by rfl
theorem r__law_right (k : Nat) (x0 x1 : D) (S : Store) : prg.run (k + 1) "_law_right" [x0, x1] S = runBody 9 (sem (prg.env (prg.run k)) t__law_right).b [x0, x1] S := by rfl
theorem r_law (k : Nat) (x0 : D) (S : Store) : prg.run (k + 1) "law" [x0] S = runBody 5 (sem (prg.env (prg.run k)) t_law).b [x0] S := by rfl
end k88

end

section
set_option Elab.async false
set_option linter.all false
set_option maxRecDepth 100000
set_option maxHeartbeats 4000000
local macro_rules | `(tactic| walk_at "cl") => `(tactic| first | assumption | exact Mz.new_at | exact Mz.set_at (by walk_at "cl") | exact Mz.app_at (by walk_at "cl") | exact Mz.Grow.at ‹_› (by walk_at "cl"))
local macro_rules | `(tactic| walk_at "go") => `(tactic| repeat (first | (with_reducible refine (?_ : Mz.SatX _ (Mz.Sm.e (Mz.sem _ (Mz.T.var _)) _ _) _); first | (with_reducible refine (?_ : Mz.SatX _ _ _); simp only [List.set_cons_zero, List.set_cons_succ]) | with_reducible refine Mz.x_var (by with_unfolding_all exact rfl) ?_) | (with_reducible refine (?_ : Mz.SatRX _ _ _ _ _ _); first | with_reducible refine Mz.k_cons ?_ | with_reducible refine Mz.k_asgS ?_ | with_reducible refine Mz.k_retS ?_ | with_reducible refine Mz.k_exS ?_) | (with_reducible refine (?_ : Mz.SatX _ (Mz.Sm.e _ _ _) _); first | with_reducible refine Mz.x_int ?_ | with_reducible refine Mz.x_str ?_ | with_reducible refine Mz.x_bin ?_ | with_reducible refine Mz.x_cmp ?_ | with_reducible refine Mz.x_sub ?_ | with_reducible refine Mz.x_call ?_ | with_reducible refine Mz.x_blt ?_ | with_reducible refine Mz.x_tup ?_ | with_reducible refine Mz.x_lst ?_ | with_reducible refine Mz.x_bl ?_ | with_reducible refine Mz.x_non ?_ | with_reducible refine Mz.x_fst ?_ | with_reducible refine Mz.x_fmt ?_ | with_reducible refine Mz.x_chain ?_ | (with_reducible refine (?_ : Mz.SatX _ _ _); simp only [List.set_cons_zero, List.set_cons_succ])) | (with_reducible refine (?_ : Mz.SatX _ (Mz.Sm.a _ _ _) _); first | with_reducible refine Mz.x_cons ?_ | with_reducible refine Mz.x_nil ?_ | (with_reducible refine (?_ : Mz.SatX _ _ _); simp only [List.set_cons_zero, List.set_cons_succ])) | (with_reducible refine (?_ : Mz.SatX _ (Mz.semItem _ _ _) _); first | with_reducible refine Mz.p_itT (by decide) rfl ?_ | (with_reducible refine (?_ : Mz.SatX _ _ _); simp only [List.set_cons_zero, List.set_cons_succ])) | (with_reducible refine (?_ : Mz.SatX _ (Mz.semBop _ _ _ _) _); first | with_reducible refine Mz.p_add ?_ | with_reducible refine Mz.p_sub ?_ | (with_reducible refine (?_ : Mz.SatX _ _ _); simp only [List.set_cons_zero, List.set_cons_succ])) | (with_reducible refine (?_ : Mz.SatX _ (Mz.semCop _ _ _ _) _); first | with_reducible refine Mz.p_eqI ?_ | with_reducible refine Mz.p_neI ?_ | with_reducible refine Mz.p_eqS ?_ | with_reducible refine Mz.p_neS ?_ | with_reducible refine Mz.p_lt ?_ | with_reducible refine Mz.p_le ?_ | with_reducible refine Mz.p_ge ?_ | with_reducible refine Mz.p_gt ?_ | with_reducible refine Mz.p_leS ?_ | with_reducible refine Mz.p_is ?_ | with_reducible refine Mz.p_isnot ?_ | (with_reducible refine (?_ : Mz.SatX _ _ _); simp only [List.set_cons_zero, List.set_cons_succ])) | (with_reducible refine (?_ : Mz.SatX _ (Mz.Sm.t _ _ _) _); first | with_reducible refine Mz.y_cmp ?_ | with_reducible refine Mz.y_chain ?_ | (with_reducible refine (?_ : Mz.SatX _ _ _); simp only [List.set_cons_zero, List.set_cons_succ])) | (with_reducible refine (?_ : Mz.SatX _ (Mz.semBlt _ _ _) _); first | with_reducible refine Mz.p_ord ?_ | with_reducible refine Mz.p_max ?_ | with_reducible refine Mz.p_min ?_ | with_reducible refine Mz.p_abs ?_ | (with_reducible refine (?_ : Mz.SatX _ _ _); simp only [List.set_cons_zero, List.set_cons_succ])) | (with_reducible refine (?_ : Mz.SatX _ (Mz.Sm.j _ _ _ _) _); first | with_reducible refine Mz.j_cons ?_ | with_reducible refine Mz.j_nil ?_ | (with_reducible refine (?_ : Mz.SatX _ _ _); simp only [List.set_cons_zero, List.set_cons_succ])) | (with_reducible refine (?_ : Mz.SatX _ _ _); simp only [List.set_cons_zero, List.set_cons_succ]) | with_reducible refine ⟨(by simp only [List.length_cons, List.length_nil, PySem.sizeLine_eq]; omega : (List.length _ ≤ PySem.sizeLine)), ?_⟩))
local macro_rules | `(tactic| walk_at "st") => `(tactic| simp only [Mz.startG, List.map_cons, List.map_nil, List.length_cons, List.length_nil, Nat.reduceAdd, Nat.reduceSub, List.replicate, List.cons_append, List.nil_append, Nat.zero_add])
namespace k88
open PySem PySem.Spec L2 Mz TL Rc Pt
theorem hT : Pt.HasT prg := by
  constructor <;> first | rfl | decide +kernel
variable {K : Nat} {S : Store} {pa pb pr n l : Nat} {ns : List Int} {B : Int} {a b : List Str} {rs : List (Row Str)} {Q : D → Store → Prop} {Y : Xc → Store → Prop}
theorem put_onK {k' : Nat} (hK : 1 ≤ K) (ha : PgAt S pa a) (hr : RowsAt' S pr rs) (la : a.length ≤ 60) (fr : ∀ r ∈ rs, r.fine) (lr : rs.length ≤ 200) (h : runR rs a = some (b, k')) :
    Sat (prg.run K "put_on" [.loc pa, .loc pr] S) fun d S' => ∃ r, d = .loc r ∧ S.length ≤ r ∧ PgAt S' r b ∧ Old S S' := by
  obtain ⟨k, rfl⟩ := Pt.fuel hK
  rw [r_put_on, sat_runBody]; unfold t_put_on
  walk_at "st"
  walk_at "go"
  refine k_forS (i_enumE (x_var (by with_unfolding_all exact rfl) ⟨pr, _, rfl, app_at hr, ?_⟩))
  have o1 : Old S (S ++ [Cell.lst []]) := .app
  have f1 : PgAt (S ++ [Cell.lst []]) S.length [] := new_at
  generalize S ++ [Cell.lst []] = S1 at o1 f1 ⊢
  rw [ib_enum (o1.at hr)]
  refine floop_at (xs := enumOf (rs.map rowDD)) (fun i g S' => Old S S' ∧ ∃ (at_ k2 : Nat) (out rest : List Str) (v4 v5 v6 : Option D), g = [some (.loc pa), some (.loc pr), some (.loc S.length), some (.int (at_ : Nat)), v4, v5, v6] ∧ PgAt S' S.length out ∧ at_ ≤ a.length ∧ out.length ≤ 200 * i ∧ runR (rs.drop i) (a.drop at_) = some (rest, k2) ∧ out ++ rest = b)
    (fun i g S' p => is_enum (p.1.at hr)) (fun i d g S2 hi p => ?_) (fun g S' p => ?_) _ 0 _ _ (by rw [enumOf_len]; omega) (Nat.zero_le _) ⟨o1, 0, k', [], b, _, _, _, rfl, f1, Nat.zero_le _, Nat.le_refl _, h, rfl⟩
  · obtain ⟨o2, at_, k2, out, rest, v4, v5, v6, rfl, hf, hat, lo, er, eb⟩ := p
    obtain ⟨d, hd, rfl⟩ := enum_at hi
    rw [List.getElem?_map] at hd
    cases hq : rs[i]? with
    | none => rw [hq] at hd; cases hd
    | some r =>
      rw [hq] at hd
      cases hd
      have hil := (List.getElem?_eq_some_iff.mp hq).1
      have fi := fr r (List.mem_of_getElem? hq)
      have hl2 := o2.at ha
      rw [List.drop_eq_getElem_cons hil, (List.getElem?_eq_some_iff.mp hq).2] at er
      refine sat_ok.mpr ?_
      simp only [List.set_cons_zero, List.set_cons_succ]
      refine k_cons (k_ifS (y_cmp ?_))
      walk_at "go"
      refine ⟨_, rfl, fun hp => ?_, fun hp => ?_⟩
      · cases r with
        | keep n => exact absurd hp (show ¬ decide (wd 0 = ("put" : Str)) = true by decide +kernel)
        | cut n => exact absurd hp (show ¬ decide (wd 1 = ("put" : Str)) = true by decide +kernel)
        | put xs =>
          have fx := fi.2
          rw [run_put] at er
          cases e2 : runR (rs.drop (i + 1)) (a.drop at_) with
          | none => rw [e2] at er; cases er
          | some q =>
            rw [e2] at er
            cases er
            refine k_cons (k_exS (x_mth (x_var (by with_unfolding_all exact rfl) ⟨ty_lst rfl hf, ?_⟩)))
            refine x_cons (x_var (d := .tup (xs.map .str)) (by with_unfolding_all exact rfl) (x_nil ?_))
            refine p_extendT hf (by simp; omega) ?_
            rw [app_d]
            exact k_nil (k_nil ⟨o2.set (Nat.le_refl _), at_, _, out ++ xs, _, _, _, _, rfl, set_at hf, hat, by rw [List.length_append]; omega, e2, by rw [List.append_assoc]; exact eb⟩)
      · obtain ⟨m, hm, en⟩ : ∃ m : Nat, rowA r = .int (m : Nat) ∧ m ≤ 120 := by
          cases r with
          | keep n => exact ⟨n, rfl, fi⟩
          | cut n => exact ⟨n, rfl, fi⟩
          | put xs => exact absurd hp (show ¬ decide (wd 2 = ("put" : Str)) = false by decide +kernel)
        have hfit : m ≤ a.length - at_ := by
          cases r with
          | keep x =>
            cases hm
            rw [run_keep] at er
            by_cases z : m ≤ (a.drop at_).length
            · rwa [List.length_drop] at z
            · rw [if_neg z] at er; cases er
          | cut x =>
            cases hm
            rw [run_cut] at er
            by_cases z : m ≤ (a.drop at_).length
            · rwa [List.length_drop] at z
            · rw [if_neg z] at er; cases er
          | put xs => cases hm
        have hfit2 : m ≤ (a.drop at_).length := by rw [List.length_drop]; exact hfit
        have ed : (a.drop at_).drop m = a.drop (at_ + m) := List.drop_drop ..
        rw [hm]
        refine k_cons (k_ifS (y_cmp ?_))
        walk_at "go"
        refine p_lenL hl2 ?_
        walk_at "go"
        rw [List.length_map]
        refine ⟨_, rfl, fun hw => ?_, fun hw => k_nil ?_⟩
        · have hw : ((a.length : Nat) : Int) < (at_ : Int) + (m : Int) := of_decide_eq_true hw
          omega
        refine k_cons (k_ifS (y_cmp ?_))
        walk_at "go"
        have ea : ((at_ : Nat) : Int) + ((m : Nat) : Int) = ((at_ + m : Nat) : Int) := by omega
        refine ⟨_, rfl, fun hkp => ?_, fun hkp => ?_⟩
        · cases r with
          | cut n => exact absurd hkp (show ¬ decide (wd 1 = ("keep" : Str)) = true by decide +kernel)
          | put xs => cases hm
          | keep x =>
            cases hm
            rw [run_keep, if_pos hfit2] at er
            cases e2 : runR (rs.drop (i + 1)) ((a.drop at_).drop m) with
            | none => rw [e2] at er; cases er
            | some q =>
              rw [e2] at er
              cases er
              refine k_cons (k_exS (x_mth (x_var (by with_unfolding_all exact rfl) ⟨ty_lst rfl hf, ?_⟩)))
              refine x_cons (x_sli rfl rfl (x_var (by with_unfolding_all exact rfl) ?_))
              walk_at "go"
              refine ⟨_, rfl, ?_⟩
              walk_at "go"
              refine ⟨_, rfl, p_cutL hl2 ?_⟩
              rw [ea, cut_ab (by omega), ← List.map_take, ← List.map_drop]
              have hf3 : PgAt (S2 ++ [Cell.lst (((a.take (at_ + m)).drop at_).map .str)]) S.length out := app_at hf
              have hn3 : PgAt (S2 ++ [Cell.lst (((a.take (at_ + m)).drop at_).map .str)]) S2.length ((a.take (at_ + m)).drop at_) := new_at
              have o3 : Old S (S2 ++ [Cell.lst (((a.take (at_ + m)).drop at_).map .str)]) := o2.trans .app
              generalize S2 ++ [Cell.lst (((a.take (at_ + m)).drop at_).map .str)] = S3 at hf3 hn3 o3 ⊢
              walk_at "go"
              refine p_extend hf3 hn3 (by simp; omega) ?_
              rw [app_d]
              refine k_nil (k_cons (k_augS (by with_unfolding_all exact rfl) ?_))
              walk_at "go"
              refine ⟨_, rfl, ?_⟩
              rw [ea]
              have et : (a.take (at_ + m)).drop at_ = (a.drop at_).take m := by rw [List.drop_take]; congr 1; omega
              refine k_nil (k_nil ⟨o3.set (Nat.le_refl _), at_ + m, _, out ++ (a.take (at_ + m)).drop at_, _, _, _, _, rfl, set_at hf3, by omega, by simp; omega, by rw [← ed]; exact e2, ?_⟩)
              rw [et, List.append_assoc]
              exact eb
        · cases r with
          | keep n => exact absurd hkp (show ¬ decide (wd 0 = ("keep" : Str)) = false by decide +kernel)
          | put xs => cases hm
          | cut x =>
            cases hm
            rw [run_cut, if_pos hfit2] at er
            refine k_nil (k_cons (k_augS (by with_unfolding_all exact rfl) ?_))
            walk_at "go"
            refine ⟨_, rfl, ?_⟩
            rw [ea]
            exact k_nil (k_nil ⟨o2, at_ + m, _, out, rest, _, _, _, rfl, hf, by omega, by omega, by rw [← ed]; exact er, eb⟩)
  · obtain ⟨o2, at_, k2, out, rest, v4, v5, v6, rfl, hf, hat, lo, er, eb⟩ := p
    rw [enumOf_len, List.length_map, List.drop_length] at er
    have hl2 := o2.at ha
    have hend : a.drop at_ = [] ∧ rest = [] := by
      cases e3 : a.drop at_ with
      | nil => rw [e3] at er; unfold runR at er; cases er; exact ⟨rfl, rfl⟩
      | cons x xs => rw [e3] at er; unfold runR at er; cases er
    have hat2 : a.length ≤ at_ := by
      have := congrArg List.length hend.1
      rw [List.length_drop] at this
      simp at this
      omega
    refine k_cons (k_ifS (y_cmp ?_))
    walk_at "go"
    refine p_lenL hl2 ?_
    walk_at "go"
    rw [List.length_map]
    refine ⟨_, rfl, fun hw => ?_, fun hw => k_nil ?_⟩
    · have hw : ((at_ : Nat) : Int) < (a.length : Int) := of_decide_eq_true hw
      omega
    walk_at "go"
    rw [hend.2, List.append_nil] at eb
    exact ⟨S.length, rfl, Nat.le_refl _, by rw [← eb]; exact hf, o2⟩
def keepN : Row Str → Option Int
  | .keep n => some (n : Nat)
  | _ => none
theorem kept_sum : ∀ rs : List (Row Str), (rs.filterMap keepN).sum = (kept rs : Int)
  | [] => rfl
  | .keep n :: r => by
    rw [List.filterMap_cons_some (show keepN (.keep n) = some (n : Int) from rfl), List.sum_cons, kept_sum r]
    show (n : Int) + (kept r : Int) = ((n + kept r : Nat) : Int)
    omega
  | .cut n :: r => by rw [List.filterMap_cons_none (show keepN (.cut n) = none from rfl), kept_sum r]; rfl
  | .put n :: r => by rw [List.filterMap_cons_none (show keepN (.put n) = none from rfl), kept_sum r]; rfl
theorem alt_at {rs : List (Row Str)} (al : Alt rs) {j : Nat} {x y : Row Str} (hx : rs[j]? = some x) (hy : rs[j + 1]? = some y) : x.w ≠ y.w := by
  induction rs generalizing j x y with
  | nil => simp at hx
  | cons u rs ih =>
    cases rs with
    | nil => simp at hy
    | cons v rs =>
      have al : u.w ≠ v.w ∧ Alt (v :: rs) := al
      cases j with
      | zero =>
        have hx : u = x := by simpa using hx
        have hy : v = y := by simpa using hy
        subst hx hy
        exact al.1
      | succ j => exact ih al.2 (by simpa using hx) (by simpa using hy)
theorem any_rep (n : Nat) : (List.replicate n false).any id = false := by
  induction n with
  | zero => rfl
  | succ n ih => rw [List.replicate_succ, List.any_cons, ih]; rfl
theorem isPatchK (hK : 4 ≤ K) (ha : PgAt S pa a) (hb : PgAt S pb b) (la : a.length ≤ 60) (lb : b.length ≤ 60) (fb : Fine b) (hr : RowsAt' S pr rs) (al : Alt rs) (fr : ∀ q ∈ rs, q.ok ∧ q.fine) (lr : rs.length ≤ 200) (h : runR rs a = some (b, L a b a.length b.length)) :
    Sat (prg.run K "is_patch" [.loc pa, .loc pb, .loc pr] S) fun d S' => d = .bl true ∧ Old S S' := by
  obtain ⟨k, rfl⟩ := Pt.fuel hK
  have hrl : (rs.map rowDD).length = rs.length := List.length_map ..
  rw [r_is_patch, sat_runBody]; unfold t_is_patch
  walk_at "st"
  refine k_cons (k_ifS (y_or (y_not (y_isi ?_))))
  walk_at "go"
  refine p_isL hr ⟨_, rfl, fun z => (by cases z), fun _ => y_not (y_blt (x_cons (x_lc (i_vL (by with_unfolding_all exact rfl) hr ?_))))⟩
  rw [ib_lst hr]
  refine lcLoop_at (xs := rs.map rowDD) (fun i acc S' => acc = (List.replicate i true).map D.bl ∧ Old S S') (fun i acc S' p => is_lst (p.2.at hr)) (fun i d acc S' hi p => ?_) (fun acc S1 p => ?_) _ 0 [] S (by omega) (Nat.zero_le _) ⟨rfl, .refl _⟩
  · obtain ⟨rfl, o⟩ := p
    rw [List.getElem?_map] at hi
    cases hx : rs[i]? with
    | none => rw [hx] at hi; cases hi
    | some r =>
      rw [hx] at hi
      cases hi
      have hil := (List.getElem?_eq_some_iff.mp hx).1
      obtain ⟨ok, fi⟩ := fr r (List.mem_of_getElem? hx)
      refine sat_ok.mpr (sat_ok.mpr ⟨fun _ => x_call ?_, fun z => by cases z⟩)
      refine x_cons (x_var (by with_unfolding_all exact rfl) (x_nil ?_))
      refine (isRowK hT (by omega) ok fi).mono fun d S2 h2 => ?_
      obtain ⟨rfl, o2⟩ := h2
      refine ⟨?_, ?_, o.trans o2⟩
      · rw [List.length_map, List.length_replicate, sizeLine_eq]; omega
      · rw [List.replicate_succ', List.map_append]; rfl
  obtain ⟨rfl, o1⟩ := p
  walk_at "go"
  refine p_all new_at ?_
  rw [all_rep]
  refine ⟨_, rfl, fun z => (by cases z), fun _ => k_nil ?_⟩
  have o1 := o1.trans (Old.app (c := [Cell.lst ((List.replicate (rs.map rowDD).length true).map D.bl)]))
  generalize S1 ++ [Cell.lst ((List.replicate (rs.map rowDD).length true).map D.bl)] = S2 at o1 ⊢
  have hr2 := o1.at hr
  -- the words
  refine k_cons (k_alc (x_lc (i_vL (by with_unfolding_all exact rfl) hr2 ?_)))
  rw [ib_lst hr2]
  refine lcLoop_at (xs := rs.map rowDD) (fun i acc S' => acc = ((rs.take i).map fun r => D.str (wd r.w)) ∧ S' = S2) (fun i acc S' p => by rw [p.2]; exact is_lst hr2) (fun i d acc S' hi p => ?_) (fun acc S' p => ?_) _ 0 [] S2 (by omega) (Nat.zero_le _) ⟨rfl, rfl⟩
  · obtain ⟨rfl, e'⟩ := p
    obtain rfl := e'.symm
    rw [List.getElem?_map] at hi
    cases hx : rs[i]? with
    | none => rw [hx] at hi; cases hi
    | some r =>
      rw [hx] at hi
      cases hi
      have hil := (List.getElem?_eq_some_iff.mp hx).1
      refine sat_ok.mpr (sat_ok.mpr ⟨fun _ => x_sub (x_var (by with_unfolding_all exact rfl) ?_), fun z => by cases z⟩)
      walk_at "go"
      refine p_itT (xs := [.str (wd r.w), rowA r]) (by decide) rfl ⟨?_, ?_, rfl⟩
      · rw [List.length_map, List.length_take, sizeLine_eq]; omega
      · rw [List.take_add_one, hx, List.map_append]; rfl
  obtain ⟨rfl, e'⟩ := p
  obtain rfl := e'.symm
  rw [hrl, List.take_length]
  have o3 : Old S (S2 ++ [Cell.lst (rs.map fun r => D.str (wd r.w))]) := o1.trans .app
  have hw3 : (S2 ++ [Cell.lst (rs.map fun r => D.str (wd r.w))])[S2.length]? = some (Cell.lst (rs.map fun r => D.str (wd r.w))) := new_at
  generalize S2 ++ [Cell.lst (rs.map fun r => D.str (wd r.w))] = S3 at o3 hw3 ⊢
  generalize S2.length = w at hw3 ⊢
  have hwl : (rs.map fun r => D.str (wd r.w)).length = rs.length := List.length_map ..
  refine k_cons (k_ifS (y_blt (x_cons (x_lc (i_zip ?_)))))
  walk_at "go"
  refine x_sliD rfl ?_
  walk_at "go"
  refine ⟨_, rfl, p_cutL hw3 ?_⟩
  have e1 : cutD (rs.map fun r => D.str (wd r.w)) (some (1 : Int)) none = (rs.map fun r => D.str (wd r.w)).drop 1 := cut_lo (i := 1)
  rw [e1]
  have hw4 : (S3 ++ [Cell.lst ((rs.map fun r => D.str (wd r.w)).drop 1)])[w]? = some (Cell.lst (rs.map fun r => D.str (wd r.w))) := app_at hw3
  have hv4 : (S3 ++ [Cell.lst ((rs.map fun r => D.str (wd r.w)).drop 1)])[S3.length]? = some (Cell.lst ((rs.map fun r => D.str (wd r.w)).drop 1)) := new_at
  have o4 : Old S (S3 ++ [Cell.lst ((rs.map fun r => D.str (wd r.w)).drop 1)]) := o3.trans .app
  generalize S3 ++ [Cell.lst ((rs.map fun r => D.str (wd r.w)).drop 1)] = S4 at o4 hw4 hv4 ⊢
  generalize S3.length = w1 at hv4 ⊢
  walk_at "go"
  refine ⟨w, w1, _, _, rfl, hw4, hv4, ?_⟩
  rw [ib_zip hw4 hv4]
  refine lcLoop_ge (xs := (((rs.map fun r => D.str (wd r.w)).zip ((rs.map fun r => D.str (wd r.w)).drop 1)).map fun p => D.tup [p.1, p.2])) (fun i acc S' => acc = (List.replicate i false).map D.bl ∧ S' = S4) (fun i acc S' p => by rw [p.2]; exact is_zip hw4 hv4) (fun i d acc S' hi p => ?_) (fun acc S' p => ?_) _ 0 [] S4 (by simp) (Nat.zero_le _) ⟨rfl, rfl⟩
  · obtain ⟨rfl, e'⟩ := p
    obtain rfl := e'.symm
    have hil := (List.getElem?_eq_some_iff.mp hi).1
    rw [zip_at, List.getElem?_drop, List.getElem?_map, List.getElem?_map] at hi
    cases hx : rs[i]? with
    | none => rw [hx] at hi; cases hi
    | some x =>
      cases hy : rs[1 + i]? with
      | none => rw [hx, hy] at hi; cases hi
      | some y =>
        rw [hx, hy] at hi
        cases hi
        have hil := (List.getElem?_eq_some_iff.mp hx).1
        have ne := alt_at al hx (by rw [Nat.add_comm]; exact hy)
        refine sat_ok.mpr (sat_ok.mpr ⟨fun _ => x_cmp ?_, fun z => by cases z⟩)
        refine x_var (by with_unfolding_all exact rfl) (x_var (by with_unfolding_all exact rfl) ?_)
        refine p_eqS ?_
        rw [wd_eq ⟨x.w, row_lt x⟩ ⟨y.w, row_lt y⟩, decide_eq_false ne]
        refine ⟨?_, ?_, rfl⟩
        · rw [List.length_map, List.length_replicate, sizeLine_eq]; omega
        · rw [List.replicate_succ', List.map_append]; rfl
  obtain ⟨rfl, e'⟩ := p
  obtain rfl := e'.symm
  walk_at "go"
  refine p_any new_at ?_
  rw [any_rep]
  refine ⟨_, rfl, fun z => (by cases z), fun _ => k_nil ?_⟩
  generalize List.length (List.map (fun p => D.tup [p.1, p.2]) ((rs.map fun r => D.str (wd r.w)).zip ((rs.map fun r => D.str (wd r.w)).drop 1))) = zn
  have o5 := o4.trans (Old.app (c := [Cell.lst ((List.replicate zn false).map D.bl)]))
  generalize S4 ++ [Cell.lst ((List.replicate zn false).map D.bl)] = S5 at o5 ⊢
  have hr5 := o5.at hr
  -- how many are kept
  refine k_cons (k_ifS (y_cmp (x_blt (x_cons (x_lc (i_vL (by with_unfolding_all exact rfl) hr5 ?_))))))
  rw [ib_lst hr5]
  refine lcLoop_at (xs := rs.map rowDD) (fun i acc S' => acc = ((rs.take i).filterMap keepN).map D.int ∧ S' = S5) (fun i acc S' p => by rw [p.2]; exact is_lst hr5) (fun i d acc S' hi p => ?_) (fun acc S' p => ?_) _ 0 [] S5 (by omega) (Nat.zero_le _) ⟨rfl, rfl⟩
  · obtain ⟨rfl, e'⟩ := p
    obtain rfl := e'.symm
    rw [List.getElem?_map] at hi
    cases hx : rs[i]? with
    | none => rw [hx] at hi; cases hi
    | some r =>
      rw [hx] at hi
      cases hi
      have hil := (List.getElem?_eq_some_iff.mp hx).1
      have et : rs.take (i + 1) = rs.take i ++ [r] := by rw [List.take_add_one, hx]; rfl
      have hlen : ((rs.take i).filterMap keepN).length ≤ 200 := by
        have := List.length_filterMap_le keepN (rs.take i)
        rw [List.length_take] at this
        omega
      refine sat_ok.mpr ?_
      rw [show ∀ E : PEnv, ∀ T : T, (sem E (.cons T .nil)).t = (sem E T).t from fun _ _ => rfl]
      refine y_cmp (x_sub (x_var (by with_unfolding_all exact rfl) ?_))
      walk_at "go"
      refine p_itT (xs := [.str (wd r.w), rowA r]) (by decide) rfl ?_
      walk_at "go"
      refine ⟨_, rfl, fun z => ?_, fun z => ?_⟩
      · cases r with
        | cut n => exact absurd z (show ¬ decide (wd 1 = ("keep" : Str)) = true by decide +kernel)
        | put xs => exact absurd z (show ¬ decide (wd 2 = ("keep" : Str)) = true by decide +kernel)
        | keep n =>
          refine x_sub (x_var (by with_unfolding_all exact rfl) ?_)
          walk_at "go"
          refine p_itT (xs := [.str (wd 0), .int (n : Nat)]) (by decide) rfl ⟨?_, ?_, rfl⟩
          · rw [List.length_map, sizeLine_eq]; omega
          · rw [et, List.filterMap_append, List.map_append]; rfl
      · cases r with
        | keep n => exact absurd z (show ¬ decide (wd 0 = ("keep" : Str)) = false by decide +kernel)
        | cut n => exact ⟨by rw [et, List.filterMap_append]; simp [keepN], rfl⟩
        | put xs => exact ⟨by rw [et, List.filterMap_append]; simp [keepN], rfl⟩
  obtain ⟨rfl, e'⟩ := p
  obtain rfl := e'.symm
  rw [hrl, List.take_length]
  have o6 := o5.trans (Old.app (c := [Cell.lst ((rs.filterMap keepN).map D.int)]))
  have hs6 : (S5 ++ [Cell.lst ((rs.filterMap keepN).map D.int)])[S5.length]? = some (Cell.lst ((rs.filterMap keepN).map D.int)) := new_at
  generalize S5 ++ [Cell.lst ((rs.filterMap keepN).map D.int)] = S6 at o6 hs6 ⊢
  walk_at "go"
  refine p_sum hs6 ?_
  rw [kept_sum, run_kept _ _ _ _ h]
  walk_at "go"
  refine (tableK hT (by omega) (o6.at ha) (o6.at hb) la lb).mono fun d S7 h7 => ?_
  obtain ⟨rt, rfl, tb, o7⟩ := h7
  have lastRow : ∃ (xs ys : List D) (ll : Nat), S7[rt]? = some (Cell.lst (xs ++ [.loc ll])) ∧ S7[ll]? = some (Cell.lst (ys ++ [.int (L a b a.length b.length : Nat)])) := by
    obtain ⟨ls, e, alx⟩ := tb.tb
    have hl := alx.len
    rw [tab_len] at hl
    have hlast : ls[a.length]? = some ls[a.length] := List.getElem?_eq_getElem (by omega)
    obtain ⟨row, hr1, hr2⟩ := alx.get hlast
    rw [tab_at (Nat.le_refl _)] at hr1
    cases hr1
    obtain ⟨u, hu⟩ : ∃ u, ls = u ++ [ls[a.length]] := by
      refine ⟨ls.take a.length, ?_⟩
      have := List.take_add_one (l := ls) (i := a.length)
      rw [hlast, List.take_of_length_le (by omega)] at this
      exact this
    refine ⟨u.map .loc, rowD (Pt.pre a b a.length b.length).dropLast, ls[a.length], ?_, ?_⟩
    · rw [e]
      conv => lhs; rw [hu]
      rw [List.map_append]; rfl
    · rw [hr2, ← pre_row]
      have : Pt.pre a b a.length b.length = (Pt.pre a b a.length b.length).dropLast ++ [L a b a.length b.length] := by
        unfold Pt.pre
        rw [List.range_succ, List.map_append]
        simp
      conv => lhs; rw [this]
      rw [rowD_app]
  obtain ⟨xs, ys, ll, hx1, hx2⟩ := lastRow
  refine x_neg ?_
  walk_at "go"
  refine ⟨_, rfl, p_itLast hx1 ?_⟩
  refine x_neg ?_
  walk_at "go"
  refine ⟨_, rfl, p_itLast hx2 ?_⟩
  walk_at "go"
  refine ⟨_, rfl, fun z => ?_, fun _ => k_nil ?_⟩
  · rw [decide_eq_true rfl] at z; cases z
  have o8 := o6.trans o7
  refine k_cons (k_thru ?_)
  refine k_cons (k_retS (x_cmp (x_call ?_)))
  walk_at "go"
  refine (put_onK (by omega) (o8.at ha) (o8.at hr) la (fun r hr => (fr r hr).2) lr h).mono fun d S8 h8 => ?_
  obtain ⟨r8, rfl, g8, h8, o9⟩ := h8
  walk_at "go"
  refine p_list ((o8.trans o9).at hb) ?_
  refine p_eqSame (k := 1) (app_at h8) new_at (by decide) (fun x hx => ?_) (by decide) ⟨rfl, (o8.trans o9).trans .app⟩
  obtain ⟨y, hy, rfl⟩ := List.mem_map.mp hx
  exact pd_str (fb y hy)
end k88

end

section
set_option Elab.async false
set_option linter.all false
set_option maxRecDepth 100000
set_option maxHeartbeats 4000000
local macro_rules | `(tactic| walk_at "cl") => `(tactic| first | assumption | exact Mz.new_at | exact Mz.set_at (by walk_at "cl") | exact Mz.app_at (by walk_at "cl") | exact Mz.Grow.at ‹_› (by walk_at "cl"))
local macro_rules | `(tactic| walk_at "go") => `(tactic| repeat (first | (with_reducible refine (?_ : Mz.SatX _ (Mz.Sm.e (Mz.sem _ (Mz.T.var _)) _ _) _); first | (with_reducible refine (?_ : Mz.SatX _ _ _); simp only [List.set_cons_zero, List.set_cons_succ]) | with_reducible refine Mz.x_var (by with_unfolding_all exact rfl) ?_) | (with_reducible refine (?_ : Mz.SatRX _ _ _ _ _ _); first | with_reducible refine Mz.k_cons ?_ | with_reducible refine Mz.k_asgS ?_ | with_reducible refine Mz.k_retS ?_ | with_reducible refine Mz.k_exS ?_) | (with_reducible refine (?_ : Mz.SatX _ (Mz.Sm.e _ _ _) _); first | with_reducible refine Mz.x_int ?_ | with_reducible refine Mz.x_str ?_ | with_reducible refine Mz.x_bin ?_ | with_reducible refine Mz.x_cmp ?_ | with_reducible refine Mz.x_sub ?_ | with_reducible refine Mz.x_call ?_ | with_reducible refine Mz.x_blt ?_ | with_reducible refine Mz.x_tup ?_ | with_reducible refine Mz.x_lst ?_ | with_reducible refine Mz.x_bl ?_ | with_reducible refine Mz.x_non ?_ | with_reducible refine Mz.x_fst ?_ | with_reducible refine Mz.x_fmt ?_ | with_reducible refine Mz.x_chain ?_ | (with_reducible refine (?_ : Mz.SatX _ _ _); simp only [List.set_cons_zero, List.set_cons_succ])) | (with_reducible refine (?_ : Mz.SatX _ (Mz.Sm.a _ _ _) _); first | with_reducible refine Mz.x_cons ?_ | with_reducible refine Mz.x_nil ?_ | (with_reducible refine (?_ : Mz.SatX _ _ _); simp only [List.set_cons_zero, List.set_cons_succ])) | (with_reducible refine (?_ : Mz.SatX _ (Mz.semItem _ _ _) _); first | with_reducible refine Mz.p_itT (by decide) rfl ?_ | (with_reducible refine (?_ : Mz.SatX _ _ _); simp only [List.set_cons_zero, List.set_cons_succ])) | (with_reducible refine (?_ : Mz.SatX _ (Mz.semBop _ _ _ _) _); first | with_reducible refine Mz.p_add ?_ | with_reducible refine Mz.p_sub ?_ | (with_reducible refine (?_ : Mz.SatX _ _ _); simp only [List.set_cons_zero, List.set_cons_succ])) | (with_reducible refine (?_ : Mz.SatX _ (Mz.semCop _ _ _ _) _); first | with_reducible refine Mz.p_eqI ?_ | with_reducible refine Mz.p_neI ?_ | with_reducible refine Mz.p_eqS ?_ | with_reducible refine Mz.p_neS ?_ | with_reducible refine Mz.p_lt ?_ | with_reducible refine Mz.p_le ?_ | with_reducible refine Mz.p_ge ?_ | with_reducible refine Mz.p_gt ?_ | with_reducible refine Mz.p_leS ?_ | with_reducible refine Mz.p_is ?_ | with_reducible refine Mz.p_isnot ?_ | (with_reducible refine (?_ : Mz.SatX _ _ _); simp only [List.set_cons_zero, List.set_cons_succ])) | (with_reducible refine (?_ : Mz.SatX _ (Mz.Sm.t _ _ _) _); first | with_reducible refine Mz.y_cmp ?_ | with_reducible refine Mz.y_chain ?_ | (with_reducible refine (?_ : Mz.SatX _ _ _); simp only [List.set_cons_zero, List.set_cons_succ])) | (with_reducible refine (?_ : Mz.SatX _ (Mz.semBlt _ _ _) _); first | with_reducible refine Mz.p_ord ?_ | with_reducible refine Mz.p_max ?_ | with_reducible refine Mz.p_min ?_ | with_reducible refine Mz.p_abs ?_ | (with_reducible refine (?_ : Mz.SatX _ _ _); simp only [List.set_cons_zero, List.set_cons_succ])) | (with_reducible refine (?_ : Mz.SatX _ (Mz.Sm.j _ _ _ _) _); first | with_reducible refine Mz.j_cons ?_ | with_reducible refine Mz.j_nil ?_ | (with_reducible refine (?_ : Mz.SatX _ _ _); simp only [List.set_cons_zero, List.set_cons_succ])) | (with_reducible refine (?_ : Mz.SatX _ _ _); simp only [List.set_cons_zero, List.set_cons_succ]) | with_reducible refine ⟨(by simp only [List.length_cons, List.length_nil, PySem.sizeLine_eq]; omega : (List.length _ ≤ PySem.sizeLine)), ?_⟩))
local macro_rules | `(tactic| walk_at "st") => `(tactic| simp only [Mz.startG, List.map_cons, List.map_nil, List.length_cons, List.length_nil, Nat.reduceAdd, Nat.reduceSub, List.replicate, List.cons_append, List.nil_append, Nat.zero_add])
namespace k88
open PySem PySem.Spec L2 Mz TL Rc Pt
variable {K : Nat} {S : Store} {pa pb pr n l : Nat} {ns : List Int} {B : Int} {a b : List Str} {rs : List (Row Str)} {Q : D → Store → Prop} {Y : Xc → Store → Prop}
theorem p_eqNest {k q q' a b a' b' : Nat} {xs ys : List D} (hq : S[q]? = some (.lst [.loc a, .loc b])) (hq' : S[q']? = some (.lst [.loc a', .loc b'])) (h1 : S[a]? = some (.lst xs)) (h2 : S[b]? = some (.lst ys)) (h1' : S[a']? = some (.lst xs)) (h2' : S[b']? = some (.lst ys)) (hk : 0 < k) (pd1 : ∀ x ∈ xs, PD k x) (pd2 : ∀ x ∈ ys, PD k x) (hk2 : k ≤ 60) (h : Q (.bl true) S) : SatX Y (semCop .eq (.loc q) (.loc q') S) Q := by
  obtain ⟨p, g1, g2, g3⟩ := pd_loc (r := a) hk pd1
  obtain ⟨p2, f1, f2, f3⟩ := pd_loc (r := b) hk pd2
  have hl : PyData.canLay0 (.list [.list p, .list p2]) = true := by
    show (PyData.canLay0 (.list p) && (PyData.canLay0 (.list p2) && true)) = true
    rw [g2, f2]; rfl
  have hd : PyData.depth (.list [.list p, .list p2]) < k + 2 := by
    show max (PyData.depth (.list p)) (max (PyData.depth (.list p2)) 0) + 1 < k + 2
    omega
  have sh := shaped_of hl hd (by omega)
  refine p_eqP (p := .list [.list p, .list p2]) (q := .list [.list p, .list p2]) ?_ ?_ sh sh ?_
  · rw [show (70 : Nat) = 69 + 1 from rfl, py_loc hq, List.mapM_cons, g1 S 69 a (by omega) h1, List.mapM_cons, f1 S 69 b (by omega) h2]; rfl
  · rw [show (70 : Nat) = 69 + 1 from rfl, py_loc hq', List.mapM_cons, g1 S 69 a' (by omega) h1', List.mapM_cons, f1 S 69 b' (by omega) h2']; rfl
  · rw [SeqAt.eqv_refl _ hl]
    exact h
theorem sl_cl {E : PEnv} {g : Sg} {S : Store} {Q : D → Store → Prop} {i : Nat} {ns : List Int} {j : Int} (h : g[i]? = some (some (.cl (ns.map .int)))) (q : ∀ ms : List Int, Q (.loc S.length) (S ++ [.lst (ms.map .int)])) : Sat ((sem E (.sli (.var i) .nil (.int j))).e g S) Q := by
  refine x_cut0 (x_var h ?_)
  show Q (.loc S.length) (S ++ [.lst (cutD (ns.map .int) none (some j))])
  unfold cutD
  rw [← List.map_drop, ← List.map_take]
  exact q _
theorem strs_pd {ys : List Str} (h : Fine ys) : ∀ x ∈ ys.map D.str, PD 1 x := by
  intro x hx
  obtain ⟨y, hy, rfl⟩ := List.mem_map.mp hx
  exact pd_str (h y hy)
theorem tb_last {rt : Nat} (h : Tb S rt (tabT a b)) : ∃ (xs ys : List D) (ll : Nat), S[rt]? = some (Cell.lst (xs ++ [.loc ll])) ∧ S[ll]? = some (Cell.lst (ys ++ [.int (L a b a.length b.length : Nat)])) := by
  obtain ⟨ls, e, alx⟩ := h
  have hl := alx.len
  rw [tab_len] at hl
  have hlast : ls[a.length]? = some ls[a.length] := List.getElem?_eq_getElem (by omega)
  obtain ⟨row, hr1, hr2⟩ := alx.get hlast
  rw [tab_at (Nat.le_refl _)] at hr1
  cases hr1
  obtain ⟨u, hu⟩ : ∃ u, ls = u ++ [ls[a.length]] := by
    refine ⟨ls.take a.length, ?_⟩
    have := List.take_add_one (l := ls) (i := a.length)
    rw [hlast, List.take_of_length_le (by omega)] at this
    exact this
  refine ⟨u.map .loc, rowD (Pt.pre a b a.length b.length).dropLast, ls[a.length], ?_, ?_⟩
  · rw [e]
    conv => lhs; rw [hu]
    rw [List.map_append]; rfl
  · rw [hr2, ← pre_row]
    have : Pt.pre a b a.length b.length = (Pt.pre a b a.length b.length).dropLast ++ [L a b a.length b.length] := by
      unfold Pt.pre
      rw [List.range_succ, List.map_append]
      simp
    conv => lhs; rw [this]
    rw [rowD_app]
/-- (page, number) told twice -/
theorem p_neTwo {r r' : Nat} {k : Int} {ys : List Str} (h : PgAt S r ys) (h' : PgAt S r' ys) (f : Fine ys) (q : Q (.bl false) S) : SatX Y (semCop .ne (.tup [.loc r, .int k]) (.tup [.loc r', .int k]) S) Q := by
  obtain ⟨p, g1, g2, g3⟩ := pd_loc (r := r) (k := 1) (by decide) (strs_pd f)
  have hl : PyData.canLay0 (.tuple [.list p, .int k]) = true := by
    show (PyData.canLay0 (.list p) && (PyData.canLay0 (.int k) && true)) = true
    rw [g2]; rfl
  have hd : PyData.depth (.tuple [.list p, .int k]) < 4 := by
    show max (PyData.depth (.list p)) (max (PyData.depth (.int k)) 0) + 1 < 4
    have : PyData.depth (.int k) = 0 := rfl
    omega
  have sh := shaped_of hl hd (by decide)
  refine p_neTP (p := .tuple [.list p, .int k]) (q := .tuple [.list p, .int k]) ?_ ?_ sh sh ?_
  · show ([D.loc r, .int k].mapM (toPy S 69)).map PyData.tuple = _
    rw [List.mapM_cons, g1 S 69 r (by decide) h]; rfl
  · show ([D.loc r', .int k].mapM (toPy S 69)).map PyData.tuple = _
    rw [List.mapM_cons, g1 S 69 r' (by decide) h']; rfl
  · rw [SeqAt.eqv_refl _ hl]
    exact q
theorem rightK (hK : 6 ≤ K) (ha : PgAt S pa a) (hb : PgAt S pb b) (la : a.length ≤ 40) (lb : b.length ≤ 40) (fa : Fine a) (fb : Fine b) :
    Sat (prg.run K "_law_right" [.loc pa, .loc pb] S) fun d S' => d = .bl true ∧ Old S S' := by
  obtain ⟨k, rfl⟩ := Pt.fuel hK
  rw [r__law_right, sat_runBody]; unfold t__law_right
  walk_at "st"
  walk_at "go"
  refine p_list ha ?_
  walk_at "go"
  refine p_list (app_at hb) ?_
  walk_at "go"
  have h1 : PgAt (S ++ [Cell.lst (a.map .str)] ++ [Cell.lst (b.map .str)] ++ [Cell.lst [.loc S.length, .loc (S ++ [Cell.lst (a.map .str)]).length]]) S.length a := app_at (app_at new_at)
  have h2 : PgAt (S ++ [Cell.lst (a.map .str)] ++ [Cell.lst (b.map .str)] ++ [Cell.lst [.loc S.length, .loc (S ++ [Cell.lst (a.map .str)]).length]]) (S ++ [Cell.lst (a.map .str)]).length b := app_at new_at
  have h3 : (S ++ [Cell.lst (a.map .str)] ++ [Cell.lst (b.map .str)] ++ [Cell.lst [.loc S.length, .loc (S ++ [Cell.lst (a.map .str)]).length]])[(S ++ [Cell.lst (a.map .str)] ++ [Cell.lst (b.map .str)]).length]? = some (Cell.lst [.loc S.length, .loc (S ++ [Cell.lst (a.map .str)]).length]) := new_at
  have o1 : Old S (S ++ [Cell.lst (a.map .str)] ++ [Cell.lst (b.map .str)] ++ [Cell.lst [.loc S.length, .loc (S ++ [Cell.lst (a.map .str)]).length]]) := (Old.app.trans .app).trans .app
  generalize S ++ [Cell.lst (a.map .str)] ++ [Cell.lst (b.map .str)] ++ [Cell.lst [.loc S.length, .loc (S ++ [Cell.lst (a.map .str)]).length]] = S1 at h1 h2 h3 o1 ⊢
  generalize (S ++ [Cell.lst (a.map .str)] ++ [Cell.lst (b.map .str)]).length = hc at h3 ⊢
  generalize (S ++ [Cell.lst (a.map .str)]).length = p1 at h2 h3 ⊢
  generalize S.length = p0 at h1 h3 ⊢
  refine (lawTableK hT (by omega) (o1.at ha) (o1.at hb) (by omega) (by omega)).mono fun d S2 g2 => ?_
  obtain ⟨r3, rfl, t3, o2⟩ := g2
  walk_at "go"
  refine p_itL (o2.at h3) (by decide) rfl ?_
  walk_at "go"
  refine p_itL (o2.at h3) (by decide) rfl ?_
  walk_at "go"
  refine (tableK hT (by omega) (o2.at h1) (o2.at h2) (by omega) (by omega)).mono fun d S3 g3 => ?_
  obtain ⟨r4, rfl, t4, o3⟩ := g3
  have o13 := o2.trans o3
  have t3' := t3.old o3
  refine k_cons (k_ifS (y_or (y_cmp ?_)))
  walk_at "go"
  refine p_neTb t4.tb t3'.tb ⟨_, rfl, fun z => (by cases z), fun _ => y_cmp (x_call ?_)⟩
  walk_at "go"
  refine p_itL (o13.at h3) (by decide) rfl ?_
  walk_at "go"
  refine p_itL (o13.at h3) (by decide) rfl ?_
  walk_at "go"
  refine (isTableK hT (by omega) (o13.at h1) (o13.at h2) (by omega) (by omega) t4).mono fun d S4 g4 => ?_
  obtain ⟨rfl, o4⟩ := g4
  walk_at "go"
  refine ⟨_, rfl, fun z => (by cases z), fun _ => k_nil ?_⟩
  have t4' := t4.old o4
  have t3'' := t3'.old o4
  have o14 := o13.trans o4
  obtain ⟨ls, e4, al4⟩ := t4'.tb
  -- each line is a list of numbers
  refine k_cons (k_forS (i_vL (by with_unfolding_all exact rfl) e4 ?_))
  rw [ib_lst e4]
  refine floop_at (xs := ls.map .loc) (fun i g S' => (∃ v5 v6 v7 v8 : Option D, g = [some (.loc pa), some (.loc pb), some (.loc hc), some (.loc r3), some (.loc r4), v5, v6, v7, v8]) ∧ Old S4 S')
    (fun i g S' p => is_lst (p.2.at e4)) (fun i d g S5 hi p => ?_) (fun g S5 p => ?_) _ 0 _ _ (by omega) (Nat.zero_le _) ⟨⟨_, _, _, _, rfl⟩, .refl _⟩
  · obtain ⟨⟨v5, v6, v7, v8, rfl⟩, o5⟩ := p
    rw [List.getElem?_map] at hi
    cases hx : ls[i]? with
    | none => rw [hx] at hi; cases hi
    | some lc =>
      rw [hx] at hi
      cases hi
      obtain ⟨row, _, hrow⟩ := al4.get hx
      have hrow := o5.at hrow
      refine sat_ok.mpr ?_
      simp only [List.set_cons_zero, List.set_cons_succ]
      refine k_cons (k_ifS (y_or (y_not (y_isi ?_))))
      walk_at "go"
      refine p_isL hrow ⟨_, rfl, fun z => (by cases z), fun _ => y_cmp (x_lc (i_vL (by with_unfolding_all exact rfl) hrow ?_))⟩
      rw [ib_lst hrow]
      refine lcLoop_at (xs := rowD row) (fun i acc S' => acc = [] ∧ S' = S5) (fun i acc S' p => by rw [p.2]; exact is_lst hrow) (fun i d acc S' hi p => ?_) (fun acc S' p => ?_) _ 0 [] S5 (by omega) (Nat.zero_le _) ⟨rfl, rfl⟩
      · obtain ⟨rfl, e'⟩ := p
        obtain rfl := e'.symm
        unfold Pt.rowD at hi
        rw [List.getElem?_map] at hi
        cases hy : row[i]? with
        | none => rw [hy] at hi; cases hi
        | some m =>
          rw [hy] at hi
          cases hi
          refine sat_ok.mpr ?_
          rw [show ∀ E : PEnv, ∀ T : T, (sem E (.cons T .nil)).t = (sem E T).t from fun _ _ => rfl]
          refine y_not (y_callB ?_)
          refine x_cons (x_var (by with_unfolding_all exact rfl) (x_nil ?_))
          refine (lawWholeK hT (by omega)).mono fun d S6 g6 => ?_
          obtain ⟨rfl, rfl⟩ := g6
          exact ⟨_, rfl, fun z => (by cases z), fun _ => ⟨rfl, rfl⟩⟩
      · obtain ⟨rfl, e'⟩ := p
        obtain rfl := e'.symm
        walk_at "go"
        refine p_neNil (k := 1) (app_at new_at) new_at (by decide) (fun _ h => by cases h) (by decide) ⟨_, rfl, fun z => (by cases z), fun _ => k_nil (k_nil ⟨⟨_, _, _, _, rfl⟩, (o5.trans .app).trans .app⟩)⟩
  obtain ⟨⟨v5, v6, v7, v8, rfl⟩, o5⟩ := p
  have o15 := o14.trans o5
  walk_at "go"
  refine p_itL (o15.at h3) (by decide) rfl ?_
  walk_at "go"
  refine p_itL (o15.at h3) (by decide) rfl ?_
  walk_at "go"
  refine (patchK hT (by omega) (o15.at h1) (o15.at h2) (by omega) (by omega) fb).mono fun d S6 g6 => ?_
  obtain ⟨r6, rs, rfl, b6, hr6, al6, ok6, lr6, run6, o6⟩ := g6
  have o16 := o15.trans o6
  refine k_cons (k_ifS (y_or (y_not (y_callB ?_))))
  walk_at "go"
  refine (formK hT (by omega) hr6 al6 ok6).mono fun d S7 g7 => ?_
  obtain ⟨rfl, o7⟩ := g7
  have o17 := o16.trans o7
  have t3v := ((t3''.old o5).old o6).old o7
  have t4v := ((t4'.old o5).old o6).old o7
  refine ⟨_, rfl, fun z => (by cases z), fun _ => y_cmp (x_call ?_)⟩
  walk_at "go"
  refine (ledK hT (by omega) (o17.at (o1.at ha)) (o7.at hr6) (by omega) fa (fun r hr => (ok6 r hr).2) (by omega)).mono fun d S8 g8 => ?_
  obtain ⟨o8, led⟩ := g8
  rw [run6] at led
  obtain ⟨r8, rfl, _, h8⟩ := led
  have o18 := o17.trans o8
  walk_at "go"
  refine p_list (o18.at (o1.at hb)) ?_
  walk_at "go"
  have o9 : Old S8 (S8 ++ [Cell.lst (b.map .str)]) := .app
  have h9 : PgAt (S8 ++ [Cell.lst (b.map .str)]) S8.length b := new_at
  generalize S8 ++ [Cell.lst (b.map .str)] = S9 at o9 h9 ⊢
  have o19 := o18.trans o9
  have t3w := (t3v.old o8).old o9
  have t4w := (t4v.old o8).old o9
  obtain ⟨xs, ys, ll, q1, q2⟩ := tb_last t3w.tb
  refine x_neg ?_
  walk_at "go"
  refine ⟨_, rfl, p_itLast q1 ?_⟩
  refine x_neg ?_
  walk_at "go"
  refine ⟨_, rfl, p_itLast q2 ?_⟩
  walk_at "go"
  refine p_neTwo (o9.at h8) h9 fb ⟨_, rfl, fun z => (by cases z), fun _ => k_nil ?_⟩
  have hr9 : RowsAt' S9 r6 rs := o9.at (o8.at (o7.at hr6))
  refine k_cons (k_ifS (y_cmp (x_call ?_)))
  walk_at "go"
  refine p_itL (o19.at h3) (by decide) rfl ?_
  walk_at "go"
  refine p_itL (o19.at h3) (by decide) rfl ?_
  walk_at "go"
  refine (isPatchK (by omega) (o19.at h1) (o19.at h2) (by omega) (by omega) fb hr9 al6 ok6 (by omega) run6).mono fun d S10 g10 => ?_
  obtain ⟨rfl, o10⟩ := g10
  have o110 := o19.trans o10
  walk_at "go"
  refine ⟨_, rfl, fun z => (by cases z), fun _ => k_nil ?_⟩
  walk_at "go"
  refine p_itL (o110.at h3) (by decide) rfl ?_
  walk_at "go"
  refine (put_onK (by omega) (o110.at h1) (o10.at hr9) (by omega) (fun r hr => (ok6 r hr).2) (by omega) run6).mono fun d S11 g11 => ?_
  obtain ⟨r11, rfl, b11, h11, o11⟩ := g11
  have o111 := o110.trans o11
  refine k_cons (k_ifS (y_or (y_not (y_isi ?_))))
  walk_at "go"
  refine p_isL h11 ⟨_, rfl, fun z => (by cases z), fun _ => y_cmp ?_⟩
  walk_at "go"
  refine p_list (o111.at (o1.at hb)) ?_
  refine p_neSame (k := 1) (app_at h11) new_at (by decide) (strs_pd fb) (by decide) ⟨_, rfl, fun z => (by cases z), fun _ => k_nil ?_⟩
  have o12 : Old S11 (S11 ++ [Cell.lst (b.map .str)]) := .app
  generalize S11 ++ [Cell.lst (b.map .str)] = S12 at o12 ⊢
  -- what was told is changed
  have c11 : S12[r11]? = some (Cell.lst (b.map .str)) := o12.at h11
  have cr : S12[r6]? = some (Cell.lst (rs.map rowDD)) := o12.at (o11.at (o10.at hr9))
  have t3x := ((t3w.old o10).old o11).old o12
  have t4x := ((t4w.old o10).old o11).old o12
  have o112 := o111.trans o12
  have q2 : S1.length ≤ S2.length := o2.1
  have q3 : S2.length ≤ S3.length := o3.1
  have q5 : S3.length ≤ S5.length := (o4.trans o5).1
  have q10 : S5.length ≤ S10.length := (((((o6.trans o7).trans o8).trans o9).trans o10)).1
  have o212 : Old S2 S12 := (((((((((o3.trans o4).trans o5).trans o6).trans o7).trans o8).trans o9).trans o10).trans o11).trans o12)
  have o312 : Old S3 S12 := ((((((((o4.trans o5).trans o6).trans o7).trans o8).trans o9).trans o10).trans o11).trans o12)
  have r6l : r6 < S10.length := by
    have h := lt_of hr6
    have := (((o7.trans o8).trans o9).trans o10).1
    omega
  have ner : r6 ≠ r11 := by omega
  refine k_cons (k_exS (x_mth (x_var (by with_unfolding_all exact rfl) ⟨ty_lst rfl c11, ?_⟩)))
  walk_at "go"
  refine p_append c11 (by rw [List.length_map, sizeLine_eq]; omega) ?_
  have o13_ : Old S1 (S12.set r11 (.lst (b.map D.str ++ [.str "x"]))) := o112.set (by omega)
  have o2_ : Old S2 (S12.set r11 (.lst (b.map D.str ++ [.str "x"]))) := o212.set (by omega)
  have o3_ : Old S3 (S12.set r11 (.lst (b.map D.str ++ [.str "x"]))) := o312.set (by omega)
  have cr' : (S12.set r11 (.lst (b.map D.str ++ [.str "x"])))[r6]? = some (Cell.lst (rs.map rowDD)) := set_ne' ner cr
  generalize S12.set r11 (.lst (b.map D.str ++ [.str "x"])) = S13 at o13_ o2_ o3_ cr' ⊢
  refine k_cons (k_exS (x_mth (x_var (by with_unfolding_all exact rfl) ⟨ty_lst rfl cr', ?_⟩)))
  walk_at "go"
  refine p_append cr' (by rw [List.length_map, sizeLine_eq]; omega) ?_
  have o14_ : Old S1 (S13.set r6 (.lst (rs.map rowDD ++ [.tup [.str "cut", .int 1]]))) := o13_.set (by omega)
  have o24_ : Old S2 (S13.set r6 (.lst (rs.map rowDD ++ [.tup [.str "cut", .int 1]]))) := o2_.set (by omega)
  have o34_ : Old S3 (S13.set r6 (.lst (rs.map rowDD ++ [.tup [.str "cut", .int 1]]))) := o3_.set (by omega)
  generalize S13.set r6 (.lst (rs.map rowDD ++ [.tup [.str "cut", .int 1]])) = S14 at o14_ o24_ o34_ ⊢
  clear cr' cr c11
  obtain ⟨ls4, w1, w2, w3, w4, w5, w6⟩ := t4.at_
  obtain ⟨ls3, u1, u2, u3, u4, u5, u6⟩ := t3.at_
  have hl4 := w6.len
  have hl3 := u6.len
  rw [tab_len] at hl4 hl3
  have eT : tabT a b = rowT a b 0 :: (List.range a.length).map fun i => rowT a b (i + 1) := by
    unfold tabT
    rw [List.range_succ_eq_map, List.map_cons, List.map_map]; rfl
  cases ls4 with
  | nil => simp at hl4
  | cons l0 tl4 =>
    cases ls3 with
    | nil => simp at hl3
    | cons m0 tl3 =>
      rw [eT] at w6 u6
      cases w6 with
      | cons w7 w8 =>
        cases u6 with
        | cons u7 u8 =>
          have z4 := o34_.at w1
          have z40 := o34_.at w7
          have zl0 : S2.length ≤ l0 := w5 l0 List.mem_cons_self
          have zr4 : l0 ≠ r4 := fun z => w2 (by rw [z]; exact List.mem_cons_self)
          refine k_cons (k_exS (x_mth (x_sub (x_var (by with_unfolding_all exact rfl) ?_))))
          walk_at "go"
          refine p_itL z4 (by decide) rfl ⟨ty_lst rfl z40, ?_⟩
          walk_at "go"
          refine p_append z40 (by unfold Pt.rowD; rw [List.length_map, row_len, sizeLine_eq]; omega) ?_
          have o15_ : Old S1 (S14.set l0 (.lst (Pt.rowD (rowT a b 0) ++ [.int 7]))) := o14_.set (by omega)
          have z5 : (S14.set l0 (.lst (Pt.rowD (rowT a b 0) ++ [.int 7])))[r4]? = some (Cell.lst ((l0 :: tl4).map .loc)) := set_ne' zr4.symm z4
          have tt4 : All2 (fun l row => (S14.set l0 (.lst (Pt.rowD (rowT a b 0) ++ [.int 7])))[l]? = some (Cell.lst (Pt.rowD row))) tl4 ((List.range a.length).map fun i => rowT a b (i + 1)) := by
            have nd := w3
            rw [List.nodup_cons] at nd
            refine all2_of w8.len fun i l row g1 g2 => ?_
            obtain ⟨row', e1, e2⟩ := w8.get g1
            rw [g2] at e1
            cases e1
            refine set_ne' (fun z => ?_) (o34_.at e2)
            exact nd.1 (by rw [← z]; exact List.mem_of_getElem? g1)
          have tt3 : All2 (fun l row => (S14.set l0 (.lst (Pt.rowD (rowT a b 0) ++ [.int 7])))[l]? = some (Cell.lst (Pt.rowD row))) tl3 ((List.range a.length).map fun i => rowT a b (i + 1)) := u8.imp fun l row q => (o24_.set zl0).at q
          have y3 : (S14.set l0 (.lst (Pt.rowD (rowT a b 0) ++ [.int 7])))[r3]? = some (Cell.lst ((m0 :: tl3).map .loc)) := (o24_.set zl0).at u1
          generalize S14.set l0 (.lst (Pt.rowD (rowT a b 0) ++ [.int 7])) = S15 at o15_ z5 tt4 tt3 y3 ⊢
          refine k_cons (k_ifS (y_cmp (x_sliD rfl ?_)))
          walk_at "go"
          refine ⟨_, rfl, p_cutL z5 ?_⟩
          refine x_sliD rfl ?_
          walk_at "go"
          refine ⟨_, rfl, p_cutL (app_at y3) ?_⟩
          have c1 : cutD ((l0 :: tl4).map D.loc) (some (1 : Int)) none = tl4.map .loc := cut_lo (i := 1)
          have c2 : cutD ((m0 :: tl3).map D.loc) (some (1 : Int)) none = tl3.map .loc := cut_lo (i := 1)
          rw [c1, c2]
          have oo : Old S15 (S15 ++ [Cell.lst (tl4.map .loc)] ++ [Cell.lst (tl3.map .loc)]) := Old.app.trans .app
          refine p_neTb (rows := (List.range a.length).map fun i => rowT a b (i + 1)) ⟨tl4, app_at new_at, tt4.imp fun _ _ q => oo.at q⟩ ⟨tl3, new_at, tt3.imp fun _ _ q => oo.at q⟩ ⟨_, rfl, fun z => (by cases z), fun _ => k_nil ?_⟩
          have z6 := oo.at z5
          have o16_ := o15_.trans oo
          generalize S15 ++ [Cell.lst (tl4.map .loc)] ++ [Cell.lst (tl3.map .loc)] = S16 at z6 o16_ ⊢
          refine k_cons (k_exS (x_mth (x_var (by with_unfolding_all exact rfl) ⟨ty_lst rfl z6, ?_⟩)))
          walk_at "go"
          refine p_append (app_at z6) (by rw [List.length_map, sizeLine_eq]; omega) ?_
          have o17_ : Old S1 ((S16 ++ [Cell.lst []]).set r4 (.lst ((l0 :: tl4).map .loc ++ [.loc S16.length]))) := (o16_.trans .app).set (by omega)
          generalize (S16 ++ [Cell.lst []]).set r4 (.lst ((l0 :: tl4).map .loc ++ [.loc S16.length])) = S17 at o17_ ⊢
          have of := o1.trans o17_
          refine k_cons (k_retS (x_and (x_cmp ?_)))
          walk_at "go"
          refine p_eqNest (k := 1) (app_at (o17_.at h3)) new_at (app_at (o17_.at h1)) (app_at (o17_.at h2)) (app_at (of.at ha)) (app_at (of.at hb)) (by decide) (strs_pd fa) (strs_pd fb) (by decide) ⟨_, rfl, fun _ => ?_, fun z => by cases z⟩
          have o18_ : Old S (S17 ++ [Cell.lst [.loc pa, .loc pb]]) := of.trans .app
          generalize S17 ++ [Cell.lst [.loc pa, .loc pb]] = S18 at o18_ ⊢
          refine x_cmp (x_call (x_cons (x_var (by with_unfolding_all exact rfl) (x_cons (x_call ?_)))))
          walk_at "go"
          refine (patchK hT (by omega) (o18_.at ha) (o18_.at hb) (by omega) (by omega) fb).mono fun d S19 g19 => ?_
          obtain ⟨r19, rs', rfl, _, hr19, _, ok19, lr19, run19, o19_⟩ := g19
          walk_at "go"
          refine (put_onK (by omega) (o19_.at (o18_.at ha)) hr19 (by omega) (fun r hr => (ok19 r hr).2) (by omega) run19).mono fun d S20 g20 => ?_
          obtain ⟨r20, rfl, _, h20, o20_⟩ := g20
          walk_at "go"
          have ofin := (o18_.trans o19_).trans o20_
          exact p_eqSame (k := 1) h20 (ofin.at hb) (by decide) (strs_pd fb) (by decide) ⟨rfl, ofin⟩
theorem run_nil {rs : List (Row Str)} {k : Nat} (ok : ∀ r ∈ rs, r.ok) (h : runR rs ([] : List Str) = some ([], k)) : rs = [] := by
  cases rs with
  | nil => rfl
  | cons r rs =>
    exfalso
    have o := ok r List.mem_cons_self
    cases r with
    | keep n =>
      have o : 0 < n := o
      rw [run_keep, if_neg (by simp; omega)] at h
      cases h
    | cut n =>
      have o : 0 < n := o
      rw [run_cut, if_neg (by simp; omega)] at h
      cases h
    | put xs =>
      have o : xs ≠ [] := o
      rw [run_put] at h
      cases e : runR rs ([] : List Str) with
      | none => rw [e] at h; cases h
      | some q =>
        rw [e] at h
        have := congrArg (fun z => z.map Prod.fst) h
        simp at this
        exact o this.1
end k88

end

section
set_option Elab.async false
set_option linter.all false
set_option maxRecDepth 100000
set_option maxHeartbeats 4000000
local macro_rules | `(tactic| walk_at "cl") => `(tactic| first | assumption | exact Mz.new_at | exact Mz.set_at (by walk_at "cl") | exact Mz.app_at (by walk_at "cl") | exact Mz.Grow.at ‹_› (by walk_at "cl"))
local macro_rules | `(tactic| walk_at "go") => `(tactic| repeat (first | (with_reducible refine (?_ : Mz.SatX _ (Mz.Sm.e (Mz.sem _ (Mz.T.var _)) _ _) _); first | (with_reducible refine (?_ : Mz.SatX _ _ _); simp only [List.set_cons_zero, List.set_cons_succ]) | with_reducible refine Mz.x_var (by with_unfolding_all exact rfl) ?_) | (with_reducible refine (?_ : Mz.SatRX _ _ _ _ _ _); first | with_reducible refine Mz.k_cons ?_ | with_reducible refine Mz.k_asgS ?_ | with_reducible refine Mz.k_retS ?_ | with_reducible refine Mz.k_exS ?_) | (with_reducible refine (?_ : Mz.SatX _ (Mz.Sm.e _ _ _) _); first | with_reducible refine Mz.x_int ?_ | with_reducible refine Mz.x_str ?_ | with_reducible refine Mz.x_bin ?_ | with_reducible refine Mz.x_cmp ?_ | with_reducible refine Mz.x_sub ?_ | with_reducible refine Mz.x_call ?_ | with_reducible refine Mz.x_blt ?_ | with_reducible refine Mz.x_tup ?_ | with_reducible refine Mz.x_lst ?_ | with_reducible refine Mz.x_bl ?_ | with_reducible refine Mz.x_non ?_ | with_reducible refine Mz.x_fst ?_ | with_reducible refine Mz.x_fmt ?_ | with_reducible refine Mz.x_chain ?_ | (with_reducible refine (?_ : Mz.SatX _ _ _); simp only [List.set_cons_zero, List.set_cons_succ])) | (with_reducible refine (?_ : Mz.SatX _ (Mz.Sm.a _ _ _) _); first | with_reducible refine Mz.x_cons ?_ | with_reducible refine Mz.x_nil ?_ | (with_reducible refine (?_ : Mz.SatX _ _ _); simp only [List.set_cons_zero, List.set_cons_succ])) | (with_reducible refine (?_ : Mz.SatX _ (Mz.semItem _ _ _) _); first | with_reducible refine Mz.p_itT (by decide) rfl ?_ | (with_reducible refine (?_ : Mz.SatX _ _ _); simp only [List.set_cons_zero, List.set_cons_succ])) | (with_reducible refine (?_ : Mz.SatX _ (Mz.semBop _ _ _ _) _); first | with_reducible refine Mz.p_add ?_ | with_reducible refine Mz.p_sub ?_ | (with_reducible refine (?_ : Mz.SatX _ _ _); simp only [List.set_cons_zero, List.set_cons_succ])) | (with_reducible refine (?_ : Mz.SatX _ (Mz.semCop _ _ _ _) _); first | with_reducible refine Mz.p_eqI ?_ | with_reducible refine Mz.p_neI ?_ | with_reducible refine Mz.p_eqS ?_ | with_reducible refine Mz.p_neS ?_ | with_reducible refine Mz.p_lt ?_ | with_reducible refine Mz.p_le ?_ | with_reducible refine Mz.p_ge ?_ | with_reducible refine Mz.p_gt ?_ | with_reducible refine Mz.p_leS ?_ | with_reducible refine Mz.p_is ?_ | with_reducible refine Mz.p_isnot ?_ | (with_reducible refine (?_ : Mz.SatX _ _ _); simp only [List.set_cons_zero, List.set_cons_succ])) | (with_reducible refine (?_ : Mz.SatX _ (Mz.Sm.t _ _ _) _); first | with_reducible refine Mz.y_cmp ?_ | with_reducible refine Mz.y_chain ?_ | (with_reducible refine (?_ : Mz.SatX _ _ _); simp only [List.set_cons_zero, List.set_cons_succ])) | (with_reducible refine (?_ : Mz.SatX _ (Mz.semBlt _ _ _) _); first | with_reducible refine Mz.p_ord ?_ | with_reducible refine Mz.p_max ?_ | with_reducible refine Mz.p_min ?_ | with_reducible refine Mz.p_abs ?_ | (with_reducible refine (?_ : Mz.SatX _ _ _); simp only [List.set_cons_zero, List.set_cons_succ])) | (with_reducible refine (?_ : Mz.SatX _ (Mz.Sm.j _ _ _ _) _); first | with_reducible refine Mz.j_cons ?_ | with_reducible refine Mz.j_nil ?_ | (with_reducible refine (?_ : Mz.SatX _ _ _); simp only [List.set_cons_zero, List.set_cons_succ])) | (with_reducible refine (?_ : Mz.SatX _ _ _); simp only [List.set_cons_zero, List.set_cons_succ]) | with_reducible refine ⟨(by simp only [List.length_cons, List.length_nil, PySem.sizeLine_eq]; omega : (List.length _ ≤ PySem.sizeLine)), ?_⟩))
local macro_rules | `(tactic| walk_at "st") => `(tactic| simp only [Mz.startG, List.map_cons, List.map_nil, List.length_cons, List.length_nil, Nat.reduceAdd, Nat.reduceSub, List.replicate, List.cons_append, List.nil_append, Nat.zero_add])
namespace k88
open PySem PySem.Spec L2 Mz TL Rc Pt
variable {K : Nat} {S : Store} {pa pb pr n l : Nat} {ns : List Int} {B : Int} {a b : List Str} {rs : List (Row Str)} {Q : D → Store → Prop} {Y : Xc → Store → Prop}
theorem tab00 : tabT ([] : List Str) [] = [[0]] := by
  unfold tabT rowT Pt.part
  show [[if (0 : Nat) ≤ 0 then L ([] : List Str) [] 0 0 else 0]] = [[0]]
  rw [L_0]; rfl
theorem lawK (hK : 12 ≤ K) : Sat (prg.run K "law" [.cl (ns.map .int)] S) fun d S => d = .bl true := by
  obtain ⟨k, rfl⟩ := Pt.fuel hK
  rw [r_law, sat_runBody]; unfold t_law
  walk_at "st"
  refine k_cons (k_ifS (y_or (y_cmp ?_)))
  walk_at "go"
  have e1 : PgAt (S ++ [Cell.lst []] ++ [Cell.lst []]) S.length [] := app_at new_at
  have e2 : PgAt (S ++ [Cell.lst []] ++ [Cell.lst []]) (S ++ [Cell.lst []]).length [] := new_at
  generalize S ++ [Cell.lst []] ++ [Cell.lst []] = S1 at e1 e2 ⊢
  generalize (S ++ [Cell.lst []]).length = q2 at e2 ⊢
  generalize S.length = q1 at e1 ⊢
  refine (tableK hT (by omega) e1 e2 (by simp) (by simp)).mono fun d S2 g2 => ?_
  obtain ⟨r2, rfl, t2, o2⟩ := g2
  rw [tab00] at t2
  walk_at "go"
  have o3 : Old S2 (S2 ++ [Cell.lst [.int 0]] ++ [Cell.lst [.loc S2.length]]) := Old.app.trans .app
  refine p_neTb (t2.tb.old o3) ⟨[S2.length], new_at, .cons (app_at new_at) .nil⟩ ⟨_, rfl, fun z => (by cases z), fun _ => y_or (y_cmp ?_)⟩
  generalize S2 ++ [Cell.lst [.int 0]] ++ [Cell.lst [.loc S2.length]] = S3 at o3 ⊢
  walk_at "go"
  have e1 : PgAt (S3 ++ [Cell.lst []] ++ [Cell.lst []]) S3.length [] := app_at new_at
  have e2 : PgAt (S3 ++ [Cell.lst []] ++ [Cell.lst []]) (S3 ++ [Cell.lst []]).length [] := new_at
  generalize S3 ++ [Cell.lst []] ++ [Cell.lst []] = S4 at e1 e2 ⊢
  generalize (S3 ++ [Cell.lst []]).length = q2 at e2 ⊢
  generalize S3.length = q1 at e1 ⊢
  refine (patchK hT (by omega) e1 e2 (by simp) (by simp) (fun _ h => by cases h)).mono fun d S5 g5 => ?_
  obtain ⟨r5, rs, rfl, _, hr5, _, ok5, _, run5, o5⟩ := g5
  obtain rfl := run_nil (fun r hr => (ok5 r hr).1) run5
  walk_at "go"
  refine p_neNil (k := 1) (app_at hr5) new_at (by decide) (fun _ h => by cases h) (by decide) ⟨_, rfl, fun z => (by cases z), fun _ => y_cmp ?_⟩
  generalize S5 ++ [Cell.lst []] = S6 at ⊢
  walk_at "go"
  have e1 : PgAt (S6 ++ [Cell.lst []] ++ [Cell.lst []]) S6.length [] := app_at new_at
  have e2 : RowsAt' (S6 ++ [Cell.lst []] ++ [Cell.lst []]) (S6 ++ [Cell.lst []]).length [] := new_at
  generalize S6 ++ [Cell.lst []] ++ [Cell.lst []] = S7 at e1 e2 ⊢
  generalize (S6 ++ [Cell.lst []]).length = q2 at e2 ⊢
  generalize S6.length = q1 at e1 ⊢
  refine (put_onK (by omega) e1 e2 (by simp) (fun _ h => by cases h) (by simp) (show runR ([] : List (Row Str)) ([] : List Str) = some ([], 0) by rw [runR])).mono fun d S8 g8 => ?_
  obtain ⟨r8, rfl, _, h8, o8⟩ := g8
  walk_at "go"
  refine p_neNil (k := 1) (app_at h8) new_at (by decide) (fun _ h => by cases h) (by decide) ⟨_, rfl, fun z => (by cases z), fun _ => k_nil ?_⟩
  generalize S8 ++ [Cell.lst []] = S9 at ⊢
  refine k_cons (k_asgS (x_lst (x_cons (x_blt (x_cons (sl_cl rfl fun ms => ?_))))))
  walk_at "go"
  refine p_list new_at ?_
  walk_at "go"
  have m6 := new_at (S := S9 ++ [Cell.lst (ms.map .int)]) (c := .lst (ms.map .int))
  generalize S9 ++ [Cell.lst (ms.map .int)] ++ [Cell.lst (ms.map .int)] = S10 at m6
  generalize (S9 ++ [Cell.lst (ms.map D.int)]).length = li at m6
  have lli := lt_of m6
  have dd : Pt.DB (S10 ++ [Cell.lst [.loc li, .int 0, .int 0, .int 0]]) S10.length li ms 0 := ⟨0, by decide, by decide, ⟨⟨0, 0, new_at⟩, app_at m6, by omega⟩⟩
  generalize S10 ++ [Cell.lst [.loc li, .int 0, .int 0, .int 0]] = S11 at dd
  generalize S10.length = n at dd
  refine k_forS (i_rng1 ?_)
  walk_at "go"
  refine ⟨_, rfl, rngOk_of (by omega) (by omega), ?_⟩
  refine floop_vals (xs := Mz.intsFrom 0 (3 : Int).toNat) (fun i g S' => (∃ v2 v3 v4 : Option D, g = [some (.cl (ns.map .int)), some (.loc n), v2, v3, v4]) ∧ Pt.DB S' n li ms (100 * i)) (fun i d g S12 hi p => ?_) (fun g S12 p => ?_) _ 0 _ _ (by show _ + (_ + 1) = _; omega) (Nat.zero_le _) ⟨⟨_, _, _, rfl⟩, dd.le (by omega)⟩
  · obtain ⟨⟨v2, v3, v4, rfl⟩, d12⟩ := p
    have hi3 : i < 3 := by
      have := (List.getElem?_eq_some_iff.mp hi).1
      simpa [Mz.intsFrom] using this
    refine sat_ok.mpr ?_
    simp only [List.set_cons_zero, List.set_cons_succ]
    walk_at "go"
    refine (linesK hT (by omega) d12 (by omega)).mono fun d S13 g13 => ?_
    obtain ⟨pa, a, rfl, ga, ha, la, fa, d13, k13⟩ := g13
    have na : pa ≠ n := by have := d12.lt; omega
    walk_at "go"
    refine (otherK hT (by omega) d13 (by omega) ha na fa la).mono fun d S14 g14 => ?_
    obtain ⟨pb, b, rfl, gb, hb, lb, fb, d14, k14⟩ := g14
    have ha14 : PgAt S14 pa a := k14.at ha na
    refine k_cons (k_ifS (y_or (y_not (y_callB ?_))))
    walk_at "go"
    refine (rightK (by omega) ha14 hb (by omega) (by omega) fa fb).mono fun d S15 g15 => ?_
    obtain ⟨rfl, o15⟩ := g15
    refine ⟨_, rfl, fun z => (by cases z), fun _ => y_or (y_not (y_callB ?_))⟩
    walk_at "go"
    refine (rightK (by omega) (o15.at hb) (o15.at ha14) (by omega) (by omega) fb fa).mono fun d S16 g16 => ?_
    obtain ⟨rfl, o16⟩ := g16
    refine ⟨_, rfl, fun z => (by cases z), fun _ => y_not (y_callB ?_)⟩
    walk_at "go"
    have o17 := o15.trans o16
    refine p_list (o17.at ha14) ?_
    walk_at "go"
    refine (rightK (by omega) (app_at (o17.at ha14)) new_at (by omega) (by omega) fa fa).mono fun d S18 g18 => ?_
    obtain ⟨rfl, o18⟩ := g18
    refine ⟨_, rfl, fun z => (by cases z), fun _ => k_nil (k_nil ⟨⟨_, _, _, rfl⟩, ?_⟩)⟩
    exact ((d14.old (o17.trans (Old.app.trans o18))).le (by omega))
  · obtain ⟨⟨v2, v3, v4, rfl⟩, d12⟩ := p
    walk_at "go"
    trivial
theorem plain (ns : List Int) (hn : ns.length ≤ 63) : ∃ S, prg.run 20 "law" [.cl (ns.map .int)] [] = .ok (.bl true) S := by
  obtain ⟨d, S, e, q⟩ := Sat.ex (lawK (K := 20) (S := []) (ns := ns) (by decide))
  exact ⟨S, by rw [e, q]⟩
end k88

end

section
set_option Elab.async false
set_option linter.all false
set_option maxRecDepth 100000
set_option maxHeartbeats 4000000
namespace k88
open PySem PySem.Spec L2 Mz
def spLaw (w : World) (K : PySem.W.Frag) : Sp := spD ⟨K, w⟩ 1 (prg.run 20 "law")
theorem all_mk {l : PySem.W.OpenLaw} {w : World} {K : PySem.W.Frag} {h : Heap} {mg : Str → Option Value} {fa : Addr} (X : K.In h) (G : h.Ns mainGlobals mg) (hfa : mg "law" = some (.ref fa))
    {f0 : Addr} {od0 an0 : Option Addr} {sl0 : Array (Option Value)} {oc0 kV0 dc0 pm0 cd0 ct0 : Value} {f1 : Addr} {od1 an1 : Option Addr} {sl1 : Array (Option Value)} {oc1 kV1 dc1 pm1 cd1 ct1 : Value} {f2 : Addr} {od2 an2 : Option Addr} {sl2 : Array (Option Value)} {oc2 kV2 dc2 pm2 cd2 ct2 : Value} {f3 : Addr} {od3 an3 : Option Addr} {sl3 : Array (Option Value)} {oc3 kV3 dc3 pm3 cd3 ct3 : Value} {f4 : Addr} {od4 an4 : Option Addr} {sl4 : Array (Option Value)} {oc4 kV4 dc4 pm4 cd4 ct4 : Value} {f5 : Addr} {od5 an5 : Option Addr} {sl5 : Array (Option Value)} {oc5 kV5 dc5 pm5 cd5 ct5 : Value} {f6 : Addr} {od6 an6 : Option Addr} {sl6 : Array (Option Value)} {oc6 kV6 dc6 pm6 cd6 ct6 : Value} {f7 : Addr} {od7 an7 : Option Addr} {sl7 : Array (Option Value)} {oc7 kV7 dc7 pm7 cd7 ct7 : Value} {f8 : Addr} {od8 an8 : Option Addr} {sl8 : Array (Option Value)} {oc8 kV8 dc8 pm8 cd8 ct8 : Value} {f9 : Addr} {od9 an9 : Option Addr} {sl9 : Array (Option Value)} {oc9 kV9 dc9 pm9 cd9 ct9 : Value} {f10 : Addr} {od10 an10 : Option Addr} {sl10 : Array (Option Value)} {oc10 kV10 dc10 pm10 cd10 ct10 : Value} {f11 : Addr} {od11 an11 : Option Addr} {sl11 : Array (Option Value)} {oc11 kV11 dc11 pm11 cd11 ct11 : Value} {f12 : Addr} {od12 an12 : Option Addr} {sl12 : Array (Option Value)} {oc12 kV12 dc12 pm12 cd12 ct12 : Value} {f13 : Addr} {od13 an13 : Option Addr} {sl13 : Array (Option Value)} {oc13 kV13 dc13 pm13 cd13 ct13 : Value} {f14 : Addr} {od14 an14 : Option Addr} {sl14 : Array (Option Value)} {oc14 kV14 dc14 pm14 cd14 ct14 : Value} {f15 : Addr} {od15 an15 : Option Addr} {sl15 : Array (Option Value)} {oc15 kV15 dc15 pm15 cd15 ct15 : Value} {f16 : Addr} {od16 an16 : Option Addr} {sl16 : Array (Option Value)} {oc16 kV16 dc16 pm16 cd16 ct16 : Value} {f17 : Addr} {od17 an17 : Option Addr} {sl17 : Array (Option Value)} {oc17 kV17 dc17 pm17 cd17 ct17 : Value}
    (a0 : PySem.W.nsIn K mainGlobals "table" = some (some (.ref f0)))
    (l0 : K.lookup f0 = some ⟨oc0, od0, .func (PySem.W.fnOf "table" "table" (defArgs s_table) (defBody s_table) (defScope s_table) .none kV0 dc0 pm0 an0 cd0 ct0), sl0⟩)
    (c0 : PySem.W.codeIn K cd0 "table" = true)
    (k0 : PySem.W.keepIn K (.ref f0) = true)
    (a1 : PySem.W.nsIn K mainGlobals "steps_between" = some (some (.ref f1)))
    (l1 : K.lookup f1 = some ⟨oc1, od1, .func (PySem.W.fnOf "steps_between" "steps_between" (defArgs s_steps_between) (defBody s_steps_between) (defScope s_steps_between) .none kV1 dc1 pm1 an1 cd1 ct1), sl1⟩)
    (c1 : PySem.W.codeIn K cd1 "steps_between" = true)
    (k1 : PySem.W.keepIn K (.ref f1) = true)
    (a2 : PySem.W.nsIn K mainGlobals "patch" = some (some (.ref f2)))
    (l2 : K.lookup f2 = some ⟨oc2, od2, .func (PySem.W.fnOf "patch" "patch" (defArgs s_patch) (defBody s_patch) (defScope s_patch) .none kV2 dc2 pm2 an2 cd2 ct2), sl2⟩)
    (c2 : PySem.W.codeIn K cd2 "patch" = true)
    (k2 : PySem.W.keepIn K (.ref f2) = true)
    (a3 : PySem.W.nsIn K mainGlobals "put_on" = some (some (.ref f3)))
    (l3 : K.lookup f3 = some ⟨oc3, od3, .func (PySem.W.fnOf "put_on" "put_on" (defArgs s_put_on) (defBody s_put_on) (defScope s_put_on) .none kV3 dc3 pm3 an3 cd3 ct3), sl3⟩)
    (c3 : PySem.W.codeIn K cd3 "put_on" = true)
    (k3 : PySem.W.keepIn K (.ref f3) = true)
    (a4 : PySem.W.nsIn K mainGlobals "is_whole" = some (some (.ref f4)))
    (l4 : K.lookup f4 = some ⟨oc4, od4, .func (PySem.W.fnOf "is_whole" "is_whole" (defArgs s_is_whole) (defBody s_is_whole) (defScope s_is_whole) .none kV4 dc4 pm4 an4 cd4 ct4), sl4⟩)
    (c4 : PySem.W.codeIn K cd4 "is_whole" = true)
    (k4 : PySem.W.keepIn K (.ref f4) = true)
    (a5 : PySem.W.nsIn K mainGlobals "is_row" = some (some (.ref f5)))
    (l5 : K.lookup f5 = some ⟨oc5, od5, .func (PySem.W.fnOf "is_row" "is_row" (defArgs s_is_row) (defBody s_is_row) (defScope s_is_row) .none kV5 dc5 pm5 an5 cd5 ct5), sl5⟩)
    (c5 : PySem.W.codeIn K cd5 "is_row" = true)
    (k5 : PySem.W.keepIn K (.ref f5) = true)
    (a6 : PySem.W.nsIn K mainGlobals "is_patch" = some (some (.ref f6)))
    (l6 : K.lookup f6 = some ⟨oc6, od6, .func (PySem.W.fnOf "is_patch" "is_patch" (defArgs s_is_patch) (defBody s_is_patch) (defScope s_is_patch) .none kV6 dc6 pm6 an6 cd6 ct6), sl6⟩)
    (c6 : PySem.W.codeIn K cd6 "is_patch" = true)
    (k6 : PySem.W.keepIn K (.ref f6) = true)
    (a7 : PySem.W.nsIn K mainGlobals "is_table" = some (some (.ref f7)))
    (l7 : K.lookup f7 = some ⟨oc7, od7, .func (PySem.W.fnOf "is_table" "is_table" (defArgs s_is_table) (defBody s_is_table) (defScope s_is_table) .none kV7 dc7 pm7 an7 cd7 ct7), sl7⟩)
    (c7 : PySem.W.codeIn K cd7 "is_table" = true)
    (k7 : PySem.W.keepIn K (.ref f7) = true)
    (a8 : PySem.W.nsIn K mainGlobals "_law_roll" = some (some (.ref f8)))
    (l8 : K.lookup f8 = some ⟨oc8, od8, .func (PySem.W.fnOf "_law_roll" "_law_roll" (defArgs s__law_roll) (defBody s__law_roll) (defScope s__law_roll) .none kV8 dc8 pm8 an8 cd8 ct8), sl8⟩)
    (c8 : PySem.W.codeIn K cd8 "_law_roll" = true)
    (k8 : PySem.W.keepIn K (.ref f8) = true)
    (a9 : PySem.W.nsIn K mainGlobals "_law_pick" = some (some (.ref f9)))
    (l9 : K.lookup f9 = some ⟨oc9, od9, .func (PySem.W.fnOf "_law_pick" "_law_pick" (defArgs s__law_pick) (defBody s__law_pick) (defScope s__law_pick) .none kV9 dc9 pm9 an9 cd9 ct9), sl9⟩)
    (c9 : PySem.W.codeIn K cd9 "_law_pick" = true)
    (k9 : PySem.W.keepIn K (.ref f9) = true)
    (a10 : PySem.W.nsIn K mainGlobals "_law_whole" = some (some (.ref f10)))
    (l10 : K.lookup f10 = some ⟨oc10, od10, .func (PySem.W.fnOf "_law_whole" "_law_whole" (defArgs s__law_whole) (defBody s__law_whole) (defScope s__law_whole) .none kV10 dc10 pm10 an10 cd10 ct10), sl10⟩)
    (c10 : PySem.W.codeIn K cd10 "_law_whole" = true)
    (k10 : PySem.W.keepIn K (.ref f10) = true)
    (a11 : PySem.W.nsIn K mainGlobals "_law_lines_drawn" = some (some (.ref f11)))
    (l11 : K.lookup f11 = some ⟨oc11, od11, .func (PySem.W.fnOf "_law_lines_drawn" "_law_lines_drawn" (defArgs s__law_lines_drawn) (defBody s__law_lines_drawn) (defScope s__law_lines_drawn) .none kV11 dc11 pm11 an11 cd11 ct11), sl11⟩)
    (c11 : PySem.W.codeIn K cd11 "_law_lines_drawn" = true)
    (k11 : PySem.W.keepIn K (.ref f11) = true)
    (a12 : PySem.W.nsIn K mainGlobals "_law_other" = some (some (.ref f12)))
    (l12 : K.lookup f12 = some ⟨oc12, od12, .func (PySem.W.fnOf "_law_other" "_law_other" (defArgs s__law_other) (defBody s__law_other) (defScope s__law_other) .none kV12 dc12 pm12 an12 cd12 ct12), sl12⟩)
    (c12 : PySem.W.codeIn K cd12 "_law_other" = true)
    (k12 : PySem.W.keepIn K (.ref f12) = true)
    (a13 : PySem.W.nsIn K mainGlobals "_law_table" = some (some (.ref f13)))
    (l13 : K.lookup f13 = some ⟨oc13, od13, .func (PySem.W.fnOf "_law_table" "_law_table" (defArgs s__law_table) (defBody s__law_table) (defScope s__law_table) .none kV13 dc13 pm13 an13 cd13 ct13), sl13⟩)
    (c13 : PySem.W.codeIn K cd13 "_law_table" = true)
    (k13 : PySem.W.keepIn K (.ref f13) = true)
    (a14 : PySem.W.nsIn K mainGlobals "_law_led" = some (some (.ref f14)))
    (l14 : K.lookup f14 = some ⟨oc14, od14, .func (PySem.W.fnOf "_law_led" "_law_led" (defArgs s__law_led) (defBody s__law_led) (defScope s__law_led) .none kV14 dc14 pm14 an14 cd14 ct14), sl14⟩)
    (c14 : PySem.W.codeIn K cd14 "_law_led" = true)
    (k14 : PySem.W.keepIn K (.ref f14) = true)
    (a15 : PySem.W.nsIn K mainGlobals "_law_form" = some (some (.ref f15)))
    (l15 : K.lookup f15 = some ⟨oc15, od15, .func (PySem.W.fnOf "_law_form" "_law_form" (defArgs s__law_form) (defBody s__law_form) (defScope s__law_form) .none kV15 dc15 pm15 an15 cd15 ct15), sl15⟩)
    (c15 : PySem.W.codeIn K cd15 "_law_form" = true)
    (k15 : PySem.W.keepIn K (.ref f15) = true)
    (a16 : PySem.W.nsIn K mainGlobals "_law_right" = some (some (.ref f16)))
    (l16 : K.lookup f16 = some ⟨oc16, od16, .func (PySem.W.fnOf "_law_right" "_law_right" (defArgs s__law_right) (defBody s__law_right) (defScope s__law_right) .none kV16 dc16 pm16 an16 cd16 ct16), sl16⟩)
    (c16 : PySem.W.codeIn K cd16 "_law_right" = true)
    (k16 : PySem.W.keepIn K (.ref f16) = true)
    (a17 : PySem.W.nsIn K mainGlobals "law" = some (some (.ref f17)))
    (l17 : K.lookup f17 = some ⟨oc17, od17, .func (PySem.W.fnOf "law" "law" (defArgs s_law) (defBody s_law) (defScope s_law) .none kV17 dc17 pm17 an17 cd17 ct17), sl17⟩)
    (c17 : PySem.W.codeIn K cd17 "law" = true)
    (k17 : PySem.W.keepIn K (.ref f17) = true)
    (z0 : PySem.W.nsIn K mainGlobals "len" = some none)
    (z1 : PySem.W.nsIn K mainGlobals "abs" = some none)
    (z2 : PySem.W.nsIn K mainGlobals "max" = some none)
    (z3 : PySem.W.nsIn K mainGlobals "min" = some none)
    (z4 : PySem.W.nsIn K mainGlobals "int" = some none)
    (z5 : PySem.W.nsIn K mainGlobals "str" = some none)
    (z6 : PySem.W.nsIn K mainGlobals "ord" = some none)
    (z7 : PySem.W.nsIn K mainGlobals "list" = some none)
    (z8 : PySem.W.nsIn K mainGlobals "tuple" = some none)
    (z9 : PySem.W.nsIn K mainGlobals "all" = some none)
    (z10 : PySem.W.nsIn K mainGlobals "any" = some none)
    (z11 : PySem.W.nsIn K mainGlobals "sum" = some none)
    (z12 : PySem.W.nsIn K mainGlobals "range" = some none)
    (z13 : PySem.W.nsIn K mainGlobals "enumerate" = some none)
    (z14 : PySem.W.nsIn K mainGlobals "zip" = some none)
    (z15 : PySem.W.nsIn K mainGlobals "isinstance" = some none)
    (z16 : PySem.W.nsIn K mainGlobals "bool" = some none)
    (z17 : PySem.W.nsIn K mainGlobals "sorted" = some none)
    (z18 : PySem.W.nsIn K mainGlobals "repr" = some none)
    (z19 : PySem.W.nsIn K mainGlobals "dict" = some none)
    (z20 : PySem.W.nsIn K mainGlobals "set" = some none) :
    ∃ fd : FuncData, (∀ (s : Shared) (v : Value), BindsTo s fd ⟨[v], []⟩ [("_law_script", v)]) ∧ ∀ base : Heap, K.In base → base.Ns mainGlobals mg → Fg.FnG l.prog w K mg base (L2.CX l.prog w) (2 * 20) fa fd ["_law_script"] (spLaw w K) := by
  have e := hfa.symm.trans (PySem.W.mg_of X G a17)
  have e' : f17 = fa := by cases e; rfl
  subst e'
  have B0 := (fun_mk (st := s_table) l0 c0 k0).binds (ps := ["old", "new"]) fun _ _ _ _ _ _ us hl => match us, hl with | [_, _], _ => rfl
  have A0 : At K w prg "table" ⟨2, 7, t_table⟩ ["old", "new"] ["old", "new", "found", "i", "one", "j", "other"] s_table f0 (PySem.W.fnOf "table" "table" (defArgs s_table) (defBody s_table) (defScope s_table) .none kV0 dc0 pm0 an0 cd0 ct0) := by
    refine ⟨⟨_, _, _, _, _, _, _, _, _, _, _, _, rfl, l0, c0⟩, fun n hn => ?_, fun n ks hn => kw_no (by decide +kernel) hn, sc_table, rfl, rfl, ck_table⟩
    have hn := cal_in (ns := [2]) (by decide +kernel) hn
    rcases List.mem_cons.mp hn with rfl | hn
    · exact ⟨[], [], B0, .nil, fun _ _ => df_nil (by decide +kernel), by rw [df_none (by decide +kernel)]; rfl⟩
    cases hn
  have B1 := (fun_mk (st := s_steps_between) l1 c1 k1).binds (ps := ["old", "new"]) fun _ _ _ _ _ _ us hl => match us, hl with | [_, _], _ => rfl
  have A1 : At K w prg "steps_between" ⟨2, 6, t_steps_between⟩ ["old", "new"] ["old", "new", "known", "found", "i", "j"] s_steps_between f1 (PySem.W.fnOf "steps_between" "steps_between" (defArgs s_steps_between) (defBody s_steps_between) (defScope s_steps_between) .none kV1 dc1 pm1 an1 cd1 ct1) := by
    refine ⟨⟨_, _, _, _, _, _, _, _, _, _, _, _, rfl, l1, c1⟩, fun n hn => ?_, fun n ks hn => kw_no (by decide +kernel) hn, sc_steps_between, rfl, rfl, ck_steps_between⟩
    have hn := cal_in (ns := [2]) (by decide +kernel) hn
    rcases List.mem_cons.mp hn with rfl | hn
    · exact ⟨[], [], B1, .nil, fun _ _ => df_nil (by decide +kernel), by rw [df_none (by decide +kernel)]; rfl⟩
    cases hn
  have B2 := (fun_mk (st := s_patch) l2 c2 k2).binds (ps := ["old", "new"]) fun _ _ _ _ _ _ us hl => match us, hl with | [_, _], _ => rfl
  have A2 : At K w prg "patch" ⟨2, 6, t_patch⟩ ["old", "new"] ["old", "new", "found", "word", "line", "more"] s_patch f2 (PySem.W.fnOf "patch" "patch" (defArgs s_patch) (defBody s_patch) (defScope s_patch) .none kV2 dc2 pm2 an2 cd2 ct2) := by
    refine ⟨⟨_, _, _, _, _, _, _, _, _, _, _, _, rfl, l2, c2⟩, fun n hn => ?_, fun n ks hn => kw_no (by decide +kernel) hn, sc_patch, rfl, rfl, ck_patch⟩
    have hn := cal_in (ns := [2]) (by decide +kernel) hn
    rcases List.mem_cons.mp hn with rfl | hn
    · exact ⟨[], [], B2, .nil, fun _ _ => df_nil (by decide +kernel), by rw [df_none (by decide +kernel)]; rfl⟩
    cases hn
  have B3 := (fun_mk (st := s_put_on) l3 c3 k3).binds (ps := ["lines", "patch"]) fun _ _ _ _ _ _ us hl => match us, hl with | [_, _], _ => rfl
  have A3 : At K w prg "put_on" ⟨2, 7, t_put_on⟩ ["lines", "patch"] ["lines", "patch", "found", "at", "number", "word", "what"] s_put_on f3 (PySem.W.fnOf "put_on" "put_on" (defArgs s_put_on) (defBody s_put_on) (defScope s_put_on) .none kV3 dc3 pm3 an3 cd3 ct3) := by
    refine ⟨⟨_, _, _, _, _, _, _, _, _, _, _, _, rfl, l3, c3⟩, fun n hn => ?_, fun n ks hn => kw_no (by decide +kernel) hn, sc_put_on, rfl, rfl, ck_put_on⟩
    have hn := cal_in (ns := [2]) (by decide +kernel) hn
    rcases List.mem_cons.mp hn with rfl | hn
    · exact ⟨[], [], B3, .nil, fun _ _ => df_nil (by decide +kernel), by rw [df_none (by decide +kernel)]; rfl⟩
    cases hn
  have B4 := (fun_mk (st := s_is_whole) l4 c4 k4).binds (ps := ["thing"]) fun _ _ _ _ _ _ us hl => match us, hl with | [_], _ => rfl
  have A4 : At K w prg "is_whole" ⟨1, 1, t_is_whole⟩ ["thing"] ["thing"] s_is_whole f4 (PySem.W.fnOf "is_whole" "is_whole" (defArgs s_is_whole) (defBody s_is_whole) (defScope s_is_whole) .none kV4 dc4 pm4 an4 cd4 ct4) := by
    refine ⟨⟨_, _, _, _, _, _, _, _, _, _, _, _, rfl, l4, c4⟩, fun n hn => ?_, fun n ks hn => kw_no (by decide +kernel) hn, sc_is_whole, rfl, rfl, ck_is_whole⟩
    have hn := cal_in (ns := [1]) (by decide +kernel) hn
    rcases List.mem_cons.mp hn with rfl | hn
    · exact ⟨[], [], B4, .nil, fun _ _ => df_nil (by decide +kernel), by rw [df_none (by decide +kernel)]; rfl⟩
    cases hn
  have B5 := (fun_mk (st := s_is_row) l5 c5 k5).binds (ps := ["thing"]) fun _ _ _ _ _ _ us hl => match us, hl with | [_], _ => rfl
  have A5 : At K w prg "is_row" ⟨1, 4, t_is_row⟩ ["thing"] ["thing", "word", "what", "one"] s_is_row f5 (PySem.W.fnOf "is_row" "is_row" (defArgs s_is_row) (defBody s_is_row) (defScope s_is_row) .none kV5 dc5 pm5 an5 cd5 ct5) := by
    refine ⟨⟨_, _, _, _, _, _, _, _, _, _, _, _, rfl, l5, c5⟩, fun n hn => ?_, fun n ks hn => kw_no (by decide +kernel) hn, sc_is_row, rfl, rfl, ck_is_row⟩
    have hn := cal_in (ns := [1]) (by decide +kernel) hn
    rcases List.mem_cons.mp hn with rfl | hn
    · exact ⟨[], [], B5, .nil, fun _ _ => df_nil (by decide +kernel), by rw [df_none (by decide +kernel)]; rfl⟩
    cases hn
  have B6 := (fun_mk (st := s_is_patch) l6 c6 k6).binds (ps := ["old", "new", "thing"]) fun _ _ _ _ _ _ us hl => match us, hl with | [_, _, _], _ => rfl
  have A6 : At K w prg "is_patch" ⟨3, 7, t_is_patch⟩ ["old", "new", "thing"] ["old", "new", "thing", "words", "row", "one", "other"] s_is_patch f6 (PySem.W.fnOf "is_patch" "is_patch" (defArgs s_is_patch) (defBody s_is_patch) (defScope s_is_patch) .none kV6 dc6 pm6 an6 cd6 ct6) := by
    refine ⟨⟨_, _, _, _, _, _, _, _, _, _, _, _, rfl, l6, c6⟩, fun n hn => ?_, fun n ks hn => kw_no (by decide +kernel) hn, sc_is_patch, rfl, rfl, ck_is_patch⟩
    have hn := cal_in (ns := [3]) (by decide +kernel) hn
    rcases List.mem_cons.mp hn with rfl | hn
    · exact ⟨[], [], B6, .nil, fun _ _ => df_nil (by decide +kernel), by rw [df_none (by decide +kernel)]; rfl⟩
    cases hn
  have B7 := (fun_mk (st := s_is_table) l7 c7 k7).binds (ps := ["old", "new", "thing"]) fun _ _ _ _ _ _ us hl => match us, hl with | [_, _, _], _ => rfl
  have A7 : At K w prg "is_table" ⟨3, 5, t_is_table⟩ ["old", "new", "thing"] ["old", "new", "thing", "row", "one"] s_is_table f7 (PySem.W.fnOf "is_table" "is_table" (defArgs s_is_table) (defBody s_is_table) (defScope s_is_table) .none kV7 dc7 pm7 an7 cd7 ct7) := by
    refine ⟨⟨_, _, _, _, _, _, _, _, _, _, _, _, rfl, l7, c7⟩, fun n hn => ?_, fun n ks hn => kw_no (by decide +kernel) hn, sc_is_table, rfl, rfl, ck_is_table⟩
    have hn := cal_in (ns := [3]) (by decide +kernel) hn
    rcases List.mem_cons.mp hn with rfl | hn
    · exact ⟨[], [], B7, .nil, fun _ _ => df_nil (by decide +kernel), by rw [df_none (by decide +kernel)]; rfl⟩
    cases hn
  have B8 := (fun_mk (st := s__law_roll) l8 c8 k8).binds (ps := ["_law_dice", "_law_size"]) fun _ _ _ _ _ _ us hl => match us, hl with | [_, _], _ => rfl
  have A8 : At K w prg "_law_roll" ⟨2, 6, t__law_roll⟩ ["_law_dice", "_law_size"] ["_law_dice", "_law_size", "_law_rest", "_law_spot", "_law_cell", "_law_seed"] s__law_roll f8 (PySem.W.fnOf "_law_roll" "_law_roll" (defArgs s__law_roll) (defBody s__law_roll) (defScope s__law_roll) .none kV8 dc8 pm8 an8 cd8 ct8) := by
    refine ⟨⟨_, _, _, _, _, _, _, _, _, _, _, _, rfl, l8, c8⟩, fun n hn => ?_, fun n ks hn => kw_no (by decide +kernel) hn, sc__law_roll, rfl, rfl, ck__law_roll⟩
    have hn := cal_in (ns := [2]) (by decide +kernel) hn
    rcases List.mem_cons.mp hn with rfl | hn
    · exact ⟨[], [], B8, .nil, fun _ _ => df_nil (by decide +kernel), by rw [df_none (by decide +kernel)]; rfl⟩
    cases hn
  have B9 := (fun_mk (st := s__law_pick) l9 c9 k9).binds (ps := ["_law_dice", "_law_some"]) fun _ _ _ _ _ _ us hl => match us, hl with | [_, _], _ => rfl
  have A9 : At K w prg "_law_pick" ⟨2, 2, t__law_pick⟩ ["_law_dice", "_law_some"] ["_law_dice", "_law_some"] s__law_pick f9 (PySem.W.fnOf "_law_pick" "_law_pick" (defArgs s__law_pick) (defBody s__law_pick) (defScope s__law_pick) .none kV9 dc9 pm9 an9 cd9 ct9) := by
    refine ⟨⟨_, _, _, _, _, _, _, _, _, _, _, _, rfl, l9, c9⟩, fun n hn => ?_, fun n ks hn => kw_no (by decide +kernel) hn, sc__law_pick, rfl, rfl, ck__law_pick⟩
    have hn := cal_in (ns := [2]) (by decide +kernel) hn
    rcases List.mem_cons.mp hn with rfl | hn
    · exact ⟨[], [], B9, .nil, fun _ _ => df_nil (by decide +kernel), by rw [df_none (by decide +kernel)]; rfl⟩
    cases hn
  have B10 := (fun_mk (st := s__law_whole) l10 c10 k10).binds (ps := ["_law_thing"]) fun _ _ _ _ _ _ us hl => match us, hl with | [_], _ => rfl
  have A10 : At K w prg "_law_whole" ⟨1, 1, t__law_whole⟩ ["_law_thing"] ["_law_thing"] s__law_whole f10 (PySem.W.fnOf "_law_whole" "_law_whole" (defArgs s__law_whole) (defBody s__law_whole) (defScope s__law_whole) .none kV10 dc10 pm10 an10 cd10 ct10) := by
    refine ⟨⟨_, _, _, _, _, _, _, _, _, _, _, _, rfl, l10, c10⟩, fun n hn => ?_, fun n ks hn => kw_no (by decide +kernel) hn, sc__law_whole, rfl, rfl, ck__law_whole⟩
    have hn := cal_in (ns := [1]) (by decide +kernel) hn
    rcases List.mem_cons.mp hn with rfl | hn
    · exact ⟨[], [], B10, .nil, fun _ _ => df_nil (by decide +kernel), by rw [df_none (by decide +kernel)]; rfl⟩
    cases hn
  have B11 := (fun_mk (st := s__law_lines_drawn) l11 c11 k11).binds (ps := ["_law_dice"]) fun _ _ _ _ _ _ us hl => match us, hl with | [_], _ => rfl
  have A11 : At K w prg "_law_lines_drawn" ⟨1, 4, t__law_lines_drawn⟩ ["_law_dice"] ["_law_dice", "_law_few", "_law_some", "_law_k"] s__law_lines_drawn f11 (PySem.W.fnOf "_law_lines_drawn" "_law_lines_drawn" (defArgs s__law_lines_drawn) (defBody s__law_lines_drawn) (defScope s__law_lines_drawn) .none kV11 dc11 pm11 an11 cd11 ct11) := by
    refine ⟨⟨_, _, _, _, _, _, _, _, _, _, _, _, rfl, l11, c11⟩, fun n hn => ?_, fun n ks hn => kw_no (by decide +kernel) hn, sc__law_lines_drawn, rfl, rfl, ck__law_lines_drawn⟩
    have hn := cal_in (ns := [1]) (by decide +kernel) hn
    rcases List.mem_cons.mp hn with rfl | hn
    · exact ⟨[], [], B11, .nil, fun _ _ => df_nil (by decide +kernel), by rw [df_none (by decide +kernel)]; rfl⟩
    cases hn
  have B12 := (fun_mk (st := s__law_other) l12 c12 k12).binds (ps := ["_law_dice", "_law_old"]) fun _ _ _ _ _ _ us hl => match us, hl with | [_, _], _ => rfl
  have A12 : At K w prg "_law_other" ⟨2, 8, t__law_other⟩ ["_law_dice", "_law_old"] ["_law_dice", "_law_old", "_law_found", "_law_turn", "_law_at", "_law_to", "_law_way", "_law_line"] s__law_other f12 (PySem.W.fnOf "_law_other" "_law_other" (defArgs s__law_other) (defBody s__law_other) (defScope s__law_other) .none kV12 dc12 pm12 an12 cd12 ct12) := by
    refine ⟨⟨_, _, _, _, _, _, _, _, _, _, _, _, rfl, l12, c12⟩, fun n hn => ?_, fun n ks hn => kw_no (by decide +kernel) hn, sc__law_other, rfl, rfl, ck__law_other⟩
    have hn := cal_in (ns := [2]) (by decide +kernel) hn
    rcases List.mem_cons.mp hn with rfl | hn
    · exact ⟨[], [], B12, .nil, fun _ _ => df_nil (by decide +kernel), by rw [df_none (by decide +kernel)]; rfl⟩
    cases hn
  have B13 := (fun_mk (st := s__law_table) l13 c13 k13).binds (ps := ["_law_old", "_law_new"]) fun _ _ _ _ _ _ us hl => match us, hl with | [_, _], _ => rfl
  have A13 : At K w prg "_law_table" ⟨2, 8, t__law_table⟩ ["_law_old", "_law_new"] ["_law_old", "_law_new", "_law_found", "_law_one", "_law_above", "_law_line", "_law_j", "_law_other_here"] s__law_table f13 (PySem.W.fnOf "_law_table" "_law_table" (defArgs s__law_table) (defBody s__law_table) (defScope s__law_table) .none kV13 dc13 pm13 an13 cd13 ct13) := by
    refine ⟨⟨_, _, _, _, _, _, _, _, _, _, _, _, rfl, l13, c13⟩, fun n hn => ?_, fun n ks hn => kw_no (by decide +kernel) hn, sc__law_table, rfl, rfl, ck__law_table⟩
    have hn := cal_in (ns := [2]) (by decide +kernel) hn
    rcases List.mem_cons.mp hn with rfl | hn
    · exact ⟨[], [], B13, .nil, fun _ _ => df_nil (by decide +kernel), by rw [df_none (by decide +kernel)]; rfl⟩
    cases hn
  have B14 := (fun_mk (st := s__law_led) l14 c14 k14).binds (ps := ["_law_old", "_law_rows"]) fun _ _ _ _ _ _ us hl => match us, hl with | [_, _], _ => rfl
  have A14 : At K w prg "_law_led" ⟨2, 7, t__law_led⟩ ["_law_old", "_law_rows"] ["_law_old", "_law_rows", "_law_found", "_law_kept", "_law_left", "_law_word", "_law_what"] s__law_led f14 (PySem.W.fnOf "_law_led" "_law_led" (defArgs s__law_led) (defBody s__law_led) (defScope s__law_led) .none kV14 dc14 pm14 an14 cd14 ct14) := by
    refine ⟨⟨_, _, _, _, _, _, _, _, _, _, _, _, rfl, l14, c14⟩, fun n hn => ?_, fun n ks hn => kw_no (by decide +kernel) hn, sc__law_led, rfl, rfl, ck__law_led⟩
    have hn := cal_in (ns := [2]) (by decide +kernel) hn
    rcases List.mem_cons.mp hn with rfl | hn
    · exact ⟨[], [], B14, .nil, fun _ _ => df_nil (by decide +kernel), by rw [df_none (by decide +kernel)]; rfl⟩
    cases hn
  have B15 := (fun_mk (st := s__law_form) l15 c15 k15).binds (ps := ["_law_rows"]) fun _ _ _ _ _ _ us hl => match us, hl with | [_], _ => rfl
  have A15 : At K w prg "_law_form" ⟨1, 5, t__law_form⟩ ["_law_rows"] ["_law_rows", "_law_last", "_law_one", "_law_what", "_law_line"] s__law_form f15 (PySem.W.fnOf "_law_form" "_law_form" (defArgs s__law_form) (defBody s__law_form) (defScope s__law_form) .none kV15 dc15 pm15 an15 cd15 ct15) := by
    refine ⟨⟨_, _, _, _, _, _, _, _, _, _, _, _, rfl, l15, c15⟩, fun n hn => ?_, fun n ks hn => kw_no (by decide +kernel) hn, sc__law_form, rfl, rfl, ck__law_form⟩
    have hn := cal_in (ns := [1]) (by decide +kernel) hn
    rcases List.mem_cons.mp hn with rfl | hn
    · exact ⟨[], [], B15, .nil, fun _ _ => df_nil (by decide +kernel), by rw [df_none (by decide +kernel)]; rfl⟩
    cases hn
  have B16 := (fun_mk (st := s__law_right) l16 c16 k16).binds (ps := ["_law_old", "_law_new"]) fun _ _ _ _ _ _ us hl => match us, hl with | [_, _], _ => rfl
  have A16 : At K w prg "_law_right" ⟨2, 9, t__law_right⟩ ["_law_old", "_law_new"] ["_law_old", "_law_new", "_law_handed", "_law_due", "_law_told", "_law_line", "_law_rows", "_law_led_to", "_law_one"] s__law_right f16 (PySem.W.fnOf "_law_right" "_law_right" (defArgs s__law_right) (defBody s__law_right) (defScope s__law_right) .none kV16 dc16 pm16 an16 cd16 ct16) := by
    refine ⟨⟨_, _, _, _, _, _, _, _, _, _, _, _, rfl, l16, c16⟩, fun n hn => ?_, fun n ks hn => kw_no (by decide +kernel) hn, sc__law_right, rfl, rfl, ck__law_right⟩
    have hn := cal_in (ns := [2]) (by decide +kernel) hn
    rcases List.mem_cons.mp hn with rfl | hn
    · exact ⟨[], [], B16, .nil, fun _ _ => df_nil (by decide +kernel), by rw [df_none (by decide +kernel)]; rfl⟩
    cases hn
  have B17 := (fun_mk (st := s_law) l17 c17 k17).binds (ps := ["_law_script"]) fun _ _ _ _ _ _ us hl => match us, hl with | [_], _ => rfl
  have A17 : At K w prg "law" ⟨1, 5, t_law⟩ ["_law_script"] ["_law_script", "_law_dice", "_law_turn", "_law_old", "_law_new"] s_law f17 (PySem.W.fnOf "law" "law" (defArgs s_law) (defBody s_law) (defScope s_law) .none kV17 dc17 pm17 an17 cd17 ct17) := by
    refine ⟨⟨_, _, _, _, _, _, _, _, _, _, _, _, rfl, l17, c17⟩, fun n hn => ?_, fun n ks hn => kw_no (by decide +kernel) hn, sc_law, rfl, rfl, ck_law⟩
    have hn := cal_in (ns := [1]) (by decide +kernel) hn
    rcases List.mem_cons.mp hn with rfl | hn
    · exact ⟨[], [], B17, .nil, fun _ _ => df_nil (by decide +kernel), by rw [df_none (by decide +kernel)]; rfl⟩
    cases hn
  have pa : PrgAt K w mg prg := by
    refine ⟨fun f hf => ?_, fun C m x hx => ?_, fun C x hx => ?_, fun C f hf => ?_, fun C hx => ?_, fun A C b hx => ?_, fun x hx => ?_, fun x hx => ?_⟩
    · rcases List.mem_cons.mp hf with e | hf
      · cases e; exact ⟨_, _, _, _, _, _, rfl, A0, PySem.W.mg_of X G a0, k0⟩
      rcases List.mem_cons.mp hf with e | hf
      · cases e; exact ⟨_, _, _, _, _, _, rfl, A1, PySem.W.mg_of X G a1, k1⟩
      rcases List.mem_cons.mp hf with e | hf
      · cases e; exact ⟨_, _, _, _, _, _, rfl, A2, PySem.W.mg_of X G a2, k2⟩
      rcases List.mem_cons.mp hf with e | hf
      · cases e; exact ⟨_, _, _, _, _, _, rfl, A3, PySem.W.mg_of X G a3, k3⟩
      rcases List.mem_cons.mp hf with e | hf
      · cases e; exact ⟨_, _, _, _, _, _, rfl, A4, PySem.W.mg_of X G a4, k4⟩
      rcases List.mem_cons.mp hf with e | hf
      · cases e; exact ⟨_, _, _, _, _, _, rfl, A5, PySem.W.mg_of X G a5, k5⟩
      rcases List.mem_cons.mp hf with e | hf
      · cases e; exact ⟨_, _, _, _, _, _, rfl, A6, PySem.W.mg_of X G a6, k6⟩
      rcases List.mem_cons.mp hf with e | hf
      · cases e; exact ⟨_, _, _, _, _, _, rfl, A7, PySem.W.mg_of X G a7, k7⟩
      rcases List.mem_cons.mp hf with e | hf
      · cases e; exact ⟨_, _, _, _, _, _, rfl, A8, PySem.W.mg_of X G a8, k8⟩
      rcases List.mem_cons.mp hf with e | hf
      · cases e; exact ⟨_, _, _, _, _, _, rfl, A9, PySem.W.mg_of X G a9, k9⟩
      rcases List.mem_cons.mp hf with e | hf
      · cases e; exact ⟨_, _, _, _, _, _, rfl, A10, PySem.W.mg_of X G a10, k10⟩
      rcases List.mem_cons.mp hf with e | hf
      · cases e; exact ⟨_, _, _, _, _, _, rfl, A11, PySem.W.mg_of X G a11, k11⟩
      rcases List.mem_cons.mp hf with e | hf
      · cases e; exact ⟨_, _, _, _, _, _, rfl, A12, PySem.W.mg_of X G a12, k12⟩
      rcases List.mem_cons.mp hf with e | hf
      · cases e; exact ⟨_, _, _, _, _, _, rfl, A13, PySem.W.mg_of X G a13, k13⟩
      rcases List.mem_cons.mp hf with e | hf
      · cases e; exact ⟨_, _, _, _, _, _, rfl, A14, PySem.W.mg_of X G a14, k14⟩
      rcases List.mem_cons.mp hf with e | hf
      · cases e; exact ⟨_, _, _, _, _, _, rfl, A15, PySem.W.mg_of X G a15, k15⟩
      rcases List.mem_cons.mp hf with e | hf
      · cases e; exact ⟨_, _, _, _, _, _, rfl, A16, PySem.W.mg_of X G a16, k16⟩
      rcases List.mem_cons.mp hf with e | hf
      · cases e; exact ⟨_, _, _, _, _, _, rfl, A17, PySem.W.mg_of X G a17, k17⟩
      cases hf
    · cases hx
    · cases hx
    · cases hf
    · cases hx
    · cases hx
    · cases hx
    · rcases List.mem_cons.mp hx with e | hx
      · cases e; exact PySem.W.mg_none_of X G z0
      rcases List.mem_cons.mp hx with e | hx
      · cases e; exact PySem.W.mg_none_of X G z1
      rcases List.mem_cons.mp hx with e | hx
      · cases e; exact PySem.W.mg_none_of X G z2
      rcases List.mem_cons.mp hx with e | hx
      · cases e; exact PySem.W.mg_none_of X G z3
      rcases List.mem_cons.mp hx with e | hx
      · cases e; exact PySem.W.mg_none_of X G z4
      rcases List.mem_cons.mp hx with e | hx
      · cases e; exact PySem.W.mg_none_of X G z5
      rcases List.mem_cons.mp hx with e | hx
      · cases e; exact PySem.W.mg_none_of X G z6
      rcases List.mem_cons.mp hx with e | hx
      · cases e; exact PySem.W.mg_none_of X G z7
      rcases List.mem_cons.mp hx with e | hx
      · cases e; exact PySem.W.mg_none_of X G z8
      rcases List.mem_cons.mp hx with e | hx
      · cases e; exact PySem.W.mg_none_of X G z9
      rcases List.mem_cons.mp hx with e | hx
      · cases e; exact PySem.W.mg_none_of X G z10
      rcases List.mem_cons.mp hx with e | hx
      · cases e; exact PySem.W.mg_none_of X G z11
      rcases List.mem_cons.mp hx with e | hx
      · cases e; exact PySem.W.mg_none_of X G z12
      rcases List.mem_cons.mp hx with e | hx
      · cases e; exact PySem.W.mg_none_of X G z13
      rcases List.mem_cons.mp hx with e | hx
      · cases e; exact PySem.W.mg_none_of X G z14
      rcases List.mem_cons.mp hx with e | hx
      · cases e; exact PySem.W.mg_none_of X G z15
      rcases List.mem_cons.mp hx with e | hx
      · cases e; exact PySem.W.mg_none_of X G z16
      rcases List.mem_cons.mp hx with e | hx
      · cases e; exact PySem.W.mg_none_of X G z17
      rcases List.mem_cons.mp hx with e | hx
      · cases e; exact PySem.W.mg_none_of X G z18
      rcases List.mem_cons.mp hx with e | hx
      · cases e; exact PySem.W.mg_none_of X G z19
      rcases List.mem_cons.mp hx with e | hx
      · cases e; exact PySem.W.mg_none_of X G z20
      cases hx
  refine ⟨PySem.W.fnOf "law" "law" (defArgs s_law) (defBody s_law) (defScope s_law) .none kV17 dc17 pm17 an17 cd17 ct17, fun s v => .of_eq rfl, fun base _ _ => ?_⟩
  exact prg_ok (P := l.prog) (w := w) (base := base) prg pa 20 "law" ⟨1, 5, t_law⟩ _ _ _ _ _ rfl A17

end k88
open PySem PySem.W PyProof.Rows
set_option maxHeartbeats 0 in
theorem PySem.Challenge.cw_leafround_k88_patches_lead_over_holds : PySem.Challenge.rw_leafround_k88_patches_lead_over.Holds := by
  w_on; o_law; k_head; (case hw => w_witness2)
  k_fill
  refine Fg.walk_g (l := PySem.Challenge.rw_leafround_k88_patches_lead_over) (n := 63) (k := 2 * 20) (x := "_law_script") (CX := fun w => L2.CX PySem.Challenge.rw_leafround_k88_patches_lead_over.prog w) (sp := k88.spLaw) rfl (by decide) rfl ⟨rfl, by decide, by decide⟩ (fun w h Y => PySem.W.kIn_of Y) ?F (fun w K => Mz.law_end (K := ⟨K, w⟩) k88.plain) (fun _ _ _ _ _ h => Mz.cx_no h)
  case F =>
    intro w mg fa h KX G hmg
    refine' k88.all_mk KX G hmg ?a0 ?l0 ?c0 ?k0 ?a1 ?l1 ?c1 ?k1 ?a2 ?l2 ?c2 ?k2 ?a3 ?l3 ?c3 ?k3 ?a4 ?l4 ?c4 ?k4 ?a5 ?l5 ?c5 ?k5 ?a6 ?l6 ?c6 ?k6 ?a7 ?l7 ?c7 ?k7 ?a8 ?l8 ?c8 ?k8 ?a9 ?l9 ?c9 ?k9 ?a10 ?l10 ?c10 ?k10 ?a11 ?l11 ?c11 ?k11 ?a12 ?l12 ?c12 ?k12 ?a13 ?l13 ?c13 ?k13 ?a14 ?l14 ?c14 ?k14 ?a15 ?l15 ?c15 ?k15 ?a16 ?l16 ?c16 ?k16 ?a17 ?l17 ?c17 ?k17 ?z0 ?z1 ?z2 ?z3 ?z4 ?z5 ?z6 ?z7 ?z8 ?z9 ?z10 ?z11 ?z12 ?z13 ?z14 ?z15 ?z16 ?z17 ?z18 ?z19 ?z20
    (case a0 => k_is); (case l0 => k_is); (case c0 => k_is); (case k0 => k_is); (case a1 => k_is); (case l1 => k_is); (case c1 => k_is); (case k1 => k_is); (case a2 => k_is); (case l2 => k_is); (case c2 => k_is); (case k2 => k_is); (case a3 => k_is); (case l3 => k_is); (case c3 => k_is); (case k3 => k_is); (case a4 => k_is); (case l4 => k_is); (case c4 => k_is); (case k4 => k_is); (case a5 => k_is); (case l5 => k_is); (case c5 => k_is); (case k5 => k_is); (case a6 => k_is); (case l6 => k_is); (case c6 => k_is); (case k6 => k_is); (case a7 => k_is); (case l7 => k_is); (case c7 => k_is); (case k7 => k_is); (case a8 => k_is); (case l8 => k_is); (case c8 => k_is); (case k8 => k_is); (case a9 => k_is); (case l9 => k_is); (case c9 => k_is); (case k9 => k_is); (case a10 => k_is); (case l10 => k_is); (case c10 => k_is); (case k10 => k_is); (case a11 => k_is); (case l11 => k_is); (case c11 => k_is); (case k11 => k_is); (case a12 => k_is); (case l12 => k_is); (case c12 => k_is); (case k12 => k_is); (case a13 => k_is); (case l13 => k_is); (case c13 => k_is); (case k13 => k_is); (case a14 => k_is); (case l14 => k_is); (case c14 => k_is); (case k14 => k_is); (case a15 => k_is); (case l15 => k_is); (case c15 => k_is); (case k15 => k_is); (case a16 => k_is); (case l16 => k_is); (case c16 => k_is); (case k16 => k_is); (case a17 => k_is); (case l17 => k_is); (case c17 => k_is); (case k17 => k_is); (case z0 => k_is); (case z1 => k_is); (case z2 => k_is); (case z3 => k_is); (case z4 => k_is); (case z5 => k_is); (case z6 => k_is); (case z7 => k_is); (case z8 => k_is); (case z9 => k_is); (case z10 => k_is); (case z11 => k_is); (case z12 => k_is); (case z13 => k_is); (case z14 => k_is); (case z15 => k_is); (case z16 => k_is); (case z17 => k_is); (case z18 => k_is); (case z19 => k_is); (case z20 => k_is)


end
