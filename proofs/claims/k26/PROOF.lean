import PyProof.Rows.All
import Wide.All
import OpenK.AllK
import Wide.FinOn
import PySem.Challenge.RW_leafround_k26_names_that_are_free
import HandS.ForMost
import HandS.Flow
import HandS.Wide
import HandS.FStr
import HandS.IsInst
import HandS.StrMore
import HandS.TupAny
import HandS.Style
import HandS.Deep
import HandS.More
import HandS.RaiseMore
section
set_option Elab.async false
set_option linter.all false
set_option maxRecDepth 100000
namespace Mz
open PySem PySem.Spec PyProof.Rows L2

/-! ### plain values and the plain store -/
inductive D where
  | non | bl (b : Bool) | int (i : Int) | str (x : Str) | tup (xs : List D) | cl (xs : List D) | loc (n : Nat)

inductive Cell where
  | lst (xs : List D)
  | dct (kvs : List (D × D))
  | ins (C : Str) (fs : List (Str × D))

abbrev Store := List Cell
abbrev Sg := List (Option D)
structure Xc where
  cls : Str
  fs : List (Str × D)

/-- an outcome of an expression -/
inductive O (α : Type) where
  | ok (a : α) (S : Store)
  | ex (x : Xc) (S : Store)
  | no
def O.bind {α β : Type} (o : O α) (k : α → Store → O β) : O β := match o with
  | .ok a S => k a S
  | .ex x S => .ex x S
  | .no => .no
@[simp] theorem O.bind_ok {α β : Type} (a : α) (S : Store) (k : α → Store → O β) : (O.ok a S).bind k = k a S := rfl
@[simp] theorem O.bind_no {α β : Type} (k : α → Store → O β) : (O.no : O α).bind k = .no := rfl
@[simp] theorem O.bind_ex {α β : Type} (x : Xc) (S : Store) (k : α → Store → O β) : (O.ex x S : O α).bind k = .ex x S := rfl

/-! ### the tie to the layer's heap -/
def SqC (K : PySem.W.Frag) (H : Hp) (a : Addr) (vs : List V) : Prop :=
  (∃ o, H a = some (.frz o (.lst vs))) ∨
    ∃ (o : Obj) (its : Array Value) (n : Nat), K.lookup a = some o ∧ o.cls = .type "list" ∧ o.dict = none ∧ o.data = .seq its n ∧ its.size ≤ sizeLine ∧ Vals vs its.toList
theorem SqC.sq {K : PySem.W.Frag} {H : Hp} {a : Addr} {vs : List V} (h : SqC K H a vs) : SqL K H a vs := by
  rcases h with ⟨o, h⟩ | h
  · exact .inl (.inr ⟨o, h⟩)
  · exact .inr h

mutual
inductive RV (K : PySem.W.Frag) (m : List Addr) (H : Hp) : D → V → Prop
  | non : RV K m H .non .non
  | bl (b : Bool) : RV K m H (.bl b) (.bl b)
  | int (i : Int) : RV K m H (.int i) (.int i)
  | str (x : Str) : RV K m H (.str x) (.str x)
  | tup {a : Addr} {vs : List V} {xs : List D} : SqT K H a vs → RVs K m H xs vs → RV K m H (.tup xs) (.ref a)
  | cl {a : Addr} {vs : List V} {xs : List D} : SqC K H a vs → RVs K m H xs vs → RV K m H (.cl xs) (.ref a)
  | loc {n : Nat} {a : Addr} : m[n]? = some a → RV K m H (.loc n) (.ref a)
inductive RVs (K : PySem.W.Frag) (m : List Addr) (H : Hp) : List D → List V → Prop
  | nil : RVs K m H [] []
  | cons {d : D} {v : V} {ds : List D} {vs : List V} : RV K m H d v → RVs K m H ds vs → RVs K m H (d :: ds) (v :: vs)
end

section
variable {K : PySem.W.Frag} {m m' : List Addr} {H H' : Hp}
mutual
theorem RV.mono (hm : ∀ (n : Nat) a, m[n]? = some a → m'[n]? = some a) (ht : ∀ a vs, SqT K H a vs → SqT K H' a vs) (hc : ∀ a vs, SqC K H a vs → SqC K H' a vs) :
    ∀ {d : D} {v : V}, RV K m H d v → RV K m' H' d v
  | _, _, .non => .non
  | _, _, .bl b => .bl b
  | _, _, .int i => .int i
  | _, _, .str x => .str x
  | _, _, .tup h r => .tup (ht _ _ h) (RVs.mono hm ht hc r)
  | _, _, .cl h r => .cl (hc _ _ h) (RVs.mono hm ht hc r)
  | _, _, .loc h => .loc (hm _ _ h)
theorem RVs.mono (hm : ∀ (n : Nat) a, m[n]? = some a → m'[n]? = some a) (ht : ∀ a vs, SqT K H a vs → SqT K H' a vs) (hc : ∀ a vs, SqC K H a vs → SqC K H' a vs) :
    ∀ {ds : List D} {vs : List V}, RVs K m H ds vs → RVs K m' H' ds vs
  | _, _, .nil => .nil
  | _, _, .cons h r => .cons (RV.mono hm ht hc h) (RVs.mono hm ht hc r)
end

theorem RVs.length : ∀ {ds : List D} {vs : List V}, RVs K m H ds vs → ds.length = vs.length
  | _, _, .nil => rfl
  | _, _, .cons _ r => by simp [RVs.length r]
theorem RVs.get : ∀ {ds : List D} {vs : List V} {i : Nat} {d : D}, RVs K m H ds vs → ds[i]? = some d → ∃ v, vs[i]? = some v ∧ RV K m H d v
  | _, _, _, _, .nil, e => by simp at e
  | _, _, 0, _, .cons h _, e => by simp at e; subst e; exact ⟨_, rfl, h⟩
  | _, _, i + 1, d, .cons _ r, e => by
    obtain ⟨v, h1, h2⟩ := RVs.get (i := i) (d := d) r (by simpa using e)
    exact ⟨v, by simpa using h1, h2⟩
theorem RVs.getV : ∀ {ds : List D} {vs : List V} {i : Nat} {v : V}, RVs K m H ds vs → vs[i]? = some v → ∃ d, ds[i]? = some d ∧ RV K m H d v
  | _, _, _, _, .nil, e => by simp at e
  | _, _, 0, _, .cons h _, e => by simp at e; subst e; exact ⟨_, rfl, h⟩
  | _, _, i + 1, d, .cons _ r, e => by
    obtain ⟨v, h1, h2⟩ := RVs.getV (i := i) (v := d) r (by simpa using e)
    exact ⟨v, by simpa using h1, h2⟩
theorem RVs.append : ∀ {ds es : List D} {vs ws : List V}, RVs K m H ds vs → RVs K m H es ws → RVs K m H (ds ++ es) (vs ++ ws)
  | _, _, _, _, .nil, r => r
  | _, _, _, _, .cons h t, r => .cons h (RVs.append t r)
theorem RVs.take : ∀ {ds : List D} {vs : List V} (n : Nat), RVs K m H ds vs → RVs K m H (ds.take n) (vs.take n)
  | _, _, 0, _ => .nil
  | _, _, _ + 1, .nil => .nil
  | _, _, n + 1, .cons h t => .cons h (RVs.take n t)
theorem RVs.drop : ∀ {ds : List D} {vs : List V} (n : Nat), RVs K m H ds vs → RVs K m H (ds.drop n) (vs.drop n)
  | _, _, 0, r => r
  | _, _, _ + 1, .nil => .nil
  | _, _, n + 1, .cons _ t => RVs.drop n t
theorem RVs.set {d : D} {v : V} (h : RV K m H d v) : ∀ {ds : List D} {vs : List V} (n : Nat), RVs K m H ds vs → RVs K m H (ds.set n d) (vs.set n v)
  | _, _, _, .nil => .nil
  | _, _, 0, .cons _ t => .cons h t
  | _, _, n + 1, .cons q t => .cons q (RVs.set h n t)
theorem RVs.reverse : ∀ {ds : List D} {vs : List V}, RVs K m H ds vs → RVs K m H ds.reverse vs.reverse
  | _, _, .nil => .nil
  | _, _, .cons h t => by
    rw [List.reverse_cons, List.reverse_cons]
    exact RVs.append (RVs.reverse t) (.cons h .nil)
theorem RVs.eraseIdx : ∀ {ds : List D} {vs : List V} (n : Nat), RVs K m H ds vs → RVs K m H (ds.eraseIdx n) (vs.eraseIdx n)
  | _, _, _, .nil => .nil
  | _, _, 0, .cons _ t => t
  | _, _, n + 1, .cons q t => .cons q (RVs.eraseIdx n t)
end

/-- what a cell is at its address -/
def CO (K : PySem.W.Frag) (m : List Addr) (H : Hp) (a : Addr) : Cell → Prop
  | .lst xs => ∃ vs, H a = some (.lst vs) ∧ RVs K m H xs vs
  | .dct _ => False
  | .ins _ _ => False
def isMut : HO → Prop
  | .lst _ => True
  | .dK _ => True
  | .dT _ => True
  | .set _ _ => True
  | .ins _ _ _ => True
  | .ext _ => True
  | _ => False

structure Sim (K : PySem.W.Frag) (m : List Addr) (S : Store) (H : Hp) : Prop where
  len : m.length = S.length
  inj : ∀ (i j : Nat) a, m[i]? = some a → m[j]? = some a → i = j
  cel : ∀ (n : Nat) a c, m[n]? = some a → S[n]? = some c → CO K m H a c

structure Ext (m : List Addr) (H : Hp) (m' : List Addr) (H' : Hp) : Prop where
  pre : ∀ (n : Nat) a, m[n]? = some a → m'[n]? = some a
  new : ∀ a, a ∈ m' → a ∉ m → H a = none
  kee : ∀ a o, a ∉ m → H a = some o → H' a = some o

section
variable {K : PySem.W.Frag} {m m1 m2 : List Addr} {H H1 H2 : Hp} {S : Store}
theorem Ext.refl : Ext m H m H := ⟨fun _ _ h => h, fun _ h n => absurd h n, fun _ _ _ h => h⟩
theorem mem_pre (h : ∀ (n : Nat) a, m[n]? = some a → m1[n]? = some a) {a : Addr} (x : a ∈ m) : a ∈ m1 := by
  obtain ⟨n, e⟩ := List.mem_iff_getElem?.mp x
  exact List.mem_iff_getElem?.mpr ⟨n, h n a e⟩
theorem Ext.trans (a : Ext m H m1 H1) (b : Ext m1 H1 m2 H2) : Ext m H m2 H2 where
  pre := fun n x h => b.pre n x (a.pre n x h)
  new := fun x h n => by
    by_cases h1 : x ∈ m1
    · exact a.new x h1 n
    · have e := b.new x h h1
      cases q : H x with
      | none => rfl
      | some o => rw [a.kee x o n q] at e; cases e
  kee := fun x o n h => by
    refine b.kee x o ?_ (a.kee x o n h)
    intro h1
    rw [a.new x h1 n] at h
    cases h
theorem Sim.mut (s : Sim K m S H) {a : Addr} (h : a ∈ m) : ∃ o, H a = some o ∧ isMut o := by
  obtain ⟨n, e⟩ := List.mem_iff_getElem?.mp h
  have hn : n < S.length := by
    rw [← s.len]
    exact (List.getElem?_eq_some_iff.mp e).1
  have c := s.cel n a _ e (List.getElem?_eq_getElem hn)
  cases q : S[n] with
  | lst xs => rw [q] at c; obtain ⟨vs, h, _⟩ := c; exact ⟨_, h, trivial⟩
  | dct _ => rw [q] at c; exact c.elim
  | ins _ _ => rw [q] at c; exact c.elim
theorem Ext.sqT (s : Sim K m S H) (e : Ext m H m1 H1) {a : Addr} {vs : List V} (h : SqT K H a vs) : SqT K H1 a vs := by
  rcases h with (h | ⟨o, h⟩) | h
  · refine .inl (.inl (e.kee a _ (fun z => ?_) h))
    obtain ⟨o, h', mu⟩ := s.mut z
    rw [h] at h'; cases h'; exact mu
  · refine .inl (.inr ⟨o, e.kee a _ (fun z => ?_) h⟩)
    obtain ⟨o, h', mu⟩ := s.mut z
    rw [h] at h'; cases h'; exact mu
  · exact .inr h
theorem Ext.sqC (s : Sim K m S H) (e : Ext m H m1 H1) {a : Addr} {vs : List V} (h : SqC K H a vs) : SqC K H1 a vs := by
  rcases h with ⟨o, h⟩ | h
  · refine .inl ⟨o, e.kee a _ (fun z => ?_) h⟩
    obtain ⟨o, h', mu⟩ := s.mut z
    rw [h] at h'; cases h'; exact mu
  · exact .inr h
theorem RV.ext (s : Sim K m S H) (e : Ext m H m1 H1) {d : D} {v : V} (h : RV K m H d v) : RV K m1 H1 d v :=
  RV.mono e.pre (fun _ _ => Ext.sqT s e) (fun _ _ => Ext.sqC s e) h
theorem RVs.ext (s : Sim K m S H) (e : Ext m H m1 H1) {d : List D} {v : List V} (h : RVs K m H d v) : RVs K m1 H1 d v :=
  RVs.mono e.pre (fun _ _ => Ext.sqT s e) (fun _ _ => Ext.sqC s e) h

/-- a new object that is no cell -/
theorem ext_new {p : Addr} {o : HO} (h : H p = none) : Ext m H m (upd H p o) :=
  ⟨fun _ _ h => h, fun _ h n => absurd h n, fun a o' _ e => by rw [upd_ne (ne_of_none e h)]; exact e⟩
theorem sim_new {p : Addr} {o : HO} (s : Sim K m S H) (h : H p = none) : Sim K m S (upd H p o) := by
  refine ⟨s.len, s.inj, fun n a c e1 e2 => ?_⟩
  have co := s.cel n a c e1 e2
  cases c with
  | lst xs =>
    obtain ⟨vs, e, r⟩ := co
    exact ⟨vs, by rw [upd_ne (ne_of_none e h)]; exact e, r.ext s (ext_new h)⟩
  | dct _ => exact co
  | ins _ _ => exact co
/-- a new list cell -/
theorem ext_alloc {p : Addr} {o : HO} (h : H p = none) : Ext m H (m ++ [p]) (upd H p o) := by
  refine ⟨fun n a e => ?_, fun a h1 n => ?_, fun a o' _ e => by rw [upd_ne (ne_of_none e h)]; exact e⟩
  · have hn := (List.getElem?_eq_some_iff.mp e).1
    rw [List.getElem?_append_left hn]; exact e
  · rcases List.mem_append.mp h1 with z | z
    · exact absurd z n
    · have : a = p := by simpa using z
      subst this; exact h
theorem sim_alloc {p : Addr} {xs : List D} {vs : List V} (s : Sim K m S H) (h : H p = none) (r : RVs K m H xs vs) : Sim K (m ++ [p]) (S ++ [.lst xs]) (upd H p (.lst vs)) := by
  have ex : Ext m H (m ++ [p]) (upd H p (.lst vs)) := ext_alloc h
  have np : p ∉ m := fun z => by
    obtain ⟨o, e, _⟩ := s.mut z
    rw [h] at e; cases e
  refine ⟨by simp [s.len], fun i j a h1 h2 => ?_, fun n a c e1 e2 => ?_⟩
  · by_cases hi : i < m.length
    · rw [List.getElem?_append_left hi] at h1
      by_cases hj : j < m.length
      · rw [List.getElem?_append_left hj] at h2
        exact s.inj i j a h1 h2
      · rw [List.getElem?_append_right (by omega)] at h2
        obtain ⟨_, e⟩ := List.getElem?_eq_some_iff.mp h2
        have : p = a := by simpa using e
        subst this
        exact absurd (List.mem_of_getElem? h1) np
    · rw [List.getElem?_append_right (by omega)] at h1
      obtain ⟨q, e⟩ := List.getElem?_eq_some_iff.mp h1
      have ea : p = a := by simpa using e
      subst ea
      by_cases hj : j < m.length
      · rw [List.getElem?_append_left hj] at h2
        exact absurd (List.mem_of_getElem? h2) np
      · rw [List.getElem?_append_right (by omega)] at h2
        obtain ⟨q2, _⟩ := List.getElem?_eq_some_iff.mp h2
        simp at q q2
        omega
  · by_cases hn : n < m.length
    · rw [List.getElem?_append_left hn] at e1
      rw [List.getElem?_append_left (by rw [← s.len]; exact hn)] at e2
      have co := s.cel n a c e1 e2
      cases c with
      | lst xs =>
        obtain ⟨ws, e, r⟩ := co
        exact ⟨ws, by rw [upd_ne (ne_of_none e h)]; exact e, r.ext s ex⟩
      | dct _ => exact co
      | ins _ _ => exact co
    · rw [List.getElem?_append_right (by omega)] at e1
      rw [List.getElem?_append_right (by rw [← s.len]; omega)] at e2
      obtain ⟨_, e⟩ := List.getElem?_eq_some_iff.mp e1
      obtain ⟨_, e'⟩ := List.getElem?_eq_some_iff.mp e2
      have ea : p = a := by simpa using e
      have ec : Cell.lst xs = c := by simpa using e'
      subst ea; subst ec
      exact ⟨vs, upd_same, r.ext s ex⟩
/-- a list cell written -/
theorem ext_write {n : Nat} {a : Addr} {o : HO} (h : m[n]? = some a) : Ext m H m (upd H a o) :=
  ⟨fun _ _ h => h, fun _ h n => absurd h n, fun b o' nb e => by rw [upd_ne (fun z => nb (by rw [z]; exact List.mem_of_getElem? h))]; exact e⟩
theorem sim_write {n : Nat} {a : Addr} {xs : List D} {vs : List V} (s : Sim K m S H) (h : m[n]? = some a) (r : RVs K m H xs vs) : Sim K m (S.set n (.lst xs)) (upd H a (.lst vs)) := by
  have ex : Ext m H m (upd H a (.lst vs)) := ext_write h
  refine ⟨by simp [s.len], s.inj, fun k b c e1 e2 => ?_⟩
  by_cases hk : k = n
  · subst hk
    rw [h] at e1; cases e1
    have hl : k < S.length := by rw [← s.len]; exact (List.getElem?_eq_some_iff.mp h).1
    rw [List.getElem?_set_self hl] at e2; cases e2
    exact ⟨vs, upd_same, r.ext s ex⟩
  · rw [List.getElem?_set_ne (Ne.symm hk)] at e2
    have co := s.cel k b c e1 e2
    have nb : b ≠ a := fun z => by subst z; exact hk (s.inj _ _ _ e1 h)
    cases c with
    | lst ys =>
      obtain ⟨ws, e, r'⟩ := co
      exact ⟨ws, by rw [upd_ne nb]; exact e, r'.ext s ex⟩
    | dct _ => exact co
    | ins _ _ => exact co
/-- reading a list cell -/
theorem Sim.lst {n : Nat} {a : Addr} {xs : List D} (s : Sim K m S H) (h : m[n]? = some a) (e : S[n]? = some (.lst xs)) : ∃ vs, H a = some (.lst vs) ∧ RVs K m H xs vs := s.cel n a _ h e
end
end Mz

end

section
set_option Elab.async false
set_option linter.all false
set_option maxRecDepth 100000
namespace Mz
open PySem PySem.Spec L2

inductive R where
  | nx (g : Sg) (S : Store) | rt (d : D) (S : Store) | bk (g : Sg) (S : Store) | ct (g : Sg) (S : Store) | ex (x : Xc) (S : Store) | no
abbrev SE := Sg → Store → O D
abbrev SA := Sg → Store → O (List D)
abbrev ST := Sg → Store → O Bool
abbrev SS := Sg → Store → R
abbrev SG := D → Sg → Store → O Sg

/-! ### the ties of readings -/
def RVo (K : PySem.W.Frag) (m : List Addr) (H : Hp) (g : Sg) (σ : St) : Prop :=
  g.length = σ.length ∧ ∀ (i : Nat) d, g[i]? = some (some d) → ∃ v, σ[i]? = some (some v) ∧ RV K m H d v
section
variable {K : PySem.W.Frag} {m m1 : List Addr} {H H1 : Hp} {S : Store} {g : Sg} {σ : St}
theorem RVo.ext (s : Sim K m S H) (e : Ext m H m1 H1) (h : RVo K m H g σ) : RVo K m1 H1 g σ :=
  ⟨h.1, fun i d q => let ⟨v, a, b⟩ := h.2 i d q; ⟨v, a, b.ext s e⟩⟩
theorem RVo.set {d : D} {v : V} (h : RVo K m H g σ) (r : RV K m H d v) (i : Nat) : RVo K m H (g.set i (some d)) (σ.set i (some v)) := by
  refine ⟨by simp [h.1], fun j d' q => ?_⟩
  by_cases hj : j = i
  · subst hj
    have hl : j < g.length := by
      have := (List.getElem?_eq_some_iff.mp q).1
      simpa using this
    rw [List.getElem?_set_self hl] at q
    cases q
    exact ⟨v, by rw [List.getElem?_set_self (by rw [← h.1]; exact hl)], r⟩
  · rw [List.getElem?_set_ne (Ne.symm hj)] at q
    obtain ⟨v', a, b⟩ := h.2 j d' q
    exact ⟨v', by rw [List.getElem?_set_ne (Ne.symm hj)]; exact a, b⟩
theorem RVo.unset (h : RVo K m H g σ) (i : Nat) : RVo K m H (g.set i none) (σ.set i none) := by
  refine ⟨by simp [h.1], fun j d' q => ?_⟩
  by_cases hj : j = i
  · subst hj
    have hl : j < g.length := by
      have := (List.getElem?_eq_some_iff.mp q).1
      simpa using this
    rw [List.getElem?_set_self hl] at q
    cases q
  · rw [List.getElem?_set_ne (Ne.symm hj)] at q
    obtain ⟨v', a, b⟩ := h.2 j d' q
    exact ⟨v', by rw [List.getElem?_set_ne (Ne.symm hj)]; exact a, b⟩
end
def wipeG (g : Sg) : List Nat → Sg
  | [] => g
  | v :: vs => (wipeG g vs).set v none
theorem RVo.wipe {K : PySem.W.Frag} {m : List Addr} {H : Hp} {g : Sg} {σ : St} (h : RVo K m H g σ) : ∀ vs : List Nat, RVo K m H (wipeG g vs) (L2.wipe σ vs)
  | [] => h
  | v :: vs => (RVo.wipe h vs).unset v

def PostE (K : PySem.W.Frag) (m : List Addr) (H : Hp) (Q : VK) : O D → Prop
  | .ok d S' => ∀ v m' H', Ext m H m' H' → Sim K m' S' H' → RV K m' H' d v → Q v H'
  | _ => False
def PostT (K : PySem.W.Frag) (m : List Addr) (H : Hp) (Q : Bool → Hp → Prop) : O Bool → Prop
  | .ok b S' => ∀ m' H', Ext m H m' H' → Sim K m' S' H' → Q b H'
  | _ => False
def PostA (K : PySem.W.Frag) (m : List Addr) (H : Hp) (Q : List V → Hp → Prop) : O (List D) → Prop
  | .ok d S' => ∀ v m' H', Ext m H m' H' → Sim K m' S' H' → RVs K m' H' d v → Q v H'
  | _ => False
def PostS (K : PySem.W.Frag) (m : List Addr) (H : Hp) (D : Ends) : R → Prop
  | .nx g S' => ∀ σ m' H', Ext m H m' H' → Sim K m' S' H' → RVo K m' H' g σ → D.nx σ H'
  | .bk g S' => ∀ σ m' H', Ext m H m' H' → Sim K m' S' H' → RVo K m' H' g σ → D.bk σ H'
  | .ct g S' => ∀ σ m' H', Ext m H m' H' → Sim K m' S' H' → RVo K m' H' g σ → D.ct σ H'
  | .rt d S' => ∀ v m' H', Ext m H m' H' → Sim K m' S' H' → RV K m' H' d v → D.rt v H'
  | _ => False
/-- a target's: is are the slots it may change -/
def PostG (K : PySem.W.Frag) (is : List Nat) (σ₀ : St) (m : List Addr) (H : Hp) (Q : St → Hp → Prop) : O Sg → Prop
  | .ok g S' => ∀ σ m' H', Ext m H m' H' → Sim K m' S' H' → RVo K m' H' g σ → (∀ vs, (∀ i ∈ is, i ∈ vs) → L2.wipe σ vs = L2.wipe σ₀ vs) → Q σ H'
  | _ => False
def tD (K : PySem.W.Frag) (f : SE) : TE := fun σ H Q => ∃ m S g, Sim K m S H ∧ RVo K m H g σ ∧ PostE K m H Q (f g S)
def tDA (K : PySem.W.Frag) (f : SA) : TA := fun σ H Q => ∃ m S g, Sim K m S H ∧ RVo K m H g σ ∧ PostA K m H Q (f g S)
def tDT (K : PySem.W.Frag) (f : ST) : TT := fun σ H Q => ∃ m S g, Sim K m S H ∧ RVo K m H g σ ∧ PostT K m H Q (f g S)
def tDS (K : PySem.W.Frag) (f : SS) : TS := fun D σ H => ∃ m S g, Sim K m S H ∧ RVo K m H g σ ∧ PostS K m H D (f g S)
def tDG (K : PySem.W.Frag) (is : List Nat) (f : SG) : TG := fun v σ H Q => ∃ m S g d, Sim K m S H ∧ RVo K m H g σ ∧ RV K m H d v ∧ PostG K is σ m H Q (f d g S)
/-- by values -/
def rD2 (K : PySem.W.Frag) (f : D → D → Store → O D) : R2 := fun x y H Q => ∃ m S d e, Sim K m S H ∧ RV K m H d x ∧ RV K m H e y ∧ PostE K m H Q (f d e S)
def rD1 (K : PySem.W.Frag) (f : D → Store → O D) : V → Hp → VK → Prop := fun x H Q => ∃ m S d, Sim K m S H ∧ RV K m H d x ∧ PostE K m H Q (f d S)
def rDL (K : PySem.W.Frag) (f : List D → Store → O D) : List V → Hp → VK → Prop := fun xs H Q => ∃ m S ds, Sim K m S H ∧ RVs K m H ds xs ∧ PostE K m H Q (f ds S)
def rDM (K : PySem.W.Frag) (f : D → List D → Store → O D) : V → List V → Hp → VK → Prop := fun x xs H Q => ∃ m S d ds, Sim K m S H ∧ RV K m H d x ∧ RVs K m H ds xs ∧ PostE K m H Q (f d ds S)

section
variable {K : PySem.W.Frag} {m m1 : List Addr} {H H1 : Hp}
theorem PostE.weak {Q : VK} (e : Ext m H m1 H1) : ∀ {o : O D}, PostE K m H Q o → PostE K m1 H1 Q o
  | .ok _ _, h => fun v m' H' e' s r => h v m' H' (e.trans e') s r
  | .ex _ _, h => h
  | .no, h => h
theorem PostT.weak {Q : Bool → Hp → Prop} (e : Ext m H m1 H1) : ∀ {o : O Bool}, PostT K m H Q o → PostT K m1 H1 Q o
  | .ok _ _, h => fun m' H' e' s => h m' H' (e.trans e') s
  | .ex _ _, h => h
  | .no, h => h
theorem PostA.weak {Q : List V → Hp → Prop} (e : Ext m H m1 H1) : ∀ {o : O (List D)}, PostA K m H Q o → PostA K m1 H1 Q o
  | .ok _ _, h => fun v m' H' e' s r => h v m' H' (e.trans e') s r
  | .ex _ _, h => h
  | .no, h => h
theorem PostS.weak {D : Ends} (e : Ext m H m1 H1) : ∀ {o : R}, PostS K m H D o → PostS K m1 H1 D o
  | .nx _ _, h => fun σ m' H' e' s r => h σ m' H' (e.trans e') s r
  | .bk _ _, h => fun σ m' H' e' s r => h σ m' H' (e.trans e') s r
  | .ct _ _, h => fun σ m' H' e' s r => h σ m' H' (e.trans e') s r
  | .rt _ _, h => fun v m' H' e' s r => h v m' H' (e.trans e') s r
  | .ex _ _, h => h
  | .no, h => h
theorem PostG.weak {is : List Nat} {σ₀ : St} {Q : St → Hp → Prop} (e : Ext m H m1 H1) : ∀ {o : O Sg}, PostG K is σ₀ m H Q o → PostG K is σ₀ m1 H1 Q o
  | .ok _ _, h => fun σ m' H' e' s r w => h σ m' H' (e.trans e') s r w
  | .ex _ _, h => h
  | .no, h => h
end

/-! ### monotone -/
section
variable {X : Cx}
theorem peI {e : Expr} {t t' : TE} (h : PE X e t) (i : ∀ σ H Q, t' σ H Q → t σ H Q) : PE X e t' := ⟨fun pins s σ H Q I q => h.run pins s σ H Q I (i σ H Q q)⟩
theorem ptI {e : Expr} {t t' : TT} (h : PT X e t) (i : ∀ σ H Q, t' σ H Q → t σ H Q) : PT X e t' := ⟨fun pins s σ H Q I q => h.run pins s σ H Q I (i σ H Q q)⟩
theorem pwI {e : Expr} {t t' : TT} (h : PW X e t) (i : ∀ σ H Q, t' σ H Q → t σ H Q) : PW X e t' := ⟨fun wh pins s σ H Q I q => h.run wh pins s σ H Q I (i σ H Q q)⟩
theorem paI {e : List Expr} {t t' : TA} (h : PA X e t) (i : ∀ σ H Q, t' σ H Q → t σ H Q) : PA X e t' := ⟨fun p pins s σ H Q I q => h.run p pins s σ H Q I (i σ H Q q)⟩
theorem psI {e : Stmt} {t t' : TS} (h : PS X e t) (i : ∀ D σ H, t' D σ H → t D σ H) : PS X e t' := ⟨fun pins s σ H D I q => h.run pins s σ H D I (i D σ H q)⟩
theorem pssI {e : List Stmt} {t t' : TS} (h : PSs X e t) (i : ∀ D σ H, t' D σ H → t D σ H) : PSs X e t' := ⟨fun pins s σ H D I q => h.run pins s σ H D I (i D σ H q)⟩
theorem pgI {e : Expr} {t t' : TG} (h : PG X e t) (i : ∀ v σ H Q, t' v σ H Q → t v σ H Q) : PG X e t' := ⟨fun pins s σ H v u Q I r q => h.run pins s σ H v u Q I r (i v σ H Q q)⟩
theorem opI {f : Value → Value → Sem Value} {r r' : R2} (h : OpR X f r) (i : ∀ x y H Q, r' x y H Q → r x y H Q) : OpR X f r' := by
  intro pins s σ H x y v u Q I r1 r2 q
  exact h pins s σ H x y v u Q I r1 r2 (i x y H Q q)
theorem unI' {f : Value → Sem Value} {r r' : V → Hp → VK → Prop} (h : UnR X f r) (i : ∀ x H Q, r' x H Q → r x H Q) : UnR X f r' := by
  intro pins s σ H x v Q I r1 q
  exact h pins s σ H x v Q I r1 (i x H Q q)
theorem crI {f : Value} {r r' : List V → Hp → VK → Prop} (h : CallR X f r) (i : ∀ x H Q, r' x H Q → r x H Q) : CallR X f r' := by
  intro pins s σ H x v Q I r1 q
  exact h pins s σ H x v Q I r1 (i x H Q q)
theorem ixI {r r' : R2} (h : IxR X r) (i : ∀ x y H Q, r' x y H Q → r x y H Q) : IxR X r' := by
  intro va sl pins s σ H x y v u Q I r1 r2 q
  exact h va sl pins s σ H x y v u Q I r1 r2 (i x y H Q q)
theorem mtI {id : String} {r r' : V → List V → Hp → VK → Prop} (h : MtR X id r) (i : ∀ x xs H Q, r' x xs H Q → r x xs H Q) : MtR X id r' := by
  intro pins s σ H x xs v us Q I r1 r2 q
  exact h pins s σ H x xs v us Q I r1 r2 (i x xs H Q q)
theorem slI {r r' : V → Option Int → Option Int → Hp → VK → Prop} (h : SlR X r) (i : ∀ x a b H Q, r' x a b H Q → r x a b H Q) : SlR X r' := by
  intro pins s σ H x v vl vu lo hi sl Q I rx hs pl pu q
  exact h pins s σ H x v vl vu lo hi sl Q I rx hs pl pu (i x lo hi H Q q)
end
end Mz

end

section
set_option Elab.async false
set_option linter.all false
set_option maxRecDepth 100000
namespace Mz
open PySem PySem.Spec L2

/-! ### data read off the store -/
def toPy (S : Store) : Nat → D → Option PyData
  | 0, _ => none
  | _ + 1, .non => some .none
  | _ + 1, .bl b => some (.bool b)
  | _ + 1, .int i => some (.int i)
  | _ + 1, .str x => some (.str x)
  | n + 1, .tup xs => (xs.mapM (toPy S n)).map .tuple
  | n + 1, .cl xs => (xs.mapM (toPy S n)).map .list
  | n + 1, .loc k => match S[k]? with
    | some (.lst xs) => (xs.mapM (toPy S n)).map .list
    | _ => none
section
variable {K : PySem.W.Frag} {m : List Addr} {S : Store} {H : Hp}
theorem mapM_dp (n : Nat) (ih : ∀ d v p, toPy S n d = some p → RV K m H d v → Dp K H v p) : ∀ (xs : List D) (vs : List V) (ps : List PyData), xs.mapM (toPy S n) = some ps → RVs K m H xs vs → DpAll K H vs ps := by
  intro xs
  induction xs with
  | nil =>
    intro vs ps e r
    cases r
    simp at e
    subst e
    exact .nil
  | cons x xs ihx =>
    intro vs ps e r
    cases r with
    | cons r1 r2 =>
      simp only [List.mapM_cons] at e
      cases e1 : toPy S n x with
      | none => rw [e1] at e; cases e
      | some p =>
        rw [e1] at e
        cases e2 : xs.mapM (toPy S n) with
        | none => rw [e2] at e; cases e
        | some q =>
          rw [e2] at e
          cases e
          exact .cons (ih _ _ _ e1 r1) (ihx _ _ e2 r2)
theorem toPy_dp (hs : Sim K m S H) : ∀ (n : Nat) (d : D) (v : V) (p : PyData), toPy S n d = some p → RV K m H d v → Dp K H v p := by
  intro n
  induction n with
  | zero => intro d v p e; cases e
  | succ n ih =>
    intro d v p e r
    cases r with
    | non => cases e; exact .non
    | bl b => cases e; exact .bl b
    | int i => cases e; exact .int i
    | str x => cases e; exact .str x
    | tup h r =>
      rename_i a vs xs
      have e : (xs.mapM (toPy S n)).map PyData.tuple = some p := e
      cases q : xs.mapM (toPy S n) with
      | none => rw [q] at e; cases e
      | some ps => rw [q] at e; cases e; exact .tup h (mapM_dp n ih xs vs ps q r)
    | cl h r =>
      rename_i a vs xs
      have e : (xs.mapM (toPy S n)).map PyData.list = some p := e
      cases q : xs.mapM (toPy S n) with
      | none => rw [q] at e; cases e
      | some ps => rw [q] at e; cases e; exact .lst h.sq (mapM_dp n ih xs vs ps q r)
    | loc h =>
      rename_i k a
      have e : (match S[k]? with | some (.lst xs) => (xs.mapM (toPy S n)).map PyData.list | _ => none) = some p := e
      cases c : S[k]? with
      | none => rw [c] at e; cases e
      | some c' =>
        rw [c] at e
        cases c' with
        | lst xs =>
          have e : (xs.mapM (toPy S n)).map PyData.list = some p := e
          obtain ⟨vs, h1, r⟩ := hs.lst h c
          cases q : xs.mapM (toPy S n) with
          | none => rw [q] at e; cases e
          | some ps => rw [q] at e; cases e; exact .lst (SqL.of h1) (mapM_dp n ih xs vs ps q r)
        | dct _ => cases e
        | ins _ _ => cases e
end

def alloc (xs : List D) (S : Store) : O D := .ok (.loc S.length) (S ++ [.lst xs])
def listAt (S : Store) (d : D) : Option (List D) := match d with
  | .cl xs => some xs
  | .loc n => match S[n]? with
    | some (.lst xs) => some xs
    | _ => none
  | _ => none
theorem listAt_sq {K : PySem.W.Frag} {m : List Addr} {S : Store} {H : Hp} {d : D} {v : V} {xs : List D} (hs : Sim K m S H) (r : RV K m H d v) (e : listAt S d = some xs) : ∃ a vs, v = .ref a ∧ SqL K H a vs ∧ RVs K m H xs vs := by
  cases r with
  | cl h r => cases e; exact ⟨_, _, rfl, h.sq, r⟩
  | loc h =>
    rename_i k a
    have e : (match S[k]? with | some (.lst xs) => some xs | _ => none) = some xs := e
    cases c : S[k]? with
    | none => rw [c] at e; cases e
    | some c' =>
      rw [c] at e
      cases c' with
      | lst ys => cases e; obtain ⟨vs, h1, r⟩ := hs.lst h c; exact ⟨_, _, rfl, SqL.of h1, r⟩
      | dct _ => cases e
      | ins _ _ => cases e
  | non => cases e
  | bl b => cases e
  | int b => cases e
  | str b => cases e
  | tup h r => cases e
/-- a list that may be written -/
def lstAt (S : Store) (d : D) : Option (Nat × List D) := match d with
  | .loc n => match S[n]? with
    | some (.lst xs) => some (n, xs)
    | _ => none
  | _ => none
theorem lstAt_eq {S : Store} {d : D} {n : Nat} {xs : List D} (e : lstAt S d = some (n, xs)) : d = .loc n ∧ S[n]? = some (.lst xs) := by
  cases d with
  | loc k =>
    have e : (match S[k]? with | some (.lst xs) => some (k, xs) | _ => none) = some (n, xs) := e
    cases c : S[k]? with
    | none => rw [c] at e; cases e
    | some c' =>
      rw [c] at e
      cases c' with
      | lst ys => cases e; exact ⟨rfl, c⟩
      | dct _ => cases e
      | ins _ _ => cases e
  | non => cases e
  | bl b => cases e
  | int b => cases e
  | str b => cases e
  | tup h => cases e
  | cl h => cases e
theorem lstAt_at {K : PySem.W.Frag} {m : List Addr} {S : Store} {H : Hp} {d : D} {v : V} {n : Nat} {xs : List D} (hs : Sim K m S H) (r : RV K m H d v) (e : lstAt S d = some (n, xs)) : ∃ a vs, v = .ref a ∧ m[n]? = some a ∧ H a = some (.lst vs) ∧ RVs K m H xs vs := by
  obtain ⟨rfl, c⟩ := lstAt_eq e
  cases r with
  | loc h => obtain ⟨vs, h1, r⟩ := hs.lst h c; exact ⟨_, vs, rfl, h, h1, r⟩
/-- a sequence that is read: list or tuple -/
def seqAt (S : Store) (d : D) : Option (List D) := match d with
  | .tup xs => some xs
  | d => listAt S d
theorem seqAt_sq {K : PySem.W.Frag} {m : List Addr} {S : Store} {H : Hp} {d : D} {v : V} {xs : List D} (hs : Sim K m S H) (r : RV K m H d v) (e : seqAt S d = some xs) : ∃ a vs, v = .ref a ∧ (SqL K H a vs ∨ SqT K H a vs) ∧ RVs K m H xs vs := by
  cases d with
  | tup ys => cases e; cases r with | tup h r => exact ⟨_, _, rfl, .inr h, r⟩
  | cl ys => obtain ⟨a, vs, h1, h2, h3⟩ := listAt_sq hs r e; exact ⟨a, vs, h1, .inl h2, h3⟩
  | loc ys => obtain ⟨a, vs, h1, h2, h3⟩ := listAt_sq hs r e; exact ⟨a, vs, h1, .inl h2, h3⟩
  | non => cases e
  | bl b => cases e
  | int b => cases e
  | str b => cases e

section
variable {K : PySem.W.Frag} {m : List Addr} {H : Hp} {S : Store} {Q : VK}
/-- the ends -/
theorem PostE.here {d : D} {v : V} (h : PostE K m H Q (.ok d S)) (hs : Sim K m S H) (r : RV K m H d v) : Q v H := h v m H Ext.refl hs r
theorem PostE.newT {xs : List D} {vs : List V} (h : PostE K m H Q (.ok (.tup xs) S)) (hs : Sim K m S H) (r : RVs K m H xs vs) {p : Addr} (hp : H p = none) : Q (.ref p) (upd H p (.tup vs)) :=
  h _ m _ (ext_new hp) (sim_new hs hp) (.tup (.inl (.inl upd_same)) (r.ext hs (ext_new hp)))
theorem PostE.newL {xs : List D} {vs : List V} (h : PostE K m H Q (alloc xs S)) (hs : Sim K m S H) (r : RVs K m H xs vs) {p : Addr} (hp : H p = none) : Q (.ref p) (upd H p (.lst vs)) := by
  refine h _ (m ++ [p]) _ (ext_alloc hp) (sim_alloc hs hp r) (.loc ?_)
  rw [← hs.len, List.getElem?_append_right (Nat.le_refl _)]
  simp
theorem PostE.wr {d : D} {n : Nat} {a : Addr} {xs : List D} {vs : List V} {v : V} (h : PostE K m H Q (.ok d (S.set n (.lst xs)))) (hs : Sim K m S H) (hm : m[n]? = some a) (r : RVs K m H xs vs) (rd : RV K m H d v) : Q v (upd H a (.lst vs)) :=
  h _ m _ (ext_write hm) (sim_write hs hm r) (rd.ext hs (ext_write hm))
end

/-! ### operators -/
inductive Bop where
  | add | sub | mul | fdiv | mod | pow
  deriving DecidableEq
def Bop.op : Bop → Operator
  | .add => .Add | .sub => .Sub | .mul => .Mult | .fdiv => .FloorDiv | .mod => .Mod | .pow => .Pow
def mulOk (i j : Int) : Bool := (decide (-(2 ^ 64) < i) && decide (i < 2 ^ 64)) || (decide (-(2 ^ 64) < j) && decide (j < 2 ^ 64)) || decide (i.natAbs.log2 + j.natAbs.log2 < 1000000)
def divOk (j : Int) : Bool := decide (0 < j) && decide (j.natAbs.log2 < 9000)
def powOk (i j : Int) : Bool := decide (0 ≤ j) && decide (j ≤ 1000000) && decide (i.natAbs < 2 ^ 64)
def semBop (p : Bop) (d e : D) (S : Store) : O D := match p with
  | .add => match d, e with
    | .int i, .int j => .ok (.int (i + j)) S
    | .str x, .str y => if x.length + y.length ≤ sizeLine then .ok (.str (x ++ y)) S else .no
    | .tup xs, .tup ys => if xs.length + ys.length ≤ sizeLine then .ok (.tup (xs ++ ys)) S else .no
    | d, e => match lstAt S d, lstAt S e with
      | some (_, xs), some (_, ys) => if xs.length + ys.length ≤ sizeLine then alloc (xs ++ ys) S else .no
      | _, _ => .no
  | .sub => match d, e with
    | .int i, .int j => .ok (.int (i - j)) S
    | _, _ => .no
  | .mul => match d, e with
    | .int i, .int j => if mulOk i j = true then .ok (.int (i * j)) S else .no
    | d, .int k => match lstAt S d with
      | some (_, xs) => if (decide (-(2 ^ 63) ≤ k) && decide (k < 2 ^ 63) && decide (xs.length * k.toNat ≤ sizeLine)) = true then alloc (List.replicate k.toNat xs).flatten S else .no
      | _ => .no
    | _, _ => .no
  | .fdiv => match d, e with
    | .int i, .int j => if divOk j = true then .ok (.int (i / j)) S else .no
    | _, _ => .no
  | .mod => match d, e with
    | .int i, .int j => if 0 < j then .ok (.int (i % j)) S else .no
    | _, _ => .no
  | .pow => match d, e with
    | .int i, .int j => if powOk i j = true then .ok (.int (i ^ j.toNat)) S else .no
    | _, _ => .no

theorem RVs.rep {K : PySem.W.Frag} {m : List Addr} {H : Hp} {xs : List D} {vs : List V} (r : RVs K m H xs vs) : ∀ k : Nat, RVs K m H (List.replicate k xs).flatten (List.replicate k vs).flatten
  | 0 => .nil
  | k + 1 => by
    rw [List.replicate_succ, List.replicate_succ, List.flatten_cons, List.flatten_cons]
    exact r.append (RVs.rep r k)

section
variable {X : Cx}
theorem ob_add : OpR X (binaryOp .Add) (rD2 X.K (semBop .add)) := by
  refine opI (op_add.or (op_add_str.or (op_catA.or op_cat))) fun x y H Q ⟨m, S, d, e, hs, rd, re, hp⟩ => ?_
  unfold semBop at hp
  dsimp only at hp
  split at hp
  · cases rd; cases re; exact .inl ⟨_, _, rfl, rfl, hp.here hs (.int _)⟩
  · cases rd; cases re
    split at hp
    · exact .inr (.inl ⟨_, _, rfl, rfl, by assumption, hp.here hs (.str _)⟩)
    · exact hp.elim
  · cases rd with | tup h1 r1 =>
    cases re with | tup h2 r2 =>
    split at hp
    · rename_i hz
      refine .inr (.inr (.inl ⟨_, _, _, _, rfl, rfl, h1, h2, by rw [← r1.length, ← r2.length]; exact hz, fun e0 => ?_, fun _ e1 => ?_, fun _ _ p hn => hp.newT hs (r1.append r2) hn⟩))
      · subst e0
        cases r1
        exact hp.here hs (.tup h2 r2)
      · subst e1
        cases r2
        rw [List.append_nil] at hp
        exact hp.here hs (.tup h1 r1)
    · exact hp.elim
  · split at hp
    · rename_i h1 h2
      obtain ⟨a, vs, rfl, _, e1, r1⟩ := lstAt_at hs rd h1
      obtain ⟨b, ws, rfl, _, e2, r2⟩ := lstAt_at hs re h2
      split at hp
      · rename_i hz
        exact .inr (.inr (.inr ⟨a, b, vs, ws, rfl, rfl, e1, e2, by rw [← r1.length, ← r2.length]; exact hz, fun p hn => hp.newL hs (r1.append r2) hn⟩))
      · exact hp.elim
    · exact hp.elim
theorem ob_sub : OpR X (binaryOp .Sub) (rD2 X.K (semBop .sub)) := by
  refine opI op_sub fun x y H Q ⟨m, S, d, e, hs, rd, re, hp⟩ => ?_
  unfold semBop at hp
  dsimp only at hp
  split at hp
  · cases rd; cases re; exact ⟨_, _, rfl, rfl, hp.here hs (.int _)⟩
  · exact hp.elim
theorem ob_mul : OpR X (binaryOp .Mult) (rD2 X.K (semBop .mul)) := by
  refine opI (op_mul.or (op_mulW.or op_rep)) fun x y H Q ⟨m, S, d, e, hs, rd, re, hp⟩ => ?_
  unfold semBop at hp
  dsimp only at hp
  split at hp
  · rename_i i j
    cases rd; cases re
    split at hp
    · rename_i hz
      simp only [mulOk, Bool.or_eq_true, Bool.and_eq_true, decide_eq_true_eq] at hz
      rcases hz with (⟨h1, h2⟩ | ⟨h1, h2⟩) | h
      · exact .inl ⟨_, _, rfl, rfl, .inl ⟨h1, h2⟩, hp.here hs (.int _)⟩
      · exact .inl ⟨_, _, rfl, rfl, .inr ⟨h1, h2⟩, hp.here hs (.int _)⟩
      · exact .inr (.inl ⟨_, _, rfl, rfl, h, hp.here hs (.int _)⟩)
    · exact hp.elim
  · split at hp
    · rename_i h1
      obtain ⟨a, vs, rfl, _, e1, r1⟩ := lstAt_at hs rd h1
      cases re
      split at hp
      · rename_i hz
        simp only [Bool.and_eq_true, decide_eq_true_eq] at hz
        exact .inr (.inr ⟨a, _, vs, rfl, rfl, e1, hz.1.1, hz.1.2, by rw [← r1.length]; exact hz.2, fun p hn => hp.newL hs (r1.rep _) hn⟩)
      · exact hp.elim
    · exact hp.elim
  · exact hp.elim
theorem ob_fdiv : OpR X (binaryOp .FloorDiv) (rD2 X.K (semBop .fdiv)) := by
  refine opI op_fdivW fun x y H Q ⟨m, S, d, e, hs, rd, re, hp⟩ => ?_
  unfold semBop at hp
  dsimp only at hp
  split at hp
  · cases rd; cases re
    split at hp
    · rename_i hz
      simp only [divOk, Bool.and_eq_true, decide_eq_true_eq] at hz
      exact ⟨_, _, rfl, rfl, hz, hp.here hs (.int _)⟩
    · exact hp.elim
  · exact hp.elim
theorem ob_mod : OpR X (binaryOp .Mod) (rD2 X.K (semBop .mod)) := by
  refine opI op_mod fun x y H Q ⟨m, S, d, e, hs, rd, re, hp⟩ => ?_
  unfold semBop at hp
  dsimp only at hp
  split at hp
  · cases rd; cases re
    split at hp
    · rename_i hz
      exact ⟨_, _, rfl, rfl, hz, hp.here hs (.int _)⟩
    · exact hp.elim
  · exact hp.elim
theorem ob_pow : OpR X (binaryOp .Pow) (rD2 X.K (semBop .pow)) := by
  refine opI op_pow fun x y H Q ⟨m, S, d, e, hs, rd, re, hp⟩ => ?_
  unfold semBop at hp
  dsimp only at hp
  split at hp
  · cases rd; cases re
    split at hp
    · rename_i hz
      simp only [powOk, Bool.and_eq_true, decide_eq_true_eq] at hz
      exact ⟨_, _, rfl, rfl, ⟨hz.1.1, hz.1.2, hz.2⟩, hp.here hs (.int _)⟩
    · exact hp.elim
  · exact hp.elim
theorem ob : ∀ p : Bop, OpR X (binaryOp p.op) (rD2 X.K (semBop p))
  | .add => ob_add | .sub => ob_sub | .mul => ob_mul | .fdiv => ob_fdiv | .mod => ob_mod | .pow => ob_pow
end

/-! ### comparisons -/
inductive Cop where
  | eq | ne | lt | le | gt | ge | is | isnot | in_ | notin
  deriving DecidableEq
def Cop.op : Cop → CmpOp
  | .eq => .Eq | .ne => .NotEq | .lt => .Lt | .le => .LtE | .gt => .Gt | .ge => .GtE | .is => .Is | .isnot => .IsNot | .in_ => .In | .notin => .NotIn
/-- == of data -/
def eqD (d e : D) (S : Store) : Option Bool := match d, e with
  | .int i, .int j => some (decide (i = j))
  | .str x, .str y => some (decide (x = y))
  | .bl x, .bl y => some (decide (x = y))
  | .non, .non => some true
  | d, e => match toPy S 70 d, toPy S 70 e with
    | some p, some q => if (SeqAt.shaped p && SeqAt.shaped q) = true then some (PyData.eqv p q) else none
    | _, _ => none
def isNon : D → Bool
  | .non => true
  | _ => false
def flatD : D → Bool
  | .non => true | .bl _ => true | .int _ => true | .str _ => true
  | _ => false
def eqF : D → D → Bool
  | .non, .non => true
  | .bl a, .bl b => a == b
  | .bl a, .int b => (if a then 1 else 0) == b
  | .int a, .bl b => a == (if b then 1 else 0)
  | .int a, .int b => a == b
  | .str a, .str b => a == b
  | _, _ => false
/-- x in y -/
def inD (d e : D) (S : Store) : Option Bool := match d, e with
  | .str x, .str y => some (!(Builtin.Str.occurrences y x 0 y.length 1).isEmpty)
  | d, e => match seqAt S e with
    | some ys => if (flatD d && ys.all flatD) = true then some (ys.any fun y => eqF y d) else match toPy S 70 d, toPy S 70 e with
      | some p, some (.list qs) => if (SeqAt.shaped p && SeqAt.shaped (.list qs)) = true then some (qs.any fun z => PyData.eqv z p) else none
      | _, _ => none
    | none => none
def ltD (d e : D) : Option Bool := match d, e with
  | .int i, .int j => some (decide (i < j))
  | .str x, .str y => some (decide (x.cps.toList < y.cps.toList))
  | _, _ => none
def semCop (p : Cop) (d e : D) (S : Store) : O D := match p with
  | .eq => match eqD d e S with | some b => .ok (.bl b) S | none => .no
  | .ne => match eqD d e S with | some b => .ok (.bl (!b)) S | none => .no
  | .lt => match ltD d e with | some b => .ok (.bl b) S | none => .no
  | .le => match ltD e d with | some b => .ok (.bl (!b)) S | none => .no
  | .gt => match ltD e d with | some b => .ok (.bl b) S | none => .no
  | .ge => match ltD d e with | some b => .ok (.bl (!b)) S | none => .no
  | .is => match d, e with
    | d, .non => .ok (.bl (isNon d)) S
    | .bl a, .bl b => .ok (.bl (decide (a = b))) S
    | _, _ => .no
  | .isnot => match d, e with
    | d, .non => .ok (.bl (!isNon d)) S
    | .bl a, .bl b => .ok (.bl (!decide (a = b))) S
    | _, _ => .no
  | .in_ => match inD d e S with | some b => .ok (.bl b) S | none => .no
  | .notin => match inD d e S with | some b => .ok (.bl (!b)) S | none => .no
section
variable {K : PySem.W.Frag} {m : List Addr} {H : Hp} {S : Store}
theorem eqD_r {d e : D} {x y : V} {b : Bool} (hs : Sim K m S H) (rd : RV K m H d x) (re : RV K m H e y) (h : eqD d e S = some b) :
    (scal x y = true ∧ decide (x = y) = b) ∨ ∃ p q, Dp K H x p ∧ Dp K H y q ∧ SeqAt.shaped p = true ∧ SeqAt.shaped q = true ∧ PyData.eqv p q = b := by
  unfold eqD at h
  split at h
  · cases rd; cases re; cases h; exact .inl ⟨rfl, by simp⟩
  · cases rd; cases re; cases h; exact .inl ⟨rfl, by simp⟩
  · cases rd; cases re; cases h; exact .inl ⟨rfl, by simp⟩
  · cases rd; cases re; cases h; exact .inl ⟨rfl, by simp⟩
  · split at h
    · rename_i h1 h2
      split at h
      · rename_i hz
        simp only [Bool.and_eq_true] at hz
        exact .inr ⟨_, _, toPy_dp hs _ _ _ _ h1 rd, toPy_dp hs _ _ _ _ h2 re, hz.1, hz.2, Option.some.inj h⟩
      · cases h
    · cases h
theorem flat_r {d : D} {x : V} (r : RV K m H d x) (f : flatD d = true) : flatV x = true := by
  cases r <;> first | rfl | cases f
theorem flats_r : ∀ {ds : List D} {xs : List V}, RVs K m H ds xs → ds.all flatD = true → xs.all flatV = true
  | _, _, .nil, _ => rfl
  | _, _, .cons h t, f => by
    simp only [List.all_cons, Bool.and_eq_true] at f ⊢
    exact ⟨flat_r h f.1, flats_r t f.2⟩
theorem eqF_r {d e : D} {x y : V} (r : RV K m H d x) (r' : RV K m H e y) (f : flatD d = true) (f' : flatD e = true) : eqV x y = eqF d e := by
  cases r <;> cases r' <;> first | rfl | cases f | cases f'
theorem any_r {d : D} {x : V} (r : RV K m H d x) (f : flatD d = true) : ∀ {ds : List D} {xs : List V}, RVs K m H ds xs → ds.all flatD = true → (xs.any fun y => eqV y x) = ds.any fun y => eqF y d
  | _, _, .nil, _ => rfl
  | _, _, .cons h t, g => by
    simp only [List.all_cons, Bool.and_eq_true] at g
    rw [List.any_cons, List.any_cons, eqF_r h r g.1 f, any_r r f t g.2]
theorem inD_r {d e : D} {x y : V} {b : Bool} (hs : Sim K m S H) (rd : RV K m H d x) (re : RV K m H e y) (h : inD d e S = some b) :
    (∃ i j, x = .str i ∧ y = .str j ∧ (!(Builtin.Str.occurrences j i 0 j.length 1).isEmpty) = b) ∨
    (∃ p xs, y = .ref p ∧ (SqL K H p xs ∨ SqT K H p xs) ∧ flatV x = true ∧ xs.all flatV = true ∧ inV x xs = b) ∨
    ∃ p ds, Dp K H x p ∧ Dp K H y (.list ds) ∧ SeqAt.shaped p = true ∧ SeqAt.shaped (.list ds) = true ∧ (ds.any fun z => PyData.eqv z p) = b := by
  unfold inD at h
  split at h
  · cases rd; cases re; exact .inl ⟨_, _, rfl, rfl, Option.some.inj h⟩
  · split at h
    · rename_i h1
      split at h
      · rename_i hz
        simp only [Bool.and_eq_true] at hz
        obtain ⟨a, vs, rfl, sq, r⟩ := seqAt_sq hs re h1
        refine .inr (.inl ⟨a, vs, rfl, sq, flat_r rd hz.1, flats_r r hz.2, ?_⟩)
        unfold inV
        rw [any_r rd hz.1 r hz.2]
        exact Option.some.inj h
      · split at h
        · rename_i h2 h3
          split at h
          · rename_i hz
            simp only [Bool.and_eq_true] at hz
            exact .inr (.inr ⟨_, _, toPy_dp hs _ _ _ _ h2 rd, toPy_dp hs _ _ _ _ h3 re, hz.1, hz.2, Option.some.inj h⟩)
          · cases h
        · cases h
    · cases h
theorem isNon_r {d : D} {x : V} (r : RV K m H d x) : decide (x = .non) = isNon d := by
  cases r <;> first | rfl | simp [isNon]
end
section
variable {X : Cx} {k : Nat}
theorem oc_eq (hr : Room k X.A) : OpR X (compareOp .Eq) (rD2 X.K (semCop .eq)) := by
  refine opI (op_eq.or (op_eqD hr.units)) fun x y H Q ⟨m, S, d, e, hs, rd, re, hp⟩ => ?_
  unfold semCop at hp
  dsimp only at hp
  split at hp
  · rename_i h
    have q := hp.here hs (.bl _)
    rcases eqD_r hs rd re h with ⟨h1, h2⟩ | ⟨p, p', h1, h2, h3, h4, h5⟩
    · exact .inl ⟨h1, by rw [h2]; exact q⟩
    · exact .inr ⟨p, p', h1, h2, h3, h4, by rw [h5]; exact q⟩
  · exact hp.elim
theorem oc_ne (hr : Room k X.A) : OpR X (compareOp .NotEq) (rD2 X.K (semCop .ne)) := by
  refine opI (op_ne.or (op_neD hr.units)) fun x y H Q ⟨m, S, d, e, hs, rd, re, hp⟩ => ?_
  unfold semCop at hp
  dsimp only at hp
  split at hp
  · rename_i h
    have q := hp.here hs (.bl _)
    rcases eqD_r hs rd re h with ⟨h1, h2⟩ | ⟨p, p', h1, h2, h3, h4, h5⟩
    · exact .inl ⟨h1, by rw [h2]; exact q⟩
    · exact .inr ⟨p, p', h1, h2, h3, h4, by rw [h5]; exact q⟩
  · exact hp.elim
theorem ltD_r {K : PySem.W.Frag} {m : List Addr} {H : Hp} {d e : D} {x y : V} {b : Bool} (rd : RV K m H d x) (re : RV K m H e y) (h : ltD d e = some b) :
    (∃ i j, x = .int i ∧ y = .int j ∧ decide (i < j) = b) ∨ ∃ i j : Str, x = .str i ∧ y = .str j ∧ decide (i.cps.toList < j.cps.toList) = b := by
  unfold ltD at h
  split at h
  · cases rd; cases re; exact .inl ⟨_, _, rfl, rfl, Option.some.inj h⟩
  · cases rd; cases re; exact .inr ⟨_, _, rfl, rfl, Option.some.inj h⟩
  · cases h
theorem nlt {i j : Int} : decide (j ≤ i) = !decide (i < j) := by
  by_cases h : i < j
  · rw [decide_eq_true h, decide_eq_false (by omega)]; rfl
  · rw [decide_eq_false h, decide_eq_true (by omega)]; rfl
theorem oc_lt : OpR X (compareOp .Lt) (rD2 X.K (semCop .lt)) := by
  refine opI (op_lt.or op_lt_str) fun x y H Q ⟨m, S, d, e, hs, rd, re, hp⟩ => ?_
  unfold semCop at hp
  dsimp only at hp
  split at hp
  · rename_i h
    have q := hp.here hs (.bl _)
    rcases ltD_r rd re h with ⟨i, j, rfl, rfl, h⟩ | ⟨i, j, rfl, rfl, h⟩
    · exact .inl ⟨_, _, rfl, rfl, by dsimp only; rw [h]; exact q⟩
    · exact .inr ⟨_, _, rfl, rfl, by rw [h]; exact q⟩
  · exact hp.elim
theorem oc_le : OpR X (compareOp .LtE) (rD2 X.K (semCop .le)) := by
  refine opI (op_le.or op_le_str) fun x y H Q ⟨m, S, d, e, hs, rd, re, hp⟩ => ?_
  unfold semCop at hp
  dsimp only at hp
  split at hp
  · rename_i h
    have q := hp.here hs (.bl _)
    rcases ltD_r re rd h with ⟨i, j, rfl, rfl, h⟩ | ⟨i, j, rfl, rfl, h⟩
    · exact .inl ⟨_, _, rfl, rfl, by dsimp only; rw [nlt, h]; exact q⟩
    · exact .inr ⟨_, _, rfl, rfl, by rw [h]; exact q⟩
  · exact hp.elim
theorem oc_gt : OpR X (compareOp .Gt) (rD2 X.K (semCop .gt)) := by
  refine opI (op_gt.or op_gt_str) fun x y H Q ⟨m, S, d, e, hs, rd, re, hp⟩ => ?_
  unfold semCop at hp
  dsimp only at hp
  split at hp
  · rename_i h
    have q := hp.here hs (.bl _)
    rcases ltD_r re rd h with ⟨i, j, rfl, rfl, h⟩ | ⟨i, j, rfl, rfl, h⟩
    · exact .inl ⟨_, _, rfl, rfl, by dsimp only; rw [h]; exact q⟩
    · exact .inr ⟨_, _, rfl, rfl, by rw [h]; exact q⟩
  · exact hp.elim
theorem oc_ge : OpR X (compareOp .GtE) (rD2 X.K (semCop .ge)) := by
  refine opI (op_ge.or op_ge_str) fun x y H Q ⟨m, S, d, e, hs, rd, re, hp⟩ => ?_
  unfold semCop at hp
  dsimp only at hp
  split at hp
  · rename_i h
    have q := hp.here hs (.bl _)
    rcases ltD_r rd re h with ⟨i, j, rfl, rfl, h⟩ | ⟨i, j, rfl, rfl, h⟩
    · exact .inl ⟨_, _, rfl, rfl, by dsimp only; rw [nlt, h]; exact q⟩
    · exact .inr ⟨_, _, rfl, rfl, by rw [h]; exact q⟩
  · exact hp.elim
theorem oc_is : OpR X (compareOp .Is) (rD2 X.K (semCop .is)) := by
  refine opI (op_isN.or op_isBl) fun x y H Q ⟨m, S, d, e, hs, rd, re, hp⟩ => ?_
  unfold semCop at hp
  dsimp only at hp
  split at hp
  · have q := hp.here hs (.bl _)
    cases re
    exact .inl ⟨rfl, by rw [isNon_r rd]; exact q⟩
  · have q := hp.here hs (.bl _)
    cases rd; cases re
    exact .inr ⟨_, _, rfl, rfl, q⟩
  · exact hp.elim
theorem oc_isnot : OpR X (compareOp .IsNot) (rD2 X.K (semCop .isnot)) := by
  refine opI (op_notN.or op_notBl) fun x y H Q ⟨m, S, d, e, hs, rd, re, hp⟩ => ?_
  unfold semCop at hp
  dsimp only at hp
  split at hp
  · have q := hp.here hs (.bl _)
    cases re
    exact .inl ⟨rfl, by rw [isNon_r rd]; exact q⟩
  · have q := hp.here hs (.bl _)
    cases rd; cases re
    exact .inr ⟨_, _, rfl, rfl, q⟩
  · exact hp.elim
theorem room65 {A : Around} (hr : Room k A) : A.units + 65 < cLine := by have := hr.un; omega
theorem oc_in (hr : Room k X.A) : OpR X (compareOp .In) (rD2 X.K (semCop .in_)) := by
  refine opI (op_in_str.or (op_in_seq.or (op_inD (room65 hr)))) fun x y H Q ⟨m, S, d, e, hs, rd, re, hp⟩ => ?_
  unfold semCop at hp
  dsimp only at hp
  split at hp
  · rename_i h
    have q := hp.here hs (.bl _)
    rcases inD_r hs rd re h with ⟨i, j, rfl, rfl, h⟩ | ⟨p, xs, rfl, h1, h2, h3, h⟩ | ⟨p, ds, h1, h2, h3, h4, h⟩
    · exact .inl ⟨_, _, rfl, rfl, by rw [h]; exact q⟩
    · exact .inr (.inl ⟨_, _, rfl, h1, h2, h3, by show Q (.bl (inV x xs)) H; rw [h]; exact q⟩)
    · exact .inr (.inr ⟨_, _, h1, h2, h3, h4, by rw [h]; exact q⟩)
  · exact hp.elim
theorem oc_notin (hr : Room k X.A) : OpR X (compareOp .NotIn) (rD2 X.K (semCop .notin)) := by
  refine opI (op_notIn_str.or (op_notIn_seq.or (op_notInD (room65 hr)))) fun x y H Q ⟨m, S, d, e, hs, rd, re, hp⟩ => ?_
  unfold semCop at hp
  dsimp only at hp
  split at hp
  · rename_i h
    have q := hp.here hs (.bl _)
    rcases inD_r hs rd re h with ⟨i, j, rfl, rfl, h⟩ | ⟨p, xs, rfl, h1, h2, h3, h⟩ | ⟨p, ds, h1, h2, h3, h4, h⟩
    · exact .inl ⟨_, _, rfl, rfl, by rw [h]; exact q⟩
    · exact .inr (.inl ⟨_, _, rfl, h1, h2, h3, by show Q (.bl (!inV x xs)) H; rw [h]; exact q⟩)
    · exact .inr (.inr ⟨_, _, h1, h2, h3, h4, by rw [h]; exact q⟩)
  · exact hp.elim
theorem oc (hr : Room k X.A) : ∀ p : Cop, OpR X (compareOp p.op) (rD2 X.K (semCop p))
  | .eq => oc_eq hr | .ne => oc_ne hr | .lt => oc_lt | .le => oc_le | .gt => oc_gt | .ge => oc_ge | .is => oc_is | .isnot => oc_isnot | .in_ => oc_in hr | .notin => oc_notin hr
end
end Mz

end

section
set_option Elab.async false
set_option linter.all false
set_option maxRecDepth 100000
namespace Mz
open PySem PySem.Spec L2

/-! ### items and slices -/
def semItem (d e : D) (S : Store) : O D := match e with
  | .int i => match d with
    | .str z => if z.length ≤ sizeLine then (match atI z.cps.toList i with | some c => .ok (.str ⟨#[c]⟩) S | none => .no) else .no
    | d => match seqAt S d with
      | some xs => match atI xs i with
        | some x => .ok x S
        | none => .no
      | none => .no
  | _ => .no
theorem RVs.atI {K : PySem.W.Frag} {m : List Addr} {H : Hp} {ds : List D} {vs : List V} {i : Int} {d : D} (r : RVs K m H ds vs) (e : L2.atI ds i = some d) : ∃ v, L2.atI vs i = some v ∧ RV K m H d v := by
  unfold L2.atI at e ⊢
  rw [← r.length]
  cases h : ixN ds.length i with
  | none => rw [h] at e; cases e
  | some j =>
    rw [h] at e
    exact r.get e
def cutD (xs : List D) (lo hi : Option Int) : List D := (xs.drop (HT.sIx xs.length 0 lo)).take (HT.sIx xs.length xs.length hi - HT.sIx xs.length 0 lo)
theorem RVs.cut {K : PySem.W.Frag} {m : List Addr} {H : Hp} {ds : List D} {vs : List V} (r : RVs K m H ds vs) (lo hi : Option Int) : RVs K m H (cutD ds lo hi) (cutV vs lo hi) := by
  unfold cutD cutV
  rw [← r.length]
  exact (r.drop _).take _
def semSlice (d : D) (lo hi : Option Int) (S : Store) : O D := match d with
  | .str z => if z.length ≤ sizeLine then .ok (.str (cutS z lo hi)) S else .no
  | .tup xs => .ok (.tup (cutD xs lo hi)) S
  | d => match listAt S d with
    | some xs => alloc (cutD xs lo hi) S
    | none => .no
def rDSl (K : PySem.W.Frag) (f : D → Option Int → Option Int → Store → O D) : V → Option Int → Option Int → Hp → VK → Prop := fun x lo hi H Q => ∃ m S d, Sim K m S H ∧ RV K m H d x ∧ PostE K m H Q (f d lo hi S)
section
variable {X : Cx}
theorem oi_item : IxR X (rD2 X.K semItem) := by
  refine ixI ix_seq fun x y H Q ⟨m, S, d, e, hs, rd, re, hp⟩ => ?_
  unfold semItem at hp
  split at hp
  · cases re
    split at hp
    · cases rd
      split at hp
      · rename_i hz
        split at hp
        · rename_i ha
          exact .inr (.inr ⟨_, _, _, rfl, rfl, hz, ha, hp.here hs (.str _)⟩)
        · exact hp.elim
      · exact hp.elim
    · split at hp
      · rename_i h1
        split at hp
        · rename_i h2
          obtain ⟨a, vs, rfl, sq, r⟩ := seqAt_sq hs rd h1
          obtain ⟨v, h3, rv⟩ := r.atI h2
          rcases sq with sq | sq
          · exact .inl ⟨_, _, _, _, rfl, rfl, sq, h3, hp.here hs rv⟩
          · exact .inr (.inl ⟨_, _, _, _, rfl, rfl, sq, h3, hp.here hs rv⟩)
        · exact hp.elim
      · exact hp.elim
  · exact hp.elim
theorem cutV_whole {xs : List V} {lo hi : Option Int} (h : HT.sIx xs.length 0 lo = 0 ∧ HT.sIx xs.length xs.length hi = xs.length) : cutV xs lo hi = xs := by
  unfold cutV
  rw [h.1, h.2]
  simp
theorem cutD_whole {xs : List D} {lo hi : Option Int} (h : HT.sIx xs.length 0 lo = 0 ∧ HT.sIx xs.length xs.length hi = xs.length) : cutD xs lo hi = xs := by
  unfold cutD
  rw [h.1, h.2]
  simp
theorem os_slice : SlR X (rDSl X.K semSlice) := by
  refine slI (sl_str.or (sl_tupA.or sl_list)) fun x lo hi H Q ⟨m, S, d, hs, rd, hp⟩ => ?_
  unfold semSlice at hp
  split at hp
  · cases rd
    split at hp
    · rename_i hz
      exact .inl ⟨_, rfl, hz, hp.here hs (.str _)⟩
    · exact hp.elim
  · cases rd with | tup h r =>
    refine .inr (.inl ⟨_, _, rfl, h, fun hw => ?_, fun hw p hn => hp.newT hs (r.cut lo hi) hn⟩)
    rw [← r.length] at hw
    rw [cutD_whole hw] at hp
    exact hp.here hs (.tup h r)
  · split at hp
    · rename_i h1
      obtain ⟨a, vs, rfl, sq, r⟩ := listAt_sq hs rd h1
      exact .inr (.inr ⟨a, vs, rfl, sq, fun p hn => hp.newL hs (r.cut lo hi) hn⟩)
    · exact hp.elim
end

/-! ### builtins -/
def asStr : D → Option Str
  | .str x => some x
  | _ => none
def asInt : D → Option Int
  | .int x => some x
  | _ => none
def asBl : D → Option Bool
  | .bl x => some x
  | _ => none
section
variable {K : PySem.W.Frag} {m : List Addr} {H : Hp}
theorem mapM_cons_some {α β : Type} {f : α → Option β} {x : α} {xs : List α} {ys : List β} (h : (x :: xs).mapM f = some ys) : ∃ y r, f x = some y ∧ xs.mapM f = some r ∧ ys = y :: r := by
  simp only [List.mapM_cons] at h
  cases e1 : f x with
  | none => rw [e1] at h; cases h
  | some y =>
    rw [e1] at h
    cases e2 : xs.mapM f with
    | none => rw [e2] at h; cases h
    | some r => rw [e2] at h; cases h; exact ⟨y, r, rfl, rfl, rfl⟩
theorem strs_r : ∀ {ds : List D} {vs : List V} {ys : List Str}, RVs K m H ds vs → ds.mapM asStr = some ys → vs = ys.map V.str
  | _, _, _, .nil, e => by simp at e; subst e; rfl
  | _, _, _, .cons h t, e => by
    obtain ⟨y, r, e1, e2, rfl⟩ := mapM_cons_some e
    rw [strs_r t e2]
    cases h <;> cases e1
    rfl
theorem ints_r : ∀ {ds : List D} {vs : List V} {ys : List Int}, RVs K m H ds vs → ds.mapM asInt = some ys → vs = ys.map V.int
  | _, _, _, .nil, e => by simp at e; subst e; rfl
  | _, _, _, .cons h t, e => by
    obtain ⟨y, r, e1, e2, rfl⟩ := mapM_cons_some e
    rw [ints_r t e2]
    cases h <;> cases e1
    rfl
theorem bls_r : ∀ {ds : List D} {vs : List V} {ys : List Bool}, RVs K m H ds vs → ds.mapM asBl = some ys → vs = ys.map V.bl
  | _, _, _, .nil, e => by simp at e; subst e; rfl
  | _, _, _, .cons h t, e => by
    obtain ⟨y, r, e1, e2, rfl⟩ := mapM_cons_some e
    rw [bls_r t e2]
    cases h <;> cases e1
    rfl
theorem rvs_strs : ∀ ys : List Str, RVs K m H (ys.map D.str) (ys.map V.str)
  | [] => .nil
  | y :: ys => .cons (.str y) (rvs_strs ys)
theorem RVs.one {d : D} {vs : List V} (r : RVs K m H [d] vs) : ∃ v, vs = [v] ∧ RV K m H d v := by
  cases r with | cons h t => cases t; exact ⟨_, rfl, h⟩
theorem RVs.two {d e : D} {vs : List V} (r : RVs K m H [d, e] vs) : ∃ v w, vs = [v, w] ∧ RV K m H d v ∧ RV K m H e w := by
  cases r with | cons h t => cases t with | cons h2 t => cases t; exact ⟨_, _, rfl, h, h2⟩
end
inductive Blt where
  | len | abs | max2 | min2 | int1 | str1 | ord1 | list1 | tuple1 | all1 | any1 | sum1
  deriving DecidableEq
def Blt.name : Blt → Str
  | .len => "len" | .abs => "abs" | .max2 => "max" | .min2 => "min" | .int1 => "int" | .str1 => "str" | .ord1 => "ord" | .list1 => "list" | .tuple1 => "tuple" | .all1 => "all" | .any1 => "any" | .sum1 => "sum"
/-- the value of the name -/
def Blt.val : Blt → Value
  | .len => .builtin "len" | .abs => .builtin "abs" | .max2 => .builtin "max" | .min2 => .builtin "min" | .int1 => .type "int" | .str1 => .type "str" | .ord1 => .builtin "ord" | .list1 => .type "list" | .tuple1 => .type "tuple"
  | .all1 => .builtin "all" | .any1 => .builtin "any" | .sum1 => .builtin "sum"
def semBlt (p : Blt) (ds : List D) (S : Store) : O D := match p with
  | .len => match ds with
    | [.str z] => if z.length ≤ sizeLine then .ok (.int z.length) S else .no
    | [d] => match seqAt S d with
      | some xs => .ok (.int xs.length) S
      | none => .no
    | _ => .no
  | .abs => match ds with
    | [.int i] => .ok (.int (if i < 0 then -i else i)) S
    | _ => .no
  | .max2 => match ds with
    | [.int i, .int j] => .ok (.int (if j > i then j else i)) S
    | _ => .no
  | .min2 => match ds with
    | [.int i, .int j] => .ok (.int (if j < i then j else i)) S
    | _ => .no
  | .int1 => match ds with
    | [.int i] => .ok (.int i) S
    | [.bl b] => .ok (.int (if b then 1 else 0)) S
    | [.str a] => if a.length ≤ 640 then (match PySem.intText? a with | some n => .ok (.int n) S | none => .no) else .no
    | _ => .no
  | .str1 => match ds with
    | [.int i] => if i.natAbs.log2 < 1920 then .ok (.str (toString i)) S else .no
    | [.str a] => .ok (.str a) S
    | _ => .no
  | .ord1 => match ds with
    | [.str x] => if x.length = 1 then .ok (.int (x.cps.getD 0 0 : Nat)) S else .no
    | _ => .no
  | .list1 => match ds with
    | [d] => match seqAt S d with
      | some xs => alloc xs S
      | none => .no
    | _ => .no
  | .tuple1 => match ds with
    | [.tup xs] => .ok (.tup xs) S
    | [d] => match listAt S d with
      | some xs => .ok (.tup xs) S
      | none => .no
    | _ => .no
  | .all1 => match ds with
    | [d] => match listAt S d with
      | some xs => match xs.mapM asBl with
        | some bs => .ok (.bl (bs.all id)) S
        | none => .no
      | none => .no
    | _ => .no
  | .any1 => match ds with
    | [d] => match listAt S d with
      | some xs => match xs.mapM asBl with
        | some bs => .ok (.bl (bs.any id)) S
        | none => .no
      | none => .no
    | _ => .no
  | .sum1 => match ds with
    | [d] => match listAt S d with
      | some xs => match xs.mapM asInt with
        | some bs => .ok (.int bs.sum) S
        | none => .no
      | none => .no
    | _ => .no
section
variable {X : Cx}
theorem blt_len : CallR X (.builtin "len") (rDL X.K (semBlt .len)) := by
  refine crI (call_len_str.or call_len_seq) fun xs H Q ⟨m, S, ds, hs, rs, hp⟩ => ?_
  unfold semBlt at hp
  dsimp only at hp
  split at hp
  · obtain ⟨v, rfl, r⟩ := rs.one
    cases r
    split at hp
    · rename_i hz
      exact .inl ⟨_, rfl, hz, hp.here hs (.int _)⟩
    · exact hp.elim
  · obtain ⟨v, rfl, r⟩ := rs.one
    split at hp
    · rename_i h1
      obtain ⟨a, vs, rfl, sq, r'⟩ := seqAt_sq hs r h1
      exact .inr ⟨a, vs, rfl, sq, by rw [← r'.length]; exact hp.here hs (.int _)⟩
    · exact hp.elim
  · exact hp.elim
theorem blt_abs : CallR X (.builtin "abs") (rDL X.K (semBlt .abs)) := by
  refine crI call_abs fun xs H Q ⟨m, S, ds, hs, rs, hp⟩ => ?_
  unfold semBlt at hp
  dsimp only at hp
  split at hp
  · obtain ⟨v, rfl, r⟩ := rs.one
    cases r
    exact ⟨_, rfl, hp.here hs (.int _)⟩
  · exact hp.elim
theorem blt_max2 (hc : X.calm = true) : CallR X (.builtin "max") (rDL X.K (semBlt .max2)) := by
  refine crI (call_max2 hc) fun xs H Q ⟨m, S, ds, hs, rs, hp⟩ => ?_
  unfold semBlt at hp
  dsimp only at hp
  split at hp
  · obtain ⟨v, w, rfl, r, r'⟩ := rs.two
    cases r; cases r'
    exact ⟨_, _, rfl, hp.here hs (.int _)⟩
  · exact hp.elim
theorem blt_min2 (hc : X.calm = true) : CallR X (.builtin "min") (rDL X.K (semBlt .min2)) := by
  refine crI (call_min2 hc) fun xs H Q ⟨m, S, ds, hs, rs, hp⟩ => ?_
  unfold semBlt at hp
  dsimp only at hp
  split at hp
  · obtain ⟨v, w, rfl, r, r'⟩ := rs.two
    cases r; cases r'
    exact ⟨_, _, rfl, hp.here hs (.int _)⟩
  · exact hp.elim
theorem blt_int1 : CallR X (.type "int") (rDL X.K (semBlt .int1)) := by
  refine crI (call_int1.or call_int_str) fun xs H Q ⟨m, S, ds, hs, rs, hp⟩ => ?_
  unfold semBlt at hp
  dsimp only at hp
  split at hp
  · obtain ⟨v, rfl, r⟩ := rs.one
    cases r
    exact .inl (.inl ⟨_, rfl, hp.here hs (.int _)⟩)
  · obtain ⟨v, rfl, r⟩ := rs.one
    cases r
    exact .inl (.inr ⟨_, rfl, hp.here hs (.int _)⟩)
  · obtain ⟨v, rfl, r⟩ := rs.one
    cases r
    split at hp
    · rename_i hz
      split at hp
      · rename_i hn
        exact .inr ⟨_, _, rfl, hn, hz, hp.here hs (.int _)⟩
      · exact hp.elim
    · exact hp.elim
  · exact hp.elim
theorem blt_str1 : CallR X (.type "str") (rDL X.K (semBlt .str1)) := by
  refine crI (call_str_int.or SkE.call_str_str) fun xs H Q ⟨m, S, ds, hs, rs, hp⟩ => ?_
  unfold semBlt at hp
  dsimp only at hp
  split at hp
  · obtain ⟨v, rfl, r⟩ := rs.one
    cases r
    split at hp
    · rename_i hz
      exact .inl ⟨_, rfl, hz, hp.here hs (.str _)⟩
    · exact hp.elim
  · obtain ⟨v, rfl, r⟩ := rs.one
    cases r
    exact .inr ⟨_, rfl, hp.here hs (.str _)⟩
  · exact hp.elim
theorem blt_ord1 : CallR X (.builtin "ord") (rDL X.K (semBlt .ord1)) := by
  refine crI call_ord fun xs H Q ⟨m, S, ds, hs, rs, hp⟩ => ?_
  unfold semBlt at hp
  dsimp only at hp
  split at hp
  · obtain ⟨v, rfl, r⟩ := rs.one
    cases r
    split at hp
    · rename_i hz
      exact ⟨_, rfl, hz, hp.here hs (.int _)⟩
    · exact hp.elim
  · exact hp.elim
theorem blt_list1 : CallR X (.type "list") (rDL X.K (semBlt .list1)) := by
  refine crI call_list_of fun xs H Q ⟨m, S, ds, hs, rs, hp⟩ => ?_
  unfold semBlt at hp
  dsimp only at hp
  split at hp
  · obtain ⟨v, rfl, r⟩ := rs.one
    split at hp
    · rename_i h1
      obtain ⟨a, vs, rfl, sq, r'⟩ := seqAt_sq hs r h1
      exact ⟨a, vs, rfl, sq, fun l hn => hp.newL hs r' hn⟩
    · exact hp.elim
  · exact hp.elim
theorem blt_tuple1 : CallR X (.type "tuple") (rDL X.K (semBlt .tuple1)) := by
  refine crI call_tuple_of fun xs H Q ⟨m, S, ds, hs, rs, hp⟩ => ?_
  unfold semBlt at hp
  dsimp only at hp
  split at hp
  · obtain ⟨v, rfl, r⟩ := rs.one
    cases r with | tup h r => exact ⟨_, _, rfl, .inr ⟨h, hp.here hs (.tup h r)⟩⟩
  · obtain ⟨v, rfl, r⟩ := rs.one
    split at hp
    · rename_i h1
      obtain ⟨a, vs, rfl, sq, r'⟩ := listAt_sq hs r h1
      exact ⟨a, vs, rfl, .inl ⟨sq, fun l hn => hp.newT hs r' hn⟩⟩
    · exact hp.elim
  · exact hp.elim
theorem blt_all1 (hc : X.calm = true) : CallR X (.builtin "all") (rDL X.K (semBlt .all1)) := by
  refine crI (cr_all hc) fun xs H Q ⟨m, S, ds, hs, rs, hp⟩ => ?_
  unfold semBlt at hp
  dsimp only at hp
  split at hp
  · obtain ⟨v, rfl, r⟩ := rs.one
    split at hp
    · rename_i h1
      obtain ⟨a, vs, rfl, sq, r'⟩ := listAt_sq hs r h1
      split at hp
      · rename_i h2
        exact ⟨a, _, rfl, by rw [← bls_r r' h2]; exact sq, hp.here hs (.bl _)⟩
      · exact hp.elim
    · exact hp.elim
  · exact hp.elim
theorem blt_any1 (hc : X.calm = true) : CallR X (.builtin "any") (rDL X.K (semBlt .any1)) := by
  refine crI (cr_any hc) fun xs H Q ⟨m, S, ds, hs, rs, hp⟩ => ?_
  unfold semBlt at hp
  dsimp only at hp
  split at hp
  · obtain ⟨v, rfl, r⟩ := rs.one
    split at hp
    · rename_i h1
      obtain ⟨a, vs, rfl, sq, r'⟩ := listAt_sq hs r h1
      split at hp
      · rename_i h2
        exact ⟨a, _, rfl, by rw [← bls_r r' h2]; exact sq, hp.here hs (.bl _)⟩
      · exact hp.elim
    · exact hp.elim
  · exact hp.elim
theorem blt_sum1 (hc : X.calm = true) : CallR X (.builtin "sum") (rDL X.K (semBlt .sum1)) := by
  refine crI (cr_sum hc) fun xs H Q ⟨m, S, ds, hs, rs, hp⟩ => ?_
  unfold semBlt at hp
  dsimp only at hp
  split at hp
  · obtain ⟨v, rfl, r⟩ := rs.one
    split at hp
    · rename_i h1
      obtain ⟨a, vs, rfl, sq, r'⟩ := listAt_sq hs r h1
      split at hp
      · rename_i h2
        exact ⟨a, _, rfl, by rw [← ints_r r' h2]; exact sq, hp.here hs (.int _)⟩
      · exact hp.elim
    · exact hp.elim
  · exact hp.elim
theorem blt_ok (hc : X.calm = true) : ∀ p : Blt, CallR X p.val (rDL X.K (semBlt p))
  | .len => blt_len | .abs => blt_abs | .max2 => blt_max2 hc | .min2 => blt_min2 hc | .int1 => blt_int1 | .str1 => blt_str1 | .ord1 => blt_ord1 | .list1 => blt_list1 | .tuple1 => blt_tuple1
  | .all1 => blt_all1 hc | .any1 => blt_any1 hc | .sum1 => blt_sum1 hc
end

/-! ### methods of built-in types -/
inductive Mth where
  | append | extend | pop0 | pop1 | reverse | join | split1 | partition | find1 | find2 | insert
  deriving DecidableEq
def Mth.ty : Mth → String
  | .append => "list" | .extend => "list" | .pop0 => "list" | .pop1 => "list" | .reverse => "list" | .join => "str" | .split1 => "str" | .partition => "str" | .find1 => "str" | .find2 => "str" | .insert => "list"
def Mth.name : Mth → Str
  | .append => "append" | .extend => "extend" | .pop0 => "pop" | .pop1 => "pop" | .reverse => "reverse" | .join => "join" | .split1 => "split" | .partition => "partition" | .find1 => "find" | .find2 => "find" | .insert => "insert"
def Mth.id : Mth → String
  | .append => "list.append" | .extend => "list.extend" | .pop0 => "list.pop" | .pop1 => "list.pop" | .reverse => "list.reverse" | .join => "str.join" | .split1 => "str.split" | .partition => "str.partition" | .find1 => "str.find" | .find2 => "str.find" | .insert => "list.insert"
def tyOk (p : Mth) (d : D) (S : Store) : Bool := match d with
  | .str _ => p.ty == "str"
  | d => p.ty == "list" && (listAt S d).isSome
def semMth (p : Mth) (o : D) (ds : List D) (S : Store) : O D := match p with
  | .append => match lstAt S o, ds with
    | some (n, xs), [y] => if xs.length < sizeLine then .ok .non (S.set n (.lst (xs ++ [y]))) else .no
    | _, _ => .no
  | .extend => match lstAt S o, ds with
    | some (n, xs), [y] => match lstAt S y with
      | some (_, ys) => if xs.length + ys.length ≤ sizeLine then .ok .non (S.set n (.lst (xs ++ ys))) else .no
      | none => .no
    | _, _ => .no
  | .pop0 => match lstAt S o, ds with
    | some (n, xs), [] => match xs[xs.length - 1]? with
      | some y => .ok y (S.set n (.lst xs.dropLast))
      | none => .no
    | _, _ => .no
  | .pop1 => match lstAt S o, ds with
    | some (n, xs), [.int i] => match ixN xs.length i with
      | some k => match xs[k]? with
        | some y => if (decide (-(2 ^ 63) ≤ i) && decide (i < 2 ^ 63)) = true then .ok y (S.set n (.lst (xs.eraseIdx k))) else .no
        | none => .no
      | none => .no
    | _, _ => .no
  | .reverse => match lstAt S o, ds with
    | some (n, xs), [] => .ok .non (S.set n (.lst xs.reverse))
    | _, _ => .no
  | .join => match o, ds with
    | .str a, [d] => match seqAt S d with
      | some xs => match xs.mapM asStr with
        | some ys => if (ys.map (·.length)).sum + ys.length * a.length ≤ 16777216 then .ok (.str (Txt.join a ys)) S else .no
        | none => .no
      | none => .no
    | _, _ => .no
  | .split1 => match o, ds with
    | .str a, [.str b] => if (decide (b.length ≠ 0) && decide (a.length + 2 ≤ sizeLine)) = true then alloc ((Txt.split a b).map .str) S else .no
    | _, _ => .no
  | .partition => match o, ds with
    | .str a, [.str b] => if (decide (b.length ≠ 0) && decide (a.length ≤ sizeLine)) = true then .ok (.tup [.str (Txt.partition a b).1, .str (Txt.partition a b).2.1, .str (Txt.partition a b).2.2]) S else .no
    | _, _ => .no
  | .find1 => match o, ds with
    | .str a, [.str b] => .ok (.int (Txt.find a b)) S
    | _, _ => .no
  | .find2 => match o, ds with
    | .str a, [.str b, .int i] => .ok (.int (Txt.find3 a b i)) S
    | _, _ => .no
  | .insert => match lstAt S o, ds with
    | some (n, xs), [.int i, y] => if (decide (xs.length < sizeLine) && decide (0 ≤ i) && decide (i < 2 ^ 63)) = true then .ok .non (S.set n (.lst (xs.take i.toNat ++ [y] ++ xs.drop i.toNat))) else .no
    | _, _ => .no
theorem RVs.dropLast {K : PySem.W.Frag} {m : List Addr} {H : Hp} {ds : List D} {vs : List V} (r : RVs K m H ds vs) : RVs K m H ds.dropLast vs.dropLast := by
  rw [List.dropLast_eq_take, List.dropLast_eq_take, r.length]
  exact r.take _
section
variable {X : Cx}
theorem mm_append : MtR X "list.append" (rDM X.K (semMth .append)) := by
  refine mtI mt_append fun x xs H Q ⟨m, S, d, ds, hs, rd, rs, hp⟩ => ?_
  unfold semMth at hp
  dsimp only at hp
  split at hp
  · rename_i h1
    obtain ⟨a, vs, rfl, hm, e1, r1⟩ := lstAt_at hs rd h1
    obtain ⟨w, rfl, rw'⟩ := rs.one
    split at hp
    · rename_i hz
      exact ⟨a, vs, w, rfl, rfl, e1, by rw [← r1.length]; exact hz, hp.wr hs hm (r1.append (.cons rw' .nil)) .non⟩
    · exact hp.elim
  · exact hp.elim
theorem mm_extend : MtR X "list.extend" (rDM X.K (semMth .extend)) := by
  refine mtI mt_extend fun x xs H Q ⟨m, S, d, ds, hs, rd, rs, hp⟩ => ?_
  unfold semMth at hp
  dsimp only at hp
  split at hp
  · rename_i h1
    obtain ⟨a, vs, rfl, hm, e1, r1⟩ := lstAt_at hs rd h1
    obtain ⟨w, rfl, rw'⟩ := rs.one
    split at hp
    · rename_i h2
      obtain ⟨b, ws, rfl, hm2, e2, r2⟩ := lstAt_at hs rw' h2
      split at hp
      · rename_i hz
        exact ⟨a, b, vs, ws, rfl, rfl, e1, e2, by rw [← r1.length, ← r2.length]; exact hz, hp.wr hs hm (r1.append r2) .non⟩
      · exact hp.elim
    · exact hp.elim
  · exact hp.elim
theorem mm_pop0 : MtR X "list.pop" (rDM X.K (semMth .pop0)) := by
  refine mtI mt_pop fun x xs H Q ⟨m, S, d, ds, hs, rd, rs, hp⟩ => ?_
  unfold semMth at hp
  dsimp only at hp
  split at hp
  · rename_i h1
    obtain ⟨a, vs, rfl, hm, e1, r1⟩ := lstAt_at hs rd h1
    cases rs
    split at hp
    · rename_i h2
      obtain ⟨y, e2, ry⟩ := r1.get h2
      exact ⟨a, vs, y, rfl, rfl, e1, by rw [← r1.length]; exact e2, hp.wr hs hm r1.dropLast ry⟩
    · exact hp.elim
  · exact hp.elim
theorem mm_pop1 : MtR X "list.pop" (rDM X.K (semMth .pop1)) := by
  refine mtI mt_popAt fun x xs H Q ⟨m, S, d, ds, hs, rd, rs, hp⟩ => ?_
  unfold semMth at hp
  dsimp only at hp
  split at hp
  · rename_i h1
    obtain ⟨a, vs, rfl, hm, e1, r1⟩ := lstAt_at hs rd h1
    obtain ⟨w, rfl, rw'⟩ := rs.one
    cases rw'
    split at hp
    · rename_i hk
      split at hp
      · rename_i h2
        obtain ⟨y, e2, ry⟩ := r1.get h2
        split at hp
        · rename_i hz
          simp only [Bool.and_eq_true, decide_eq_true_eq] at hz
          exact ⟨a, vs, _, _, y, rfl, rfl, e1, hz.1, hz.2, by rw [← r1.length]; exact (ixN_seq hk).1, e2, hp.wr hs hm (r1.eraseIdx _) ry⟩
        · exact hp.elim
      · exact hp.elim
    · exact hp.elim
  · exact hp.elim
theorem mm_reverse : MtR X "list.reverse" (rDM X.K (semMth .reverse)) := by
  refine mtI mt_reverse fun x xs H Q ⟨m, S, d, ds, hs, rd, rs, hp⟩ => ?_
  unfold semMth at hp
  dsimp only at hp
  split at hp
  · rename_i h1
    obtain ⟨a, vs, rfl, hm, e1, r1⟩ := lstAt_at hs rd h1
    cases rs
    exact ⟨a, vs, rfl, rfl, e1, hp.wr hs hm r1.reverse .non⟩
  · exact hp.elim
theorem mm_join : MtR X "str.join" (rDM X.K (semMth .join)) := by
  refine mtI mt_join fun x xs H Q ⟨m, S, d, ds, hs, rd, rs, hp⟩ => ?_
  unfold semMth at hp
  dsimp only at hp
  split at hp
  · cases rd
    obtain ⟨w, rfl, rw'⟩ := rs.one
    split at hp
    · rename_i h1
      obtain ⟨a, vs, rfl, sq, r'⟩ := seqAt_sq hs rw' h1
      split at hp
      · rename_i h2
        split at hp
        · rename_i hz
          have e := strs_r r' h2
          subst e
          exact ⟨_, a, _, rfl, rfl, sq, hz, hp.here hs (.str _)⟩
        · exact hp.elim
      · exact hp.elim
    · exact hp.elim
  · exact hp.elim
theorem mm_split1 : MtR X "str.split" (rDM X.K (semMth .split1)) := by
  refine mtI mt_split fun x xs H Q ⟨m, S, d, ds, hs, rd, rs, hp⟩ => ?_
  unfold semMth at hp
  dsimp only at hp
  split at hp
  · cases rd
    obtain ⟨w, rfl, rw'⟩ := rs.one
    cases rw'
    split at hp
    · rename_i hz
      simp only [Bool.and_eq_true, decide_eq_true_eq] at hz
      exact ⟨_, _, rfl, rfl, beq_eq_false_iff_ne.mpr hz.1, hz.2, fun p hn => hp.newL hs (rvs_strs _) hn⟩
    · exact hp.elim
  · exact hp.elim
theorem mm_partition : MtR X "str.partition" (rDM X.K (semMth .partition)) := by
  refine mtI mt_partition fun x xs H Q ⟨m, S, d, ds, hs, rd, rs, hp⟩ => ?_
  unfold semMth at hp
  dsimp only at hp
  split at hp
  · cases rd
    obtain ⟨w, rfl, rw'⟩ := rs.one
    cases rw'
    split at hp
    · rename_i hz
      simp only [Bool.and_eq_true, decide_eq_true_eq] at hz
      exact ⟨_, _, rfl, rfl, beq_eq_false_iff_ne.mpr hz.1, hz.2, fun p hn => hp.newT hs (.cons (.str _) (.cons (.str _) (.cons (.str _) .nil))) hn⟩
    · exact hp.elim
  · exact hp.elim
theorem mm_find1 : MtR X "str.find" (rDM X.K (semMth .find1)) := by
  refine mtI mt_find fun x xs H Q ⟨m, S, d, ds, hs, rd, rs, hp⟩ => ?_
  unfold semMth at hp
  dsimp only at hp
  split at hp
  · cases rd
    obtain ⟨w, rfl, rw'⟩ := rs.one
    cases rw'
    exact ⟨_, _, rfl, rfl, hp.here hs (.int _)⟩
  · exact hp.elim
theorem mm_find2 : MtR X "str.find" (rDM X.K (semMth .find2)) := by
  refine mtI mt_find3 fun x xs H Q ⟨m, S, d, ds, hs, rd, rs, hp⟩ => ?_
  unfold semMth at hp
  dsimp only at hp
  split at hp
  · cases rd
    obtain ⟨v, w, rfl, rv', rw'⟩ := rs.two
    cases rv'; cases rw'
    exact ⟨_, _, _, rfl, rfl, hp.here hs (.int _)⟩
  · exact hp.elim
theorem mm_insert : MtR X "list.insert" (rDM X.K (semMth .insert)) := by
  refine mtI mt_insert fun x xs H Q ⟨m, S, d, ds, hs, rd, rs, hp⟩ => ?_
  unfold semMth at hp
  dsimp only at hp
  split at hp
  · rename_i h1
    obtain ⟨a, vs, rfl, hm, e1, r1⟩ := lstAt_at hs rd h1
    obtain ⟨v, w, rfl, rv', rw'⟩ := rs.two
    cases rv'
    split at hp
    · rename_i hz
      simp only [Bool.and_eq_true, decide_eq_true_eq] at hz
      exact ⟨a, vs, _, w, rfl, rfl, e1, by rw [← r1.length]; exact hz.1.1, hz.1.2, hz.2, hp.wr hs hm (((r1.take _).append (.cons rw' .nil)).append (r1.drop _)) .non⟩
    · exact hp.elim
  · exact hp.elim
theorem mm_ok : ∀ p : Mth, MtR X p.id (rDM X.K (semMth p))
  | .append => mm_append | .extend => mm_extend | .pop0 => mm_pop0 | .pop1 => mm_pop1 | .reverse => mm_reverse | .join => mm_join | .split1 => mm_split1 | .partition => mm_partition | .find1 => mm_find1 | .find2 => mm_find2 | .insert => mm_insert
theorem ty_r {K : PySem.W.Frag} {m : List Addr} {S : Store} {H : Hp} {p : Mth} {d : D} {v : V} (hs : Sim K m S H) (r : RV K m H d v) (h : tyOk p d S = true) : tyV K p.ty v H := by
  unfold tyOk at h
  split at h
  · cases r
    exact eq_of_beq h
  · simp only [Bool.and_eq_true] at h
    obtain ⟨xs, e⟩ := Option.isSome_iff_exists.mp h.2
    obtain ⟨a, vs, rfl, sq, _⟩ := listAt_sq hs r e
    exact .inl ⟨eq_of_beq h.1, vs, sq⟩
/-! ### isinstance -/
inductive Ity where
  | int | bool | str | tuple | list
  deriving DecidableEq
def Ity.nm : Ity → String
  | .int => "int" | .bool => "bool" | .str => "str" | .tuple => "tuple" | .list => "list"
def tyNm (S : Store) : D → Option String
  | .non => some "NoneType" | .bl _ => some "bool" | .int _ => some "int" | .str _ => some "str" | .tup _ => some "tuple"
  | .loc n => match S[n]? with
    | some (.lst _) => some "list"
    | _ => none
  | _ => none
def semIsi (p : Ity) (d : D) (S : Store) : O D := match tyNm S d with
  | some t => match kitB t p.nm with
    | some b => .ok (.bl b) S
    | none => .no
  | none => .no
theorem tyNm_r {K : PySem.W.Frag} {m : List Addr} {S : Store} {H : Hp} {d : D} {v : V} {t : String} (hs : Sim K m S H) (r : RV K m H d v) (h : tyNm S d = some t) : TyX K H v (.type t) := by
  cases r with
  | non => cases h; exact .base .non
  | bl b => cases h; exact .base (.bl _)
  | int i => cases h; exact .base (.int _)
  | str x => cases h; exact .base (.str _)
  | tup h1 _ =>
    cases h
    rcases h1 with (h1 | ⟨o, h1⟩) | ⟨o, its, n, h1, h2, _⟩
    · exact .base (.tup h1)
    · exact .fTuple h1
    · exact .kTuple h1 h2
  | cl _ _ => cases h
  | @loc n a hm =>
    unfold tyNm at h
    dsimp only at h
    split at h
    · rename_i xs e
      cases h
      obtain ⟨a', vs, e1, _, e2, _⟩ := lstAt_at hs (RV.loc hm) (show lstAt S (.loc n) = some (n, xs) by
        show (match S[n]? with | some (.lst xs) => some (n, xs) | _ => none) = _
        rw [e])
      cases e1
      exact .base (.lst e2)
    · cases h
/-- what the method's place is -/
structure MthAt (p : Mth) : Prop where
  pa : PlainAttrs p.ty
  slot : Slot p.ty p.name p.id
  ty : typeOf (.builtin p.id) = pure (.type "method_descriptor")
theorem mth_at : ∀ p : Mth, MthAt p
  | .append => ⟨F.plainAttrs_list, F.slot_list_append, F.type_list_append⟩
  | .extend => ⟨F.plainAttrs_list, F.slot_list_extend, F.type_list_extend⟩
  | .pop0 => ⟨F.plainAttrs_list, F.slot_list_pop, F.type_list_pop⟩
  | .pop1 => ⟨F.plainAttrs_list, F.slot_list_pop, F.type_list_pop⟩
  | .reverse => ⟨F.plainAttrs_list, F.slot_list_reverse, F.type_list_reverse⟩
  | .join => ⟨F.plainAttrs_str, F.slot_str_join, F.type_str_join⟩
  | .split1 => ⟨F.plainAttrs_str, F.slot_str_split, F.type_str_split⟩
  | .partition => ⟨F.plainAttrs_str, F.slot_str_partition, F.type_str_partition⟩
  | .find1 => ⟨F.plainAttrs_str, F.slot_str_find, F.type_str_find⟩
  | .find2 => ⟨F.plainAttrs_str, F.slot_str_find, F.type_str_find⟩
  | .insert => ⟨F.plainAttrs_list, F.slot_list_insert, F.type_list_insert⟩
theorem blt_boot : ∀ p : Blt, bootBuiltins p.name = some p.val
  | .len => by decide +kernel | .abs => by decide +kernel | .max2 => by decide +kernel | .min2 => by decide +kernel | .int1 => by decide +kernel | .str1 => by decide +kernel | .ord1 => by decide +kernel
  | .list1 => by decide +kernel | .tuple1 => by decide +kernel | .all1 => by decide +kernel | .any1 => by decide +kernel | .sum1 => by decide +kernel
end
end Mz

end

section
set_option Elab.async false
set_option linter.all false
set_option maxRecDepth 100000
namespace Mz
open PySem PySem.Spec L2

/-! ### inversions -/
section
variable {K : PySem.W.Frag} {m : List Addr} {H : Hp}
theorem PostE.inv {α : Type} {Q : VK} {o : O α} {k : α → Store → O D} (h : PostE K m H Q (o.bind k)) : ∃ a S, o = .ok a S ∧ PostE K m H Q (k a S) := by
  cases o with | ok a S => exact ⟨a, S, rfl, h⟩ | ex _ _ => exact h.elim | no => exact h.elim
theorem PostT.inv {α : Type} {Q : Bool → Hp → Prop} {o : O α} {k : α → Store → O Bool} (h : PostT K m H Q (o.bind k)) : ∃ a S, o = .ok a S ∧ PostT K m H Q (k a S) := by
  cases o with | ok a S => exact ⟨a, S, rfl, h⟩ | ex _ _ => exact h.elim | no => exact h.elim
theorem PostA.inv {α : Type} {Q : List V → Hp → Prop} {o : O α} {k : α → Store → O (List D)} (h : PostA K m H Q (o.bind k)) : ∃ a S, o = .ok a S ∧ PostA K m H Q (k a S) := by
  cases o with | ok a S => exact ⟨a, S, rfl, h⟩ | ex _ _ => exact h.elim | no => exact h.elim
end
def bindR {α : Type} (o : O α) (k : α → Store → R) : R := match o with
  | .ok a S => k a S
  | .ex x S => .ex x S
  | .no => .no
@[simp] theorem bindR_ok {α : Type} (a : α) (S : Store) (k : α → Store → R) : bindR (O.ok a S) k = k a S := rfl
theorem PostS.inv {K : PySem.W.Frag} {m : List Addr} {H : Hp} {α : Type} {D : Ends} {o : O α} {k : α → Store → R} (h : PostS K m H D (bindR o k)) : ∃ a S, o = .ok a S ∧ PostS K m H D (k a S) := by
  cases o with | ok a S => exact ⟨a, S, rfl, h⟩ | ex _ _ => exact h.elim | no => exact h.elim

/-! ### expressions -/
def eVar (i : Nat) : SE := fun g S => match g[i]? with
  | some (some d) => .ok d S
  | _ => .no
def eCst (d : D) : SE := fun _ S => .ok d S
def eBin (f : D → D → Store → O D) (a b : SE) : SE := fun g S => (a g S).bind fun x S => (b g S).bind fun y S => f x y S
def eUn (f : D → Store → O D) (a : SE) : SE := fun g S => (a g S).bind f
def aNil : SA := fun _ S => .ok [] S
def aCons (a : SE) (r : SA) : SA := fun g S => (a g S).bind fun x S => (r g S).bind fun xs S => .ok (x :: xs) S
def eL (f : List D → Store → O D) (a : SA) : SE := fun g S => (a g S).bind f
def eM (p : Mth) (o : SE) (a : SA) : SE := fun g S => (o g S).bind fun d S => if tyOk p d S = true then (a g S).bind fun ds S => semMth p d ds S else .no
def truD (S : Store) : D → Option Bool
  | .non => some false
  | .bl b => some b
  | .int i => some (i != 0)
  | .str y => if y.length ≤ sizeLine then some ((y.length : Int) != 0) else none
  | d => (seqAt S d).map fun xs => !xs.isEmpty
def eTru (a : SE) : ST := fun g S => (a g S).bind fun d S => match truD S d with
  | some b => .ok b S
  | none => .no
def tAndS (a b : ST) : ST := fun g S => (a g S).bind fun c S => if c = true then b g S else .ok false S
def tOrS (a b : ST) : ST := fun g S => (a g S).bind fun c S => if c = true then .ok true S else b g S
def tNotS (a : ST) : ST := fun g S => (a g S).bind fun c S => .ok (!c) S
def tIfS' (t a b : ST) : ST := fun g S => (t g S).bind fun c S => if c = true then a g S else b g S
def eAnd (a b : SE) : SE := fun g S => (a g S).bind fun d S => match truD S d with
  | some true => b g S
  | some false => .ok d S
  | none => .no
def eOr (a b : SE) : SE := fun g S => (a g S).bind fun d S => match truD S d with
  | some false => b g S
  | some true => .ok d S
  | none => .no
def eNot (a : SE) : SE := fun g S => (a g S).bind fun d S => match truD S d with
  | some b => .ok (.bl (!b)) S
  | none => .no
def eIf (t : ST) (a b : SE) : SE := fun g S => (t g S).bind fun c S => if c = true then a g S else b g S
def eTup (a : SA) : SE := fun g S => (a g S).bind fun xs S => if xs.length ≤ sizeLine then .ok (.tup xs) S else .no
def eLst (a : SA) : SE := fun g S => (a g S).bind fun xs S => if xs.length ≤ sizeLine then alloc xs S else .no
def eNeg (a : SE) : SE := fun g S => (a g S).bind fun d S => match d with
  | .int i => .ok (.int (-i)) S
  | _ => .no
abbrev SO := Sg → Store → O (Option Int)
def oNone : SO := fun _ S => .ok none S
def oSome (a : SE) : SO := fun g S => (a g S).bind fun d S => match d with
  | .int i => .ok (some i) S
  | _ => .no
def eSli (a : SE) (lo hi : SO) : SE := fun g S => (a g S).bind fun d S => (lo g S).bind fun l S => (hi g S).bind fun h S => semSlice d l h S
def eRev (a : SE) : SE := fun g S => (a g S).bind fun d S => match listAt S d with
  | some xs => alloc xs.reverse S
  | none => .no
def eChain (p q : Cop) (a b c : SE) : SE := fun g S => (a g S).bind fun x S => (b g S).bind fun y S => (semCop p x y S).bind fun z S => match z with
  | .bl true => (c g S).bind fun w S => semCop q y w S
  | .bl false => .ok (.bl false) S
  | _ => .no
def fmtD (d : D) (S : Store) : O D := match d with
  | .str y => if y.length ≤ sizeLine then .ok (.str y) S else .no
  | .int i => if i.natAbs.log2 < 1920 then .ok (.str (toString i)) S else .no
  | _ => .no
/-- f'..': the texts one behind the other -/
def glueL : List D → Str → Option Str
  | [], acc => some acc
  | .str y :: r, acc => if (acc ++ y).length ≤ sizeLine then glueL r (acc ++ y) else none
  | _ :: _, _ => none
def jNil : Str → SE := fun acc _ S => .ok (.str acc) S
def jCons (a : SE) (r : Str → SE) : Str → SE := fun acc g S => (a g S).bind fun d S => match d with
  | .str y => if (acc ++ y).length ≤ sizeLine then r (acc ++ y) g S else .no
  | _ => .no

theorem tru_r {K : PySem.W.Frag} {m : List Addr} {S : Store} {H : Hp} {d : D} {v : V} {b : Bool} (hs : Sim K m S H) (r : RV K m H d v) (h : truD S d = some b) : TruV K v H b := by
  unfold truD at h
  split at h
  · cases r; exact (Option.some.inj h).symm
  · cases r; exact (Option.some.inj h).symm
  · cases r; exact (Option.some.inj h).symm
  · cases r
    split at h
    · rename_i hz
      exact ⟨hz, (Option.some.inj h).symm⟩
    · cases h
  · rename_i h1 h2 h3 h4
    cases e : seqAt S d with
    | none => rw [e] at h; cases h
    | some xs =>
      rw [e] at h
      obtain ⟨a, vs, rfl, sq, r'⟩ := seqAt_sq hs r e
      have hb : b = !vs.isEmpty := by
        rw [← Option.some.inj h]
        cases r' <;> rfl
      rcases sq with sq | sq
      · exact .inl ⟨vs, sq, hb⟩
      · exact .inr (.inl ⟨vs, sq, hb⟩)

section
variable {X : Cx} {a b c : Expr} {fa fb fc : SE} {pos : Pos}
theorem me_var {i : Nat} {x : Str} (hN : X.N[i]? = some x) (hv : Vis X.env.scope x) (hd : (x == ("__debug__" : Str)) = false) (hcd : (x == ("__classdict__" : Str)) = false) : PE X (.Name x pos) (tD X.K (eVar i)) := by
  refine peI (pe_var hN hv hd hcd) fun σ H Q ⟨m, S, g, hs, hr, hp⟩ => ?_
  unfold eVar at hp
  split at hp
  · rename_i d h
    obtain ⟨v, e, r⟩ := hr.2 i d h
    exact ⟨v, e, hp.here hs r⟩
  · exact hp.elim
theorem me_cst {d : D} {v : V} {e : Expr} (h : PE X e (tC v)) (r : ∀ m H, RV X.K m H d v) : PE X e (tD X.K (eCst d)) :=
  peI h fun σ H Q ⟨m, S, g, hs, hr, hp⟩ => hp.here hs (r m H)
theorem me_bin {op : Operator} {f : D → D → Store → O D} (ho : OpR X (binaryOp op) (rD2 X.K f)) (ha : PE X a (tD X.K fa)) (hb : PE X b (tD X.K fb)) : PE X (.BinOp a op b pos) (tD X.K (eBin f fa fb)) := by
  refine peI (pe_op ho ha hb) fun σ H Q ⟨m, S, g, hs, hr, hp⟩ => ?_
  obtain ⟨x, S1, e1, hp⟩ := hp.inv
  obtain ⟨y, S2, e2, hp⟩ := hp.inv
  refine ⟨m, S, g, hs, hr, ?_⟩
  rw [e1]
  intro v1 m1 H1 x1 s1 r1
  refine ⟨m1, S1, g, s1, hr.ext hs x1, ?_⟩
  rw [e2]
  intro v2 m2 H2 x2 s2 r2
  exact ⟨m2, S2, x, y, s2, r1.ext s1 x2, r2, hp.weak (x1.trans x2)⟩
theorem me_cmp {op : CmpOp} {f : D → D → Store → O D} (ho : OpR X (compareOp op) (rD2 X.K f)) (ha : PE X a (tD X.K fa)) (hb : PE X b (tD X.K fb)) (hm : behindInMarks op b = false) : PE X (.Compare a [op] [b] pos) (tD X.K (eBin f fa fb)) := by
  refine peI (pe_cmpR ho ha hb hm) fun σ H Q ⟨m, S, g, hs, hr, hp⟩ => ?_
  obtain ⟨x, S1, e1, hp⟩ := hp.inv
  obtain ⟨y, S2, e2, hp⟩ := hp.inv
  refine ⟨m, S, g, hs, hr, ?_⟩
  rw [e1]
  intro v1 m1 H1 x1 s1 r1
  refine ⟨m1, S1, g, s1, hr.ext hs x1, ?_⟩
  rw [e2]
  intro v2 m2 H2 x2 s2 r2
  exact ⟨m2, S2, x, y, s2, r1.ext s1 x2, r2, hp.weak (x1.trans x2)⟩
/-- from a truth's post to a bool value's -/
theorem mt_cmp' {op : CmpOp} {f : D → D → Store → O D} (hbl : ∀ x y S d S', f x y S = .ok d S' → ∃ b, d = .bl b) (ho : OpR X (compareOp op) (rD2 X.K f)) (ha : PE X a (tD X.K fa)) (hb : PE X b (tD X.K fb)) (hm : behindInMarks op b = false) : PT X (.Compare a [op] [b] pos) (tDT X.K (eTru (eBin f fa fb))) := by
  refine ptI (pt_cmpR ho ha hb hm) fun σ H Q ⟨m, S, g, hs, hr, hp⟩ => ?_
  obtain ⟨z, S3, e, hp⟩ := hp.inv
  obtain ⟨b, rfl⟩ : ∃ b, z = .bl b := by
    unfold eBin at e
    cases e1 : fa g S with
    | ok x S1 =>
      rw [e1, O.bind_ok] at e
      cases e2 : fb g S1 with
      | ok y S2 => rw [e2, O.bind_ok] at e; exact hbl _ _ _ _ _ e
      | ex _ _ => rw [e2] at e; cases e
      | no => rw [e2] at e; cases e
    | ex _ _ => rw [e1] at e; cases e
    | no => rw [e1] at e; cases e
  have hp' : PostE X.K m H (fun v H' => ∃ k, v = .bl k ∧ Q k H') (eBin f fa fb g S) := by
    rw [e]
    intro v m' H' x' s' r'
    cases r'
    exact ⟨b, rfl, hp m' H' x' s'⟩
  obtain ⟨x, S1, e1, hp⟩ := hp'.inv
  obtain ⟨y, S2, e2, hp⟩ := hp.inv
  refine ⟨m, S, g, hs, hr, ?_⟩
  rw [e1]
  intro v1 m1 H1 x1 s1 r1
  refine ⟨m1, S1, g, s1, hr.ext hs x1, ?_⟩
  rw [e2]
  intro v2 m2 H2 x2 s2 r2
  exact ⟨m2, S2, x, y, s2, r1.ext s1 x2, r2, hp.weak (x1.trans x2)⟩
theorem semCop_bl (p : Cop) : ∀ x y S d S', semCop p x y S = .ok d S' → ∃ b, d = .bl b := by
  intro x y S d S' h
  unfold semCop at h
  split at h <;> (split at h <;> first | (cases h; exact ⟨_, rfl⟩) | cases h)
theorem me_truth (ha : PE X a (tD X.K fa)) (he : ∀ whole, isTrue a X.env whole = (do let v ← whole; standAt a.pos; holding [v] (truthy v))) : PT X a (tDT X.K (eTru fa)) := by
  refine ptI (pt_truth ha he) fun σ H Q ⟨m, S, g, hs, hr, hp⟩ => ?_
  obtain ⟨d, S1, e, hp⟩ := hp.inv
  refine ⟨m, S, g, hs, hr, ?_⟩
  rw [e]
  intro v m1 H1 x1 s1 r1
  split at hp
  · rename_i b h
    exact ⟨b, tru_r s1 r1 h, hp m1 H1 x1 s1⟩
  · exact hp.elim
theorem me_notV (ha : PE X a (tD X.K fa)) : PE X (.UnaryOp .Not a pos) (tD X.K (eNot fa)) := by
  refine peI (pe_notT ha) fun σ H Q ⟨m, S, g, hs, hr, hp⟩ => ?_
  obtain ⟨d, S1, e, hp⟩ := hp.inv
  refine ⟨m, S, g, hs, hr, ?_⟩
  rw [e]
  intro v m1 H1 x1 s1 r1
  split at hp
  · rename_i b h
    exact ⟨b, tru_r s1 r1 h, hp _ m1 H1 x1 s1 (.bl _)⟩
  · exact hp.elim
theorem me_neg (ha : PE X a (tD X.K fa)) : PE X (.UnaryOp .USub a pos) (tD X.K (eNeg fa)) := by
  refine peI (pe_un un_neg ha) fun σ H Q ⟨m, S, g, hs, hr, hp⟩ => ?_
  obtain ⟨d, S1, e, hp⟩ := hp.inv
  refine ⟨m, S, g, hs, hr, ?_⟩
  rw [e]
  intro v m1 H1 x1 s1 r1
  split at hp
  · cases r1
    exact ⟨_, rfl, hp _ m1 H1 x1 s1 (.int _)⟩
  · exact hp.elim
variable {ta tb : ST} {rest : List Expr}
theorem tdt_and {σ : L2.St} {H : Hp} {Q : Bool → Hp → Prop} (h : tDT X.K (tAndS ta tb) σ H Q) : tAnd (tDT X.K ta) (tDT X.K tb) σ H Q := by
  obtain ⟨m, S, g, hs, hr, hp⟩ := h
  obtain ⟨c, S1, e, hp⟩ := hp.inv
  refine ⟨m, S, g, hs, hr, ?_⟩
  rw [e]
  intro m1 H1 x1 s1
  cases c with
  | true => rw [if_pos rfl] at hp ⊢; exact ⟨m1, S1, g, s1, hr.ext hs x1, hp.weak x1⟩
  | false => rw [if_neg Bool.false_ne_true] at hp ⊢; exact hp m1 H1 x1 s1
theorem tdt_or {σ : L2.St} {H : Hp} {Q : Bool → Hp → Prop} (h : tDT X.K (tOrS ta tb) σ H Q) : tOr (tDT X.K ta) (tDT X.K tb) σ H Q := by
  obtain ⟨m, S, g, hs, hr, hp⟩ := h
  obtain ⟨c, S1, e, hp⟩ := hp.inv
  refine ⟨m, S, g, hs, hr, ?_⟩
  rw [e]
  intro m1 H1 x1 s1
  cases c with
  | true => rw [if_pos rfl] at hp ⊢; exact hp m1 H1 x1 s1
  | false => rw [if_neg Bool.false_ne_true] at hp ⊢; exact ⟨m1, S1, g, s1, hr.ext hs x1, hp.weak x1⟩
theorem mw_and (ha : PT X a (tDT X.K ta)) (hb : PW X (.BoolOp .And (b :: rest) pos) (tDT X.K tb)) : PW X (.BoolOp .And (a :: b :: rest) pos) (tDT X.K (tAndS ta tb)) := pwI (pw_and ha hb) fun _ _ _ h => tdt_and h
theorem mw_or (ha : PT X a (tDT X.K ta)) (hb : PW X (.BoolOp .Or (b :: rest) pos) (tDT X.K tb)) : PW X (.BoolOp .Or (a :: b :: rest) pos) (tDT X.K (tOrS ta tb)) := pwI (pw_or ha hb) fun _ _ _ h => tdt_or h
theorem mt_not (ha : PT X a (tDT X.K ta)) : PT X (.UnaryOp .Not a pos) (tDT X.K (tNotS ta)) := by
  refine ptI (pt_not ha) fun σ H Q ⟨m, S, g, hs, hr, hp⟩ => ?_
  obtain ⟨c, S1, e, hp⟩ := hp.inv
  refine ⟨m, S, g, hs, hr, ?_⟩
  rw [e]
  exact fun m1 H1 x1 s1 => hp m1 H1 x1 s1
theorem me_and (ha : PE X a (tD X.K fa)) (hb : PE X (.BoolOp .And (b :: rest) pos) (tD X.K fb)) : PE X (.BoolOp .And (a :: b :: rest) pos) (tD X.K (eAnd fa fb)) := by
  refine peI (pe_andT ha hb) fun σ H Q ⟨m, S, g, hs, hr, hp⟩ => ?_
  obtain ⟨d, S1, e, hp⟩ := hp.inv
  refine ⟨m, S, g, hs, hr, ?_⟩
  rw [e]
  intro v m1 H1 x1 s1 r1
  split at hp
  · rename_i h
    exact ⟨true, tru_r s1 r1 h, iteT ⟨m1, S1, g, s1, hr.ext hs x1, hp.weak x1⟩⟩
  · rename_i h
    exact ⟨false, tru_r s1 r1 h, iteF (hp _ m1 H1 x1 s1 r1)⟩
  · exact hp.elim
theorem me_or (ha : PE X a (tD X.K fa)) (hb : PE X (.BoolOp .Or (b :: rest) pos) (tD X.K fb)) : PE X (.BoolOp .Or (a :: b :: rest) pos) (tD X.K (eOr fa fb)) := by
  refine peI (pe_orT ha hb) fun σ H Q ⟨m, S, g, hs, hr, hp⟩ => ?_
  obtain ⟨d, S1, e, hp⟩ := hp.inv
  refine ⟨m, S, g, hs, hr, ?_⟩
  rw [e]
  intro v m1 H1 x1 s1 r1
  split at hp
  · rename_i h
    exact ⟨false, tru_r s1 r1 h, iteF ⟨m1, S1, g, s1, hr.ext hs x1, hp.weak x1⟩⟩
  · rename_i h
    exact ⟨true, tru_r s1 r1 h, iteT (hp _ m1 H1 x1 s1 r1)⟩
  · exact hp.elim
theorem me_if (hc : PT X c (tDT X.K ta)) (ha : PE X a (tD X.K fa)) (hb : PE X b (tD X.K fb)) : PE X (.IfExp c a b pos) (tD X.K (eIf ta fa fb)) := by
  refine peI (pe_ifExp hc ha hb) fun σ H Q ⟨m, S, g, hs, hr, hp⟩ => ?_
  obtain ⟨d, S1, e, hp⟩ := hp.inv
  refine ⟨m, S, g, hs, hr, ?_⟩
  rw [e]
  intro m1 H1 x1 s1
  cases d with
  | true => rw [if_pos rfl] at hp ⊢; exact ⟨m1, S1, g, s1, hr.ext hs x1, hp.weak x1⟩
  | false => rw [if_neg Bool.false_ne_true] at hp ⊢; exact ⟨m1, S1, g, s1, hr.ext hs x1, hp.weak x1⟩
theorem ma_nil : PA X [] (tDA X.K aNil) := paI pa_nil fun σ H Q ⟨m, S, g, hs, hr, hp⟩ => hp [] m H Ext.refl hs .nil
theorem ma_cons {es : List Expr} {fr : SA} (ha : PE X a (tD X.K fa)) (hr : PA X es (tDA X.K fr)) (hst : starEach (a :: es) X.env = (false, eval a X.env) :: starEach es X.env) : PA X (a :: es) (tDA X.K (aCons fa fr)) := by
  refine paI (pa_cons ha hr hst) fun σ H Q ⟨m, S, g, hs, hr, hp⟩ => ?_
  obtain ⟨x, S1, e1, hp⟩ := hp.inv
  obtain ⟨xs, S2, e2, hp⟩ := hp.inv
  refine ⟨m, S, g, hs, hr, ?_⟩
  rw [e1]
  intro v1 m1 H1 x1 s1 r1
  refine ⟨m1, S1, g, s1, hr.ext hs x1, ?_⟩
  rw [e2]
  intro v2 m2 H2 x2 s2 r2
  exact hp _ m2 H2 (x1.trans x2) s2 (.cons (r1.ext s1 x2) r2)
variable {es : List Expr} {fr : SA}
theorem me_tup {k : Nat} (h : PA X es (tDA X.K fr)) : PE X (.Tuple es k pos) (tD X.K (eTup fr)) := by
  refine peI (pe_tup h) fun σ H Q ⟨m, S, g, hs, hr, hp⟩ => ?_
  obtain ⟨xs, S1, e1, hp⟩ := hp.inv
  refine ⟨m, S, g, hs, hr, ?_⟩
  rw [e1]
  intro vs m1 H1 x1 s1 r1
  split at hp
  · rename_i hz
    exact ⟨by rw [← r1.length]; exact hz, fun p hn => (hp.weak x1).newT s1 r1 hn⟩
  · exact hp.elim
theorem me_lst (h : PA X es (tDA X.K fr)) : PE X (.List es pos) (tD X.K (eLst fr)) := by
  refine peI (pe_lst h) fun σ H Q ⟨m, S, g, hs, hr, hp⟩ => ?_
  obtain ⟨xs, S1, e1, hp⟩ := hp.inv
  refine ⟨m, S, g, hs, hr, ?_⟩
  rw [e1]
  intro vs m1 H1 x1 s1 r1
  split at hp
  · rename_i hz
    exact ⟨by rw [← r1.length]; exact hz, fun p hn => (hp.weak x1).newL s1 r1 hn⟩
  · exact hp.elim
theorem me_item (ha : PE X a (tD X.K fa)) (hb : PE X b (tD X.K fb)) (hs : PlainIx b) : PE X (.Subscript a b pos) (tD X.K (eBin semItem fa fb)) := by
  refine peI (pe_ix oi_item ha hb hs) fun σ H Q ⟨m, S, g, hs, hr, hp⟩ => ?_
  obtain ⟨x, S1, e1, hp⟩ := hp.inv
  obtain ⟨y, S2, e2, hp⟩ := hp.inv
  refine ⟨m, S, g, hs, hr, ?_⟩
  rw [e1]
  intro v1 m1 H1 x1 s1 r1
  refine ⟨m1, S1, g, s1, hr.ext hs x1, ?_⟩
  rw [e2]
  intro v2 m2 H2 x2 s2 r2
  exact ⟨m2, S2, x, y, s2, r1.ext s1 x2, r2, hp.weak (x1.trans x2)⟩
/-- optional parts -/
def tDO (K : PySem.W.Frag) (f : SO) : TO := fun σ H Q => ∃ m S g, Sim K m S H ∧ RVo K m H g σ ∧ match f g S with
  | .ok o S' => ∀ m' H', Ext m H m' H' → Sim K m' S' H' → Q o H'
  | _ => False
theorem poI {X : Cx} {e : Option Expr} {t t' : TO} (h : PO X e t) (i : ∀ σ H Q, t' σ H Q → t σ H Q) : PO X e t' := ⟨fun pins s σ H Q I q => h.run pins s σ H Q I (i σ H Q q)⟩
theorem mo_none : PO X none (tDO X.K oNone) := poI po_none fun σ H Q ⟨m, S, g, hs, hr, hp⟩ => hp m H Ext.refl hs
theorem mo_some (ha : PE X a (tD X.K fa)) : PO X (some a) (tDO X.K (oSome fa)) := by
  refine poI (po_some ha) fun σ H Q ⟨m, S, g, hs, hr, hp⟩ => ?_
  unfold oSome at hp
  cases e : fa g S with
  | ok d S1 =>
    rw [e, O.bind_ok] at hp
    refine ⟨m, S, g, hs, hr, ?_⟩
    rw [e]
    intro v m1 H1 x1 s1 r1
    cases d with
    | int i => cases r1; exact ⟨i, rfl, hp m1 H1 x1 s1⟩
    | _ => exact hp.elim
  | ex _ _ => rw [e] at hp; exact hp.elim
  | no => rw [e] at hp; exact hp.elim
theorem me_sli {lo hi : Option Expr} {fl fh : SO} {p2 : Pos} (ha : PE X a (tD X.K fa)) (hl : PO X lo (tDO X.K fl)) (hh : PO X hi (tDO X.K fh)) : PE X (.Subscript a (.Slice lo hi none p2) pos) (tD X.K (eSli fa fl fh)) := by
  refine peI (pe_slice os_slice ha hl hh) fun σ H Q ⟨m, S, g, hs, hr, hp⟩ => ?_
  obtain ⟨x, S1, e1, hp⟩ := hp.inv
  obtain ⟨y, S2, e2, hp⟩ := hp.inv
  obtain ⟨z, S3, e3, hp⟩ := hp.inv
  refine ⟨m, S, g, hs, hr, ?_⟩
  rw [e1]
  intro v1 m1 H1 x1 s1 r1
  refine ⟨m1, S1, g, s1, hr.ext hs x1, ?_⟩
  rw [e2]
  intro m2 H2 x2 s2
  refine ⟨m2, S2, g, s2, hr.ext hs (x1.trans x2), ?_⟩
  rw [e3]
  intro m3 H3 x3 s3
  exact ⟨m3, S3, x, s3, r1.ext s1 (x2.trans x3), hp.weak ((x1.trans x2).trans x3)⟩
theorem me_rev {k : Nat} {p1 p2 p3 : Pos} (ha : PE X a (tD X.K fa)) : PE X (.Subscript a (.Slice none none (some (.UnaryOp .USub (.Constant (.int 1) k p1) p2)) p3) pos) (tD X.K (eRev fa)) := by
  refine peI (pe_revL ha) fun σ H Q ⟨m, S, g, hs, hr, hp⟩ => ?_
  obtain ⟨x, S1, e1, hp⟩ := hp.inv
  refine ⟨m, S, g, hs, hr, ?_⟩
  rw [e1]
  intro v1 m1 H1 x1 s1 r1
  split at hp
  · rename_i h
    obtain ⟨p, vs, rfl, sq, r⟩ := listAt_sq s1 r1 h
    exact ⟨p, vs, rfl, sq, fun q hn => (hp.weak x1).newL s1 r.reverse hn⟩
  · exact hp.elim
theorem me_chain {p q : Cop} {k : Nat} (hr : Room k X.A) (ha : PE X a (tD X.K fa)) (hb : PE X b (tD X.K fb)) (hc : PE X c (tD X.K fc)) (h : PE X (.Compare a [p.op, q.op] [b, c] pos) (tChain (rD2 X.K (semCop p)) (rD2 X.K (semCop q)) (tD X.K fa) (tD X.K fb) (tD X.K fc))) :
    PE X (.Compare a [p.op, q.op] [b, c] pos) (tD X.K (eChain p q fa fb fc)) := by
  refine peI h fun σ H Q ⟨m, S, g, hs, hr, hp⟩ => ?_
  obtain ⟨x, S1, e1, hp⟩ := hp.inv
  obtain ⟨y, S2, e2, hp⟩ := hp.inv
  obtain ⟨z, S3, e3, hp⟩ := hp.inv
  refine ⟨m, S, g, hs, hr, ?_⟩
  rw [e1]
  intro v1 m1 H1 x1 s1 r1
  refine ⟨m1, S1, g, s1, hr.ext hs x1, ?_⟩
  rw [e2]
  intro v2 m2 H2 x2 s2 r2
  refine ⟨m2, S2, x, y, s2, r1.ext s1 x2, r2, ?_⟩
  rw [e3]
  intro v3 m3 H3 x3 s3 r3
  split at hp
  · cases r3
    refine ⟨true, rfl, iteT ⟨m3, S3, g, s3, hr.ext hs ((x1.trans x2).trans x3), ?_⟩⟩
    obtain ⟨w, S4, e4, hp⟩ := hp.inv
    rw [e4]
    intro v4 m4 H4 x4 s4 r4
    exact ⟨m4, S4, y, w, s4, r2.ext s2 (x3.trans x4), r4, hp.weak (((x1.trans x2).trans x3).trans x4)⟩
  · cases r3
    exact ⟨false, rfl, iteF (hp _ m3 H3 ((x1.trans x2).trans x3) s3 (.bl _))⟩
  · exact hp.elim
theorem me_blt {p : Blt} {e : Expr} {q : Pos} (hc : X.calm = true) (hg : Gl X p.name) (hm : X.mg p.name = none) (ha : PA X (e :: es) (tDA X.K fr)) (h : PE X (.Call (.Name p.name q) (e :: es) [] pos) (tCB (rDL X.K (semBlt p)) (tDA X.K fr))) :
    PE X (.Call (.Name p.name q) (e :: es) [] pos) (tD X.K (eL (semBlt p) fr)) := by
  refine peI h fun σ H Q ⟨m, S, g, hs, hr, hp⟩ => ?_
  obtain ⟨x, S1, e1, hp⟩ := hp.inv
  refine ⟨m, S, g, hs, hr, ?_⟩
  rw [e1]
  intro v1 m1 H1 x1 s1 r1
  exact ⟨m1, S1, x, s1, r1, hp.weak x1⟩
theorem me_mth {p : Mth} {o : Expr} {fo : SE} {e : Expr} {q : Pos} (h : PE X (.Call (.Attribute o p.name q) (e :: es) [] pos) (tBM X.K p.ty (rDM X.K (semMth p)) (tD X.K fo) (tDA X.K fr))) :
    PE X (.Call (.Attribute o p.name q) (e :: es) [] pos) (tD X.K (eM p fo fr)) := by
  refine peI h fun σ H Q ⟨m, S, g, hs, hr, hp⟩ => ?_
  obtain ⟨x, S1, e1, hp⟩ := hp.inv
  refine ⟨m, S, g, hs, hr, ?_⟩
  rw [e1]
  intro v1 m1 H1 x1 s1 r1
  split at hp
  · rename_i ht
    obtain ⟨y, S2, e2, hp⟩ := hp.inv
    refine ⟨ty_r s1 r1 ht, m1, S1, g, s1, hr.ext hs x1, ?_⟩
    rw [e2]
    intro v2 m2 H2 x2 s2 r2
    exact ⟨m2, S2, x, y, s2, r1.ext s1 x2, r2, hp.weak (x1.trans x2)⟩
  · exact hp.elim
theorem me_mth0 {p : Mth} {o : Expr} {fo : SE} {q : Pos} (h : PE X (.Call (.Attribute o p.name q) [] [] pos) (tBM0 X.K p.ty (rDM X.K (semMth p)) (tD X.K fo))) :
    PE X (.Call (.Attribute o p.name q) [] [] pos) (tD X.K (eM p fo aNil)) := by
  refine peI h fun σ H Q ⟨m, S, g, hs, hr, hp⟩ => ?_
  obtain ⟨x, S1, e1, hp⟩ := hp.inv
  refine ⟨m, S, g, hs, hr, ?_⟩
  rw [e1]
  intro v1 m1 H1 x1 s1 r1
  split at hp
  · rename_i ht
    obtain ⟨y, S2, e2, hp⟩ := hp.inv
    cases e2
    exact ⟨ty_r s1 r1 ht, m1, S1, x, [], s1, r1, .nil, hp.weak x1⟩
  · exact hp.elim
/-- a def's promise -/
def spD (K : PySem.W.Frag) (n : Nat) (f : List D → Store → O D) : Sp := fun vs H Q _ => vs.length = n ∧ rDL K f vs H Q
theorem me_call {sp : Sp} {f : List D → Store → O D} {x : Str} {q : Pos} (h : PE X (.Call (.Name x q) es [] pos) (tCall (spD X.K es.length f) [] E0 (tDA X.K fr))) (hl : ∀ g S ds S', fr g S = .ok ds S' → ds.length = es.length) :
    PE X (.Call (.Name x q) es [] pos) (tD X.K (eL f fr)) := by
  refine peI h fun σ H Q ⟨m, S, g, hs, hr, hp⟩ => ?_
  obtain ⟨ds, S1, e1, hp⟩ := hp.inv
  refine ⟨m, S, g, hs, hr, ?_⟩
  rw [e1]
  intro v1 m1 H1 x1 s1 r1
  rw [List.append_nil]
  exact ⟨by rw [← r1.length]; exact hl _ _ _ _ e1, m1, S1, ds, s1, r1, hp.weak x1⟩
theorem me_fmt (ha : PE X a (tD X.K fa)) : PE X (.FormattedValue a (-1) none pos) (tD X.K (eUn fmtD fa)) := by
  refine peI (pe_fmt ha) fun σ H Q ⟨m, S, g, hs, hr, hp⟩ => ?_
  obtain ⟨x, S1, e1, hp⟩ := hp.inv
  refine ⟨m, S, g, hs, hr, ?_⟩
  rw [e1]
  intro v1 m1 H1 x1 s1 r1
  unfold fmtD at hp
  split at hp
  · cases r1
    split at hp
    · rename_i hz
      exact .inl ⟨_, rfl, hz, hp _ m1 H1 x1 s1 (.str _)⟩
    · exact hp.elim
  · cases r1
    split at hp
    · rename_i hz
      exact .inr ⟨_, rfl, hz, hp _ m1 H1 x1 s1 (.str _)⟩
    · exact hp.elim
  · exact hp.elim
theorem me_isi {p : Ity} {q q2 : Pos} {a : Expr} {fa : SE} {z : Str} (hg : Gl X "isinstance") (hm : X.mg "isinstance" = none) (ha : PE X a (tD X.K fa)) (hz : PE X (.Name z q2) (tC (.ty p.nm))) (s1 : starEach [a, .Name z q2] X.env = (false, eval a X.env) :: starEach [.Name z q2] X.env) :
    PE X (.Call (.Name "isinstance" q) [a, .Name z q2] [] pos) (tD X.K (eUn (semIsi p) fa)) := by
  refine peI (pe_callB call_isi hg hm (by decide +kernel) (pa_cons ha (pa_cons hz pa_nil) s1) (by decide +kernel) (by decide +kernel) s1 (by rfl)) fun σ H Q ⟨m, S, g, hs, hr, hp⟩ => ?_
  obtain ⟨x, S1, e1, hp⟩ := hp.inv
  refine ⟨m, S, g, hs, hr, ?_⟩
  rw [e1]
  intro v1 m1 H1 x1 s1 r1
  unfold semIsi at hp
  split at hp
  · rename_i t ht
    split at hp
    · rename_i b hb
      exact ⟨_, _, _, _, b, rfl, .ty _, tyNm_r s1 r1 ht, kit_ty hb, hp _ m1 H1 x1 s1 (.bl _)⟩
    · exact hp.elim
  · exact hp.elim
theorem js_nil {acc : Str} {σ : L2.St} {H : Hp} {Q : VK} (h : tD X.K (jNil acc) σ H Q) : tJs [] acc σ H fun out H1 => Q (.str out) H1 := by
  obtain ⟨m, S, g, hs, hr, hp⟩ := h
  exact hp.here hs (.str _)
theorem js_cons {ts : List TE} {fr : Str → SE} (ih : ∀ acc σ H Q, tD X.K (fr acc) σ H Q → tJs ts acc σ H fun out H1 => Q (.str out) H1) {acc : Str} {σ : L2.St} {H : Hp} {Q : VK} (h : tD X.K (jCons fa fr acc) σ H Q) :
    tJs (tD X.K fa :: ts) acc σ H fun out H1 => Q (.str out) H1 := by
  obtain ⟨m, S, g, hs, hr, hp⟩ := h
  obtain ⟨x, S1, e1, hp⟩ := hp.inv
  refine ⟨m, S, g, hs, hr, ?_⟩
  rw [e1]
  intro v1 m1 H1 x1 s1 r1
  split at hp
  · cases r1
    split at hp
    · rename_i hz
      exact ⟨_, rfl, hz, ih _ _ _ _ ⟨m1, S1, g, s1, hr.ext hs x1, hp.weak x1⟩⟩
    · exact hp.elim
  · exact hp.elim
end
end Mz

end

section
set_option Elab.async false
set_option linter.all false
set_option maxRecDepth 100000
namespace Mz
open PySem PySem.Spec L2

/-! ### targets -/
abbrev SGs := List D → Sg → Store → O Sg
def gVar (i : Nat) : SG := fun d g S => .ok (g.set i (some d)) S
def gsNil : SGs := fun ds g S => match ds with
  | [] => .ok g S
  | _ => .no
def gsCons (a : SG) (r : SGs) : SGs := fun ds g S => match ds with
  | d :: ds => (a d g S).bind fun g S => r ds g S
  | [] => .no
def gTupD (r : SGs) : SG := fun d g S => match d with
  | .tup xs => r xs g S
  | _ => .no
def setAt (o i v : D) (S : Store) : O Unit := match lstAt S o, i with
  | some (n, xs), .int k => match ixN xs.length k with
    | some j => .ok () (S.set n (.lst (xs.set j v)))
    | none => .no
  | _, _ => .no
def gSubD (o i : SE) : SG := fun d g S => (o g S).bind fun x S => (i g S).bind fun y S => (setAt x y d S).bind fun _ S => .ok g S
def tDGs (K : PySem.W.Frag) (is : List Nat) (f : SGs) : TGs := fun vs σ H Q => ∃ m S g ds, Sim K m S H ∧ RVo K m H g σ ∧ RVs K m H ds vs ∧ PostG K is σ m H Q (f ds g S)
theorem PostG.inv {K : PySem.W.Frag} {is : List Nat} {σ₀ : L2.St} {m : List Addr} {H : Hp} {α : Type} {Q : L2.St → Hp → Prop} {o : O α} {k : α → Store → O Sg} (h : PostG K is σ₀ m H Q (o.bind k)) : ∃ a S, o = .ok a S ∧ PostG K is σ₀ m H Q (k a S) := by
  cases o with | ok a S => exact ⟨a, S, rfl, h⟩ | ex _ _ => exact h.elim | no => exact h.elim
theorem wipe_set {σ : L2.St} {i : Nat} {x : Option V} : ∀ {vs : List Nat}, i ∈ vs → L2.wipe (σ.set i x) vs = L2.wipe σ vs
  | [], h => by cases h
  | v :: vs, h => by
    by_cases hv : i ∈ vs
    · unfold L2.wipe
      rw [wipe_set hv]
    · have e : i = v := by
        rcases List.mem_cons.mp h with e | e
        · exact e
        · exact absurd e hv
      subst e
      unfold L2.wipe
      have comm : ∀ (ws : List Nat), i ∉ ws → L2.wipe (σ.set i x) ws = (L2.wipe σ ws).set i x := by
        intro ws
        induction ws with
        | nil => intro _; rfl
        | cons w ws ih =>
          intro hn
          have h1 : i ≠ w := fun z => hn (by rw [z]; exact List.mem_cons_self)
          have h2 : i ∉ ws := fun z => hn (List.mem_cons_of_mem _ z)
          unfold L2.wipe
          rw [ih h2, List.set_comm _ _ h1]
      rw [comm vs hv, List.set_set]
section
variable {X : Cx} {pos : Pos}
theorem mg_var {i : Nat} {x : Str} (hN : X.N.Nodup) (hi : X.N[i]? = some x) (hx : Loc X.env.scope x) (hf : X.fn x = true ∨ X.env.scope.names.lookup x = some .local) : PG X (.Name x pos) (tDG X.K [i] (gVar i)) := by
  refine pgI (pg_name hN hi hx hf) fun v σ H Q ⟨m, S, g, d, hs, hr, rd, hp⟩ => ?_
  exact hp _ m H Ext.refl hs (hr.set rd i) fun vs hv => wipe_set (hv i (by simp))
theorem pgsI {es : List Expr} {t t' : TGs} (h : PGs X es t) (i : ∀ v σ H Q, t' v σ H Q → t v σ H Q) : PGs X es t' := ⟨fun pins s σ H v u Q I r q => h.run pins s σ H v u Q I r (i v σ H Q q)⟩
theorem mgs_nil : PGs X [] (tDGs X.K [] gsNil) := by
  refine pgsI pgs_nil fun vs σ H Q ⟨m, S, g, ds, hs, hr, rs, hp⟩ => ?_
  cases rs with
  | nil => exact ⟨rfl, hp _ m H Ext.refl hs hr fun _ _ => rfl⟩
  | cons _ _ => exact hp.elim
theorem mgs_cons {e : Expr} {es : List Expr} {is js : List Nat} {f : SG} {r : SGs} (h1 : PG X e (tDG X.K is f)) (h2 : PGs X es (tDGs X.K js r))
    (hs : (assignEach (e :: es) X.env).map (·.2) = assign e X.env :: (assignEach es X.env).map (·.2)) : PGs X (e :: es) (tDGs X.K (is ++ js) (gsCons f r)) := by
  refine pgsI (pgs_cons h1 h2 hs) fun vs σ H Q ⟨m, S, g, ds, hs, hr, rs, hp⟩ => ?_
  cases rs with
  | nil => exact hp.elim
  | @cons d v ds vs rd rr =>
    have hp : PostG X.K (is ++ js) σ m H Q ((f d g S).bind fun g S => r ds g S) := hp
    obtain ⟨g1, S1, e1, hp⟩ := hp.inv
    refine ⟨v, vs, rfl, m, S, g, d, hs, hr, rd, ?_⟩
    rw [e1]
    intro σ1 m1 H1 x1 s1 r1 w1
    refine ⟨m1, S1, g1, ds, s1, r1, rr.ext hs x1, ?_⟩
    have hp := hp.weak x1
    cases e2 : r ds g1 S1 with
    | ok g2 S2 =>
      rw [e2] at hp
      intro σ2 m2 H2 x2 s2 r2 w2
      exact hp σ2 m2 H2 x2 s2 r2 fun vs hv => (w2 vs fun i hi => hv i (List.mem_append_right _ hi)).trans (w1 vs fun i hi => hv i (List.mem_append_left _ hi))
    | ex _ _ => rw [e2] at hp; exact hp.elim
    | no => rw [e2] at hp; exact hp.elim
theorem gs_len {r : SGs} {n : Nat} (h : ∀ ds g S g' S', r ds g S = .ok g' S' → ds.length = n) : True := trivial
theorem mg_tup {es : List Expr} {k : Nat} {is : List Nat} {r : SGs} (hc : X.calm = true) (h : PGs X es (tDGs X.K is r)) (hl : ∀ ds g S g' S', r ds g S = .ok g' S' → ds.length = es.length)
    (hn : (assignEach es X.env).length = es.length) (hst : (assignEach es X.env).findIdx? (·.1) = none) : PG X (.Tuple es k pos) (tDG X.K is (gTupD r)) := by
  refine pgI (pg_tup hc h hn hst) fun v σ H Q ⟨m, S, g, d, hs, hr, rd, hp⟩ => ?_
  cases rd with
  | @tup a vs xs hq rs =>
    refine ⟨a, vs, rfl, hq, ?_, m, S, g, xs, hs, hr, rs, hp⟩
    have hp : PostG X.K is σ m H Q (r xs g S) := hp
    cases e : r xs g S with
    | ok g' S' => rw [← rs.length]; exact hl _ _ _ _ _ e
    | ex _ _ => rw [e] at hp; exact hp.elim
    | no => rw [e] at hp; exact hp.elim
  | _ => exact hp.elim
theorem set_r {K : PySem.W.Frag} {m : List Addr} {H : Hp} {S : Store} {o i v : D} {ov iv vv : V} {S' : Store} {Q : Hp → Prop} (hs : Sim K m S H) (ro : RV K m H o ov) (ri : RV K m H i iv) (rv : RV K m H v vv) (h : setAt o i v S = .ok () S')
    (q : ∀ H', Ext m H m H' → Sim K m S' H' → Q H') : rSetL ov iv vv H Q := by
  unfold setAt at h
  split at h
  · rename_i h1
    obtain ⟨a, vs, rfl, hm, e1, r1⟩ := lstAt_at hs ro h1
    cases ri
    split at h
    · rename_i h2
      cases h
      exact ⟨a, vs, _, _, rfl, rfl, e1, by rw [← r1.length]; exact h2, q _ (ext_write hm) (sim_write hs hm (r1.set rv _))⟩
    · cases h
  · cases h
theorem mg_sub {o i : Expr} {fo fi : SE} (ho : PE X o (tD X.K fo)) (hi : PE X i (tD X.K fi))
    (ha : ∀ v, assign (.Subscript o i pos) X.env v = (do
      let ov ← holding [v] (eval o X.env)
      let iv ← holding [v, ov] (eval i X.env)
      standAt pos
      holding [v, ov, iv] (setItem ov iv v)
      release [v, ov, iv] [])) : PG X (.Subscript o i pos) (tDG X.K [] (gSubD fo fi)) := by
  refine pgI (pg_sub ho hi set_list ha) fun v σ H Q ⟨m, S, g, d, hs, hr, rd, hp⟩ => ?_
  obtain ⟨x, S1, e1, hp⟩ := hp.inv
  obtain ⟨y, S2, e2, hp⟩ := hp.inv
  obtain ⟨_, S3, e3, hp⟩ := hp.inv
  refine ⟨m, S, g, hs, hr, ?_⟩
  rw [e1]
  intro v1 m1 H1 x1 s1 r1
  refine ⟨m1, S1, g, s1, hr.ext hs x1, ?_⟩
  rw [e2]
  intro v2 m2 H2 x2 s2 r2
  refine set_r s2 (r1.ext s1 x2) r2 (rd.ext hs (x1.trans x2)) e3 fun H' x3 s3 => ?_
  exact hp σ m2 H' ((x1.trans x2).trans x3) s3 ((hr.ext hs (x1.trans x2)).ext s2 x3) fun _ _ => rfl
end

/-! ### what is walked -/
inductive IK where
  | lst (n : Nat) | vals (xs : List D) | enum (n : Nat) | zip (a b : Nat)
/-- at turn i: it yields, stops, or is stuck -/
def istep (ik : IK) (i : Nat) (S : Store) : Option (Option D) := match ik with
  | .lst n => match S[n]? with
    | some (.lst xs) => some xs[i]?
    | _ => none
  | .vals xs => some xs[i]?
  | .enum n => match S[n]? with
    | some (.lst xs) => some (xs[i]?.map fun x => .tup [.int (i : Nat), x])
    | _ => none
  | .zip a b => match S[a]?, S[b]? with
    | some (.lst xs), some (.lst ys) => match xs[i]?, ys[i]? with
      | some x, some y => some (some (.tup [x, y]))
      | _, _ => some none
    | _, _ => none
def ibound (ik : IK) (S : Store) : Nat := match ik with
  | .lst n => match S[n]? with
    | some (.lst xs) => xs.length + 1
    | _ => 0
  | .vals xs => xs.length + 1
  | .enum n => match S[n]? with
    | some (.lst xs) => xs.length + 1
    | _ => 0
  | .zip a b => match S[a]? with
    | some (.lst xs) => xs.length + 1
    | _ => 0
abbrev SI := Sg → Store → O IK
def signs (x : Str) : List D := x.cps.toList.map fun c => .str ⟨#[c]⟩
def iVal (a : SE) : SI := fun g S => (a g S).bind fun d S => match d with
  | .tup xs => .ok (.vals xs) S
  | .cl xs => .ok (.vals xs) S
  | .str x => .ok (.vals (signs x)) S
  | .loc n => match S[n]? with
    | some (.lst _) => .ok (.lst n) S
    | _ => .no
  | _ => .no
def intsFrom (lo : Int) (n : Nat) : List D := (List.range n).map fun i => .int (lo + (i : Nat))
def rngOk (i : Int) : Bool := decide (-(2 ^ 62) ≤ i) && decide (i < 2 ^ 62)
def iRng (a : SA) : SI := fun g S => (a g S).bind fun ds S => match ds with
  | [.int j] => if rngOk j = true then .ok (.vals (intsFrom 0 j.toNat)) S else .no
  | [.int i, .int j] => if (rngOk i && rngOk j) = true then .ok (.vals (intsFrom i (j - i).toNat)) S else .no
  | _ => .no
def iEnumD (a : SA) : SI := fun g S => (a g S).bind fun ds S => match ds with
  | [.loc n] => match S[n]? with
    | some (.lst _) => .ok (.enum n) S
    | _ => .no
  | _ => .no
def iZipD (a : SA) : SI := fun g S => (a g S).bind fun ds S => match ds with
  | [.loc n, .loc k] => match S[n]?, S[k]? with
    | some (.lst _), some (.lst _) => .ok (.zip n k) S
    | _, _ => .no
  | _ => .no
structure ItOk (K : PySem.W.Frag) (m0 : List Addr) (H0 : Hp) (ik : IK) (J : It) : Prop where
  go : ∀ m S H i d, Ext m0 H0 m H → Sim K m S H → istep ik i S = some (some d) → J.go i H ∧ ∀ x H', J.yld i H x H' → Ext m H m H' ∧ Sim K m S H' ∧ RV K m H' d x
  stop : ∀ m S H i, Ext m0 H0 m H → Sim K m S H → istep ik i S = some none → J.stop i H
def PostI (K : PySem.W.Frag) (m : List Addr) (H : Hp) (Rr : It → Hp → Prop) : O IK → Prop
  | .ok ik S' => ∀ m' H' J, Ext m H m' H' → Sim K m' S' H' → ItOk K m' H' ik J → Rr J H'
  | _ => False
def tDI (K : PySem.W.Frag) (f : SI) : TI := fun σ H Rr => ∃ m S g, Sim K m S H ∧ RVo K m H g σ ∧ PostI K m H Rr (f g S)
theorem PostI.inv {K : PySem.W.Frag} {m : List Addr} {H : Hp} {α : Type} {Rr : It → Hp → Prop} {o : O α} {k : α → Store → O IK} (h : PostI K m H Rr (o.bind k)) : ∃ a S, o = .ok a S ∧ PostI K m H Rr (k a S) := by
  cases o with | ok a S => exact ⟨a, S, rfl, h⟩ | ex _ _ => exact h.elim | no => exact h.elim
section
variable {X : Cx} {tg : Expr}
theorem piI {e : Expr} {t t' : TI} (h : PI X tg e t) (i : ∀ σ H Q, t' σ H Q → t σ H Q) : PI X tg e t' := ⟨fun pins s σ H Q I q => h.run pins s σ H Q I (i σ H Q q)⟩
theorem piOr {e : Expr} {t t' : TI} (h : PI X tg e t) (h' : PI X tg e t') : PI X tg e (fun σ H Q => t σ H Q ∨ t' σ H Q) := ⟨fun pins s σ H Q I q => q.elim (h.run pins s σ H Q I) (h'.run pins s σ H Q I)⟩
variable {K : PySem.W.Frag} {m0 : List Addr} {H0 : Hp} {S0 : Store}
theorem it_lst {n : Nat} {a : Addr} (hm : m0[n]? = some a) : ItOk K m0 H0 (.lst n) (Itl K a) := by
  refine ⟨fun m S H i d e s h => ?_, fun m S H i e s h => ?_⟩
  · have h : (match S[n]? with | some (.lst xs) => some xs[i]? | _ => none) = some (some d) := h
    cases c : S[n]? with
    | none => rw [c] at h; cases h
    | some c' =>
      rw [c] at h
      cases c' with
      | lst xs =>
        have h : xs[i]? = some d := Option.some.inj h
        obtain ⟨vs, h1, r⟩ := s.lst (e.pre n a hm) c
        obtain ⟨v, h2, rv⟩ := r.get h
        refine ⟨⟨vs, v, SqL.of h1, h2⟩, fun x H' ⟨e', hx⟩ => ?_⟩
        subst e'
        have := hx vs (SqL.of h1)
        rw [h2] at this
        cases this
        exact ⟨Ext.refl, s, rv⟩
      | dct _ => cases h
      | ins _ _ => cases h
  · have h : (match S[n]? with | some (.lst xs) => some xs[i]? | _ => none) = some none := h
    cases c : S[n]? with
    | none => rw [c] at h; cases h
    | some c' =>
      rw [c] at h
      cases c' with
      | lst xs =>
        have h : xs[i]? = none := Option.some.inj h
        obtain ⟨vs, h1, r⟩ := s.lst (e.pre n a hm) c
        exact ⟨vs, SqL.of h1, by rw [← r.length]; exact List.getElem?_eq_none_iff.mp h⟩
      | dct _ => cases h
      | ins _ _ => cases h
theorem it_tup {a : Addr} {xs : List D} {vs : List V} (s0 : Sim K m0 S0 H0) (hq : SqT K H0 a vs) (r : RVs K m0 H0 xs vs) : ItOk K m0 H0 (.vals xs) (Itt K a) := by
  refine ⟨fun m S H i d e s h => ?_, fun m S H i e s h => ?_⟩
  · have h : xs[i]? = some d := Option.some.inj h
    obtain ⟨v, h2, rv⟩ := r.get h
    refine ⟨⟨vs, v, Ext.sqT s0 e hq, h2⟩, fun x H' ⟨e', hx⟩ => ?_⟩
    subst e'
    have := hx vs (Ext.sqT s0 e hq)
    rw [h2] at this
    cases this
    exact ⟨Ext.refl, s, rv.ext s0 e⟩
  · have h : xs[i]? = none := Option.some.inj h
    exact ⟨vs, Ext.sqT s0 e hq, by rw [← r.length]; exact List.getElem?_eq_none_iff.mp h⟩
theorem it_cl {a : Addr} {xs : List D} {vs : List V} (s0 : Sim K m0 S0 H0) (hq : SqC K H0 a vs) (r : RVs K m0 H0 xs vs) : ItOk K m0 H0 (.vals xs) (Itl K a) := by
  refine ⟨fun m S H i d e s h => ?_, fun m S H i e s h => ?_⟩
  · have h : xs[i]? = some d := Option.some.inj h
    obtain ⟨v, h2, rv⟩ := r.get h
    refine ⟨⟨vs, v, (Ext.sqC s0 e hq).sq, h2⟩, fun x H' ⟨e', hx⟩ => ?_⟩
    subst e'
    have := hx vs (Ext.sqC s0 e hq).sq
    rw [h2] at this
    cases this
    exact ⟨Ext.refl, s, rv.ext s0 e⟩
  · have h : xs[i]? = none := Option.some.inj h
    exact ⟨vs, (Ext.sqC s0 e hq).sq, by rw [← r.length]; exact List.getElem?_eq_none_iff.mp h⟩
theorem it_str {x : Str} : ItOk K m0 H0 (.vals (signs x)) (Its x) := by
  refine ⟨fun m S H i d e s h => ?_, fun m S H i e s h => ?_⟩
  · have h : (signs x)[i]? = some d := Option.some.inj h
    unfold signs at h
    rw [List.getElem?_map] at h
    cases c : x.cps.toList[i]? with
    | none => rw [c] at h; cases h
    | some z =>
      rw [c] at h
      cases h
      have hi := (List.getElem?_eq_some_iff.mp c).1
      refine ⟨show i < x.cps.size by simpa using hi, fun v H' ⟨e', z', hz, hv⟩ => ?_⟩
      subst e'
      have : x.cps[i]? = some z := by simpa using c
      rw [this] at hz
      cases hz
      subst hv
      exact ⟨Ext.refl, s, .str _⟩
  · have h : (signs x)[i]? = none := Option.some.inj h
    have := List.getElem?_eq_none_iff.mp h
    unfold signs at this
    show x.cps.size ≤ i
    simpa using this
theorem it_rng {lo : Int} {n : Nat} : ItOk K m0 H0 (.vals (intsFrom lo n)) (Itr lo n) := by
  refine ⟨fun m S H i d e s h => ?_, fun m S H i e s h => ?_⟩
  · have h : (intsFrom lo n)[i]? = some d := Option.some.inj h
    unfold intsFrom at h
    have hi : i < n := by
      have := (List.getElem?_eq_some_iff.mp h).1
      simpa using this
    rw [List.getElem?_map, List.getElem?_range hi] at h
    cases h
    refine ⟨hi, fun v H' ⟨e', hv⟩ => ?_⟩
    subst e'
    subst hv
    exact ⟨Ext.refl, s, .int _⟩
  · have h : (intsFrom lo n)[i]? = none := Option.some.inj h
    have := List.getElem?_eq_none_iff.mp h
    unfold intsFrom at this
    show n ≤ i
    simpa using this
theorem lst_at {n : Nat} {S : Store} {α : Type} {o : Option α} {f : List D → Option α} (h : (match S[n]? with | some (.lst xs) => f xs | _ => none) = o) (hn : o ≠ none) : ∃ xs, S[n]? = some (.lst xs) ∧ f xs = o := by
  cases c : S[n]? with
  | none => rw [c] at h; exact absurd h.symm hn
  | some c' =>
    rw [c] at h
    cases c' with
    | lst xs => exact ⟨xs, rfl, h⟩
    | dct _ => exact absurd h.symm hn
    | ins _ _ => exact absurd h.symm hn
theorem it_enum {n : Nat} {a : Addr} (hm : m0[n]? = some a) : ItOk K m0 H0 (.enum n) (Ite K a) := by
  refine ⟨fun m S H i d e s h => ?_, fun m S H i e s h => ?_⟩
  · obtain ⟨xs, c, h⟩ := lst_at (f := fun xs => some (xs[i]?.map fun x => D.tup [.int (i : Nat), x])) h (by simp)
    have h : (xs[i]?.map fun x => D.tup [.int (i : Nat), x]) = some d := Option.some.inj h
    cases q : xs[i]? with
    | none => rw [q] at h; cases h
    | some y =>
      rw [q] at h
      cases h
      obtain ⟨vs, h1, r⟩ := s.lst (e.pre n a hm) c
      obtain ⟨v, h2, rv⟩ := r.get q
      refine ⟨⟨vs, v, SqL.of h1, h2⟩, fun x H' ⟨t, z, ex, ht, eH, hx⟩ => ?_⟩
      have := hx vs (SqL.of h1)
      rw [h2] at this
      cases this
      subst ex; subst eH
      exact ⟨ext_new ht, sim_new s ht, .tup (.inl (.inl upd_same)) (.cons (.int _) (.cons (rv.ext s (ext_new ht)) .nil))⟩
  · obtain ⟨xs, c, h⟩ := lst_at (f := fun xs => some (xs[i]?.map fun x => D.tup [.int (i : Nat), x])) h (by simp)
    have h : (xs[i]?.map fun x => D.tup [.int (i : Nat), x]) = none := Option.some.inj h
    cases q : xs[i]? with
    | none =>
      obtain ⟨vs, h1, r⟩ := s.lst (e.pre n a hm) c
      exact ⟨vs, SqL.of h1, by rw [← r.length]; exact List.getElem?_eq_none_iff.mp q⟩
    | some y => rw [q] at h; cases h
theorem it_zip {n k : Nat} {a b : Addr} (hm : m0[n]? = some a) (hk : m0[k]? = some b) : ItOk K m0 H0 (.zip n k) (Itz K a b) := by
  refine ⟨fun m S H i d e s h => ?_, fun m S H i e s h => ?_⟩
  · unfold istep at h
    dsimp only at h
    split at h
    · rename_i xs ys c1 c2
      split at h
      · rename_i x y q1 q2
        cases h
        obtain ⟨vs, h1, r⟩ := s.lst (e.pre n a hm) c1
        obtain ⟨ws, h2, r'⟩ := s.lst (e.pre k b hk) c2
        obtain ⟨v, h3, rv⟩ := r.get q1
        obtain ⟨w, h4, rw'⟩ := r'.get q2
        refine ⟨⟨vs, ws, v, w, SqL.of h1, SqL.of h2, h3, h4⟩, fun x H' ⟨t, z, z', ex, ht, eH, hx, hy⟩ => ?_⟩
        have e1 := hx vs (SqL.of h1)
        rw [h3] at e1
        cases e1
        have e2 := hy ws (SqL.of h2)
        rw [h4] at e2
        cases e2
        subst ex; subst eH
        exact ⟨ext_new ht, sim_new s ht, .tup (.inl (.inl upd_same)) (.cons (rv.ext s (ext_new ht)) (.cons (rw'.ext s (ext_new ht)) .nil))⟩
      · cases h
    · cases h
  · unfold istep at h
    dsimp only at h
    split at h
    · rename_i xs ys c1 c2
      split at h
      · cases h
      · rename_i hno
        obtain ⟨vs, h1, r⟩ := s.lst (e.pre n a hm) c1
        obtain ⟨ws, h2, r'⟩ := s.lst (e.pre k b hk) c2
        refine ⟨vs, ws, SqL.of h1, SqL.of h2, ?_⟩
        rw [← r.length, ← r'.length]
        by_cases q1 : i < xs.length
        · by_cases q2 : i < ys.length
          · exact (hno xs[i] ys[i] (List.getElem?_eq_getElem q1) (List.getElem?_eq_getElem q2)).elim
          · exact .inr (by omega)
        · exact .inl (by omega)
    · cases h
end
section
variable {X : Cx} {tg : Expr}
theorem mi_val {e : Expr} {f : SE} (h : PE X e (tD X.K f)) : PI X tg e (tDI X.K (iVal f)) := by
  refine piI (piOr (pi_list h) (piOr (pi_tup h) (pi_str h))) fun σ H Q ⟨m, S, g, hs, hr, hp⟩ => ?_
  obtain ⟨d, S1, e1, hp⟩ := hp.inv
  have go : ∀ Q' : VK, (∀ v m' H', Ext m H m' H' → Sim X.K m' S1 H' → RV X.K m' H' d v → Q' v H') → tD X.K f σ H Q' := fun Q' k => ⟨m, S, g, hs, hr, by rw [e1]; exact k⟩
  cases d with
  | tup xs =>
    refine .inr (.inl (go _ fun v m1 H1 x1 s1 r1 => ?_))
    cases r1 with
    | @tup a vs _ hq r => exact ⟨a, rfl, ⟨vs, hq⟩, hp m1 H1 _ x1 s1 (it_tup s1 hq r)⟩
  | cl xs =>
    refine .inl (go _ fun v m1 H1 x1 s1 r1 => ?_)
    cases r1 with
    | @cl a vs _ hq r => exact ⟨a, rfl, ⟨vs, hq.sq⟩, hp m1 H1 _ x1 s1 (it_cl s1 hq r)⟩
  | str x =>
    refine .inr (.inr (go _ fun v m1 H1 x1 s1 r1 => ?_))
    cases r1
    exact ⟨x, rfl, hp m1 H1 _ x1 s1 it_str⟩
  | loc n =>
    have hp : PostI X.K m H Q (match S1[n]? with | some (.lst _) => .ok (.lst n) S1 | _ => .no) := hp
    split at hp
    · rename_i xs c
      refine .inl (go _ fun v m1 H1 x1 s1 r1 => ?_)
      cases r1 with
      | @loc _ a hm =>
        obtain ⟨vs, h1, r⟩ := s1.lst hm c
        exact ⟨a, rfl, ⟨vs, SqL.of h1⟩, hp m1 H1 _ x1 s1 (it_lst hm)⟩
    · exact hp.elim
  | non => exact hp.elim
  | bl _ => exact hp.elim
  | int _ => exact hp.elim
theorem mi_rng1 {a : Expr} {fr : SA} {p pos : Pos} (hg : Gl X "range") (hm : X.mg "range" = none) (ha : PA X [a] (tDA X.K fr)) (hs : starEach [a] X.env = [(false, eval a X.env)]) (hl : ∀ g S ds S', fr g S = .ok ds S' → ds.length = 1) :
    PI X tg (.Call (.Name "range" p) [a] [] pos) (tDI X.K (iRng fr)) := by
  refine piI (pi_range1 hg hm ha hs) fun σ H Q ⟨m, S, g, hs, hr, hp⟩ => ?_
  obtain ⟨ds, S1, e1, hp⟩ := hp.inv
  have hl := hl _ _ _ _ e1
  refine ⟨m, S, g, hs, hr, ?_⟩
  rw [e1]
  intro vs m1 H1 x1 s1 r1
  split at hp
  · obtain ⟨v, rfl, r⟩ := r1.one
    cases r
    split at hp
    · rename_i hz
      simp only [rngOk, Bool.and_eq_true, decide_eq_true_eq] at hz
      exact ⟨_, rfl, hz.1, hz.2, hp m1 H1 _ x1 s1 it_rng⟩
    · exact hp.elim
  · simp at hl
  · exact hp.elim
theorem mi_rng2 {a b : Expr} {fr : SA} {p pos : Pos} (hg : Gl X "range") (hm : X.mg "range" = none) (ha : PA X [a, b] (tDA X.K fr)) (hs : starEach [a, b] X.env = [(false, eval a X.env), (false, eval b X.env)]) (hs2 : starEach [b] X.env = [(false, eval b X.env)]) (hl : ∀ g S ds S', fr g S = .ok ds S' → ds.length = 2) :
    PI X tg (.Call (.Name "range" p) [a, b] [] pos) (tDI X.K (iRng fr)) := by
  refine piI (pi_range2 hg hm ha hs hs2) fun σ H Q ⟨m, S, g, hs, hr, hp⟩ => ?_
  obtain ⟨ds, S1, e1, hp⟩ := hp.inv
  have hl := hl _ _ _ _ e1
  refine ⟨m, S, g, hs, hr, ?_⟩
  rw [e1]
  intro vs m1 H1 x1 s1 r1
  split at hp
  · simp at hl
  · obtain ⟨v, w, rfl, r, r'⟩ := r1.two
    cases r; cases r'
    split at hp
    · rename_i hz
      simp only [rngOk, Bool.and_eq_true, decide_eq_true_eq] at hz
      exact ⟨_, _, rfl, ⟨hz.1.1, hz.1.2, hz.2.1, hz.2.2⟩, hp m1 H1 _ x1 s1 it_rng⟩
    · exact hp.elim
  · exact hp.elim
theorem mi_enum {a : Expr} {fr : SA} {p pos tpos : Pos} {elts : List Expr} {kk : Nat} (hg : Gl X "enumerate") (hm : X.mg "enumerate" = none) (ha : PA X [a] (tDA X.K fr)) (hs : starEach [a] X.env = [(false, eval a X.env)]) :
    PI X (.Tuple elts kk tpos) (.Call (.Name "enumerate" p) [a] [] pos) (tDI X.K (iEnumD fr)) := by
  refine piI (pi_enum hg hm ha hs) fun σ H Q ⟨m, S, g, hs, hr, hp⟩ => ?_
  obtain ⟨ds, S1, e1, hp⟩ := hp.inv
  refine ⟨m, S, g, hs, hr, ?_⟩
  rw [e1]
  intro vs m1 H1 x1 s1 r1
  split at hp
  · obtain ⟨v, rfl, r⟩ := r1.one
    cases r with
    | @loc n a hm =>
      split at hp
      · rename_i xs c
        obtain ⟨vs, h1, r⟩ := s1.lst hm c
        exact ⟨a, vs, rfl, SqL.of h1, hp m1 H1 _ x1 s1 (it_enum hm)⟩
      · exact hp.elim
  · exact hp.elim
theorem mi_zip {a b : Expr} {fr : SA} {p pos tpos : Pos} {elts : List Expr} {kk : Nat} (h : PI X (.Tuple elts kk tpos) (.Call (.Name "zip" p) [a, b] [] pos) (iZip X.K (tDA X.K fr))) :
    PI X (.Tuple elts kk tpos) (.Call (.Name "zip" p) [a, b] [] pos) (tDI X.K (iZipD fr)) := by
  refine piI h fun σ H Q ⟨m, S, g, hs, hr, hp⟩ => ?_
  obtain ⟨ds, S1, e1, hp⟩ := hp.inv
  refine ⟨m, S, g, hs, hr, ?_⟩
  rw [e1]
  intro vs m1 H1 x1 s1 r1
  split at hp
  · obtain ⟨v, w, rfl, r, r'⟩ := r1.two
    cases r with
    | @loc n a hm =>
      cases r' with
      | @loc k b hk =>
        split at hp
        · rename_i xs ys c1 c2
          obtain ⟨vs, h1, r⟩ := s1.lst hm c1
          obtain ⟨ws, h2, r'⟩ := s1.lst hk c2
          exact ⟨a, b, vs, ws, rfl, SqL.of h1, SqL.of h2, hp m1 H1 _ x1 s1 (it_zip hm hk)⟩
        · exact hp.elim
  · exact hp.elim
end
end Mz

end

section
set_option Elab.async false
set_option linter.all false
set_option maxRecDepth 100000
namespace Mz
open PySem PySem.Spec L2

/-! ### statements -/
def sNil : SS := fun g S => .nx g S
def sCons (a b : SS) : SS := fun g S => match a g S with
  | .nx g S => b g S
  | r => r
def sAsg (f : SE) (t : SG) : SS := fun g S => bindR (f g S) fun d S => bindR (t d g S) fun g S => .nx g S
def sPar (i j : Nat) (a : SA) : SS := fun g S => bindR (a g S) fun ds S => match ds with
  | [x, y] => .nx ((g.set i (some x)).set j (some y)) S
  | _ => .no
def sPar3 (i j k : Nat) (a : SA) : SS := fun g S => bindR (a g S) fun ds S => match ds with
  | [x, y, z] => .nx (((g.set i (some x)).set j (some y)).set k (some z)) S
  | _ => .no
def augD (p : Bop) (x y : D) : Option D := match asInt x, asInt y with
  | some a, some b => match p with
    | .add => some (.int (a + b))
    | .sub => some (.int (a - b))
    | _ => none
  | _, _ => none
theorem asInt_some {x : D} {a : Int} (h : asInt x = some a) : x = .int a := by
  cases x <;> first | (cases h; rfl) | cases h
theorem augD_inv {p : Bop} {x y z : D} (h : augD p x y = some z) : ∃ a b, x = .int a ∧ y = .int b ∧ ((p = .add ∧ z = .int (a + b)) ∨ (p = .sub ∧ z = .int (a - b))) := by
  unfold augD at h
  split at h
  · rename_i a b h1 h2
    refine ⟨a, b, asInt_some h1, asInt_some h2, ?_⟩
    split at h
    · exact .inl ⟨rfl, (Option.some.inj h).symm⟩
    · exact .inr ⟨rfl, (Option.some.inj h).symm⟩
    · cases h
  · cases h
def sAug (i : Nat) (p : Bop) (f : SE) : SS := fun g S => match g[i]? with
  | some (some x) => bindR (f g S) fun y S => match augD p x y with
    | some z => .nx (g.set i (some z)) S
    | none => .no
  | _ => .no
def sIf (t : ST) (a b : SS) : SS := fun g S => bindR (t g S) fun c S => if c = true then a g S else b g S
def sRet (f : SE) : SS := fun g S => bindR (f g S) fun d S => .rt d S
def sRetN : SS := fun _ S => .rt .non S
def sEx (f : SE) : SS := fun g S => bindR (f g S) fun _ S => .nx g S
def sBrk : SS := fun g S => .bk g S
def sCnt : SS := fun g S => .ct g S
def wloop (t : ST) (b : SS) : Nat → SS
  | 0 => fun _ _ => .no
  | n + 1 => fun g S => bindR (t g S) fun c S => if c = true then (match b g S with
    | .nx g S => wloop t b n g S
    | .ct g S => wloop t b n g S
    | .bk g S => .nx g S
    | r => r) else .nx g S
def floop (ik : IK) (t : SG) (b : SS) : Nat → Nat → SS
  | 0, _ => fun _ _ => .no
  | n + 1, i => fun g S => match istep ik i S with
    | some (some d) => bindR (t d g S) fun g S => match b g S with
      | .nx g S => floop ik t b n (i + 1) g S
      | .ct g S => floop ik t b n (i + 1) g S
      | .bk g S => .nx g S
      | r => r
    | some none => .nx g S
    | none => .no
def sFor (it : SI) (t : SG) (b : SS) : SS := fun g S => bindR (it g S) fun ik S => floop ik t b (ibound ik S) 0 g S
def lcLoop (ik : IK) (t : SG) (ts : ST) (el : SE) (g0 : Sg) : Nat → Nat → List D → Store → O (List D)
  | 0, _, _, _ => .no
  | n + 1, i, acc, S => match istep ik i S with
    | some (some d) => (t d g0 S).bind fun g S => (ts g S).bind fun c S => if c = true then (el g S).bind fun y S => if acc.length < sizeLine then lcLoop ik t ts el g0 n (i + 1) (acc ++ [y]) S else .no else lcLoop ik t ts el g0 n (i + 1) acc S
    | some none => .ok acc S
    | none => .no
def eLc (own : List Nat) (it : SI) (t : SG) (ts : ST) (el : SE) : SE := fun g S => (it g S).bind fun ik S => (lcLoop ik t ts el (wipeG g own) (ibound ik S) 0 [] S).bind fun acc S => alloc acc S
def tsNil : ST := fun _ S => .ok true S

section
variable {X : Cx} {pos : Pos}
theorem mb_nil : PSs X [] (tDS X.K sNil) := pssI pss_nil fun D σ H ⟨m, S, g, hs, hr, hp⟩ => hp σ m H Ext.refl hs hr
theorem mb_cons {st : Stmt} {r : List Stmt} {f k : SS} (h1 : PS X st (tDS X.K f)) (h2 : PSs X r (tDS X.K k)) : PSs X (st :: r) (tDS X.K (sCons f k)) := by
  refine pssI (pss_cons h1 h2) fun D σ H ⟨m, S, g, hs, hr, hp⟩ => ?_
  refine ⟨m, S, g, hs, hr, ?_⟩
  unfold sCons at hp
  cases e : f g S with
  | nx g1 S1 =>
    rw [e] at hp
    intro σ1 m1 H1 x1 s1 r1
    exact ⟨m1, S1, g1, s1, r1, PostS.weak x1 hp⟩
  | rt d S1 => rw [e] at hp; exact hp
  | bk d S1 => rw [e] at hp; exact hp
  | ct d S1 => rw [e] at hp; exact hp
  | ex d S1 => rw [e] at hp; exact hp
  | no => rw [e] at hp; exact hp
theorem ms_asg {tg e : Expr} {f : SE} {is : List Nat} {t : SG} (h : PS X (.Assign [tg] e pos) (tAsg (tD X.K f) (tDG X.K is t))) : PS X (.Assign [tg] e pos) (tDS X.K (sAsg f t)) := by
  refine psI h fun D σ H ⟨m, S, g, hs, hr, hp⟩ => ?_
  obtain ⟨d, S1, e1, hp⟩ := hp.inv
  obtain ⟨g2, S2, e2, hp⟩ := hp.inv
  refine ⟨m, S, g, hs, hr, ?_⟩
  rw [e1]
  intro v m1 H1 x1 s1 r1
  refine ⟨m1, S1, g, d, s1, hr.ext hs x1, r1, ?_⟩
  rw [e2]
  intro σ2 m2 H2 x2 s2 r2 _
  exact hp σ2 m2 H2 (x1.trans x2) s2 r2
/-- name = e, where the layer's rule speaks of gName -/
theorem ms_set {i : Nat} {tg e : Expr} {f : SE} (h : PS X (.Assign [tg] e pos) (tAsg (tD X.K f) (gName i))) : PS X (.Assign [tg] e pos) (tDS X.K (sAsg f (gVar i))) := by
  refine psI h fun D σ H ⟨m, S, g, hs, hr, hp⟩ => ?_
  obtain ⟨d, S1, e1, hp⟩ := hp.inv
  refine ⟨m, S, g, hs, hr, ?_⟩
  rw [e1]
  intro v m1 H1 x1 s1 r1
  exact hp _ m1 H1 x1 s1 ((hr.ext hs x1).set r1 i)
theorem ms_par {i j : Nat} {st : Stmt} {fr : SA} (h : PS X st (tPar i j (tDA X.K fr))) : PS X st (tDS X.K (sPar i j fr)) := by
  refine psI h fun D σ H ⟨m, S, g, hs, hr, hp⟩ => ?_
  obtain ⟨ds, S1, e1, hp⟩ := hp.inv
  refine ⟨m, S, g, hs, hr, ?_⟩
  rw [e1]
  intro vs m1 H1 x1 s1 r1
  split at hp
  · obtain ⟨v, w, rfl, r, r'⟩ := r1.two
    exact ⟨v, w, rfl, hp _ m1 H1 x1 s1 (((hr.ext hs x1).set r i).set r' j)⟩
  · exact hp.elim
theorem ms_aug {i : Nat} {p : Bop} {f : SE} {x : Str} {e : Expr} {pos' : Pos} (hN : X.N.Nodup) (hi : X.N[i]? = some x) (hx : Loc X.env.scope x) (hf : X.fn x = true ∨ X.env.scope.names.lookup x = some .local) (he : PE X e (tD X.K f)) :
    (p = .add ∨ p = .sub) → PS X (.AugAssign (.Name x pos') p.op e pos) (tDS X.K (sAug i p f)) := by
  intro hpp
  have key : ∀ (k : Int → Int → Int), (∀ x y z, augD p x y = some z → ∃ a b, x = .int a ∧ y = .int b ∧ z = .int (k a b)) →
      PS X (.AugAssign (.Name x pos') p.op e pos) (tAug i (tD X.K f) (ipI k)) → PS X (.AugAssign (.Name x pos') p.op e pos) (tDS X.K (sAug i p f)) := by
    intro k hk h
    refine psI h fun D σ H ⟨m, S, g, hs, hr, hp⟩ => ?_
    unfold sAug at hp
    split at hp
    · rename_i d hd
      obtain ⟨v, ev, rv⟩ := hr.2 i d hd
      obtain ⟨y, S1, e1, hp⟩ := hp.inv
      refine ⟨v, ev, m, S, g, hs, hr, ?_⟩
      rw [e1]
      intro w m1 H1 x1 s1 r1
      split at hp
      · rename_i z hz
        obtain ⟨a, b, rfl, rfl, rfl⟩ := hk _ _ _ hz
        cases rv
        cases r1
        exact ⟨a, b, rfl, rfl, hp _ m1 H1 x1 s1 ((hr.ext hs x1).set (.int _) i)⟩
      · exact hp.elim
    · exact hp.elim
  rcases hpp with rfl | rfl
  · refine key (fun a b => a + b) (fun x y z h => ?_) (ps_aug hN hi hx he ip_add hf)
    obtain ⟨a, b, e1, e2, h⟩ := augD_inv h
    rcases h with ⟨_, h⟩ | ⟨h, _⟩
    · exact ⟨a, b, e1, e2, h⟩
    · cases h
  · refine key (fun a b => a - b) (fun x y z h => ?_) (ps_aug hN hi hx he ip_sub hf)
    obtain ⟨a, b, e1, e2, h⟩ := augD_inv h
    rcases h with ⟨h, _⟩ | ⟨_, h⟩
    · cases h
    · exact ⟨a, b, e1, e2, h⟩
theorem ms_if {c : Expr} {a b : List Stmt} {t : ST} {f k : SS} (hc : PT X c (tDT X.K t)) (ha : PSs X a (tDS X.K f)) (hb : PSs X b (tDS X.K k)) : PS X (.If c a b pos) (tDS X.K (sIf t f k)) := by
  refine psI (ps_if hc ha hb) fun D σ H ⟨m, S, g, hs, hr, hp⟩ => ?_
  obtain ⟨d, S1, e, hp⟩ := hp.inv
  refine ⟨m, S, g, hs, hr, ?_⟩
  rw [e]
  intro m1 H1 x1 s1
  cases d with
  | true => rw [if_pos rfl] at hp ⊢; exact ⟨m1, S1, g, s1, hr.ext hs x1, hp.weak x1⟩
  | false => rw [if_neg Bool.false_ne_true] at hp ⊢; exact ⟨m1, S1, g, s1, hr.ext hs x1, hp.weak x1⟩
theorem ms_ret {e : Expr} {f : SE} (he : PE X e (tD X.K f)) : PS X (.Return (some e) pos) (tDS X.K (sRet f)) := by
  refine psI (ps_ret he) fun D σ H ⟨m, S, g, hs, hr, hp⟩ => ?_
  obtain ⟨d, S1, e1, hp⟩ := hp.inv
  refine ⟨m, S, g, hs, hr, ?_⟩
  rw [e1]
  exact hp
theorem ms_retN : PS X (.Return none pos) (tDS X.K sRetN) := psI ps_retN fun D σ H ⟨m, S, g, hs, hr, hp⟩ => hp _ m H Ext.refl hs .non
theorem ms_ex {e : Expr} {f : SE} (h : PS X (.Expr e pos) (tDrop (tD X.K f))) : PS X (.Expr e pos) (tDS X.K (sEx f)) := by
  refine psI h fun D σ H ⟨m, S, g, hs, hr, hp⟩ => ?_
  obtain ⟨d, S1, e1, hp⟩ := hp.inv
  refine ⟨m, S, g, hs, hr, ?_⟩
  rw [e1]
  intro v m1 H1 x1 s1 r1
  exact hp σ m1 H1 x1 s1 (hr.ext hs x1)
theorem ms_pass : PS X (.Pass pos) (tDS X.K sNil) := psI ps_pass fun D σ H ⟨m, S, g, hs, hr, hp⟩ => hp σ m H Ext.refl hs hr
theorem ms_brk : PS X (.Break pos) (tDS X.K sBrk) := psI ps_break fun D σ H ⟨m, S, g, hs, hr, hp⟩ => hp σ m H Ext.refl hs hr
theorem ms_cnt : PS X (.Continue pos) (tDS X.K sCnt) := psI ps_continue fun D σ H ⟨m, S, g, hs, hr, hp⟩ => hp σ m H Ext.refl hs hr
theorem ms_while {c : Expr} {body : List Stmt} {t : ST} {b : SS} (n : Nat) (hp : PassesOwn (model X.prog X.w) X.A X.env X.xe) (hc : PT X c (tDT X.K t)) (hb : PSs X body (tDS X.K b)) : PS X (.While c body [] pos) (tDS X.K (wloop t b n)) := by
  refine psI (ps_while hp hc hb) fun D σ H ⟨m, S, g, hs, hr, hp⟩ => ?_
  refine ⟨fun k σ H => ∃ m S g, Sim X.K m S H ∧ RVo X.K m H g σ ∧ PostS X.K m H D (wloop t b k g S), ⟨n, m, S, g, hs, hr, hp⟩, ?_⟩
  rintro k σ H ⟨m, S, g, hs, hr, hp⟩
  cases k with
  | zero => exact hp.elim
  | succ k =>
    have hp : PostS X.K m H D (bindR (t g S) _) := hp
    obtain ⟨c, S1, e1, hp⟩ := hp.inv
    refine ⟨m, S, g, hs, hr, ?_⟩
    rw [e1]
    intro m1 H1 x1 s1
    have hp := hp.weak x1
    cases c with
    | false => rw [if_neg Bool.false_ne_true] at hp ⊢; exact hp σ m1 H1 Ext.refl s1 (hr.ext hs x1)
    | true =>
      rw [if_pos rfl] at hp ⊢
      refine ⟨fun σ H => ∃ m S g, Sim X.K m S H ∧ RVo X.K m H g σ ∧ PostS X.K m H D (wloop t b k g S), fun σ' H' h => ⟨k, Nat.lt_succ_self k, h⟩, m1, S1, g, s1, hr.ext hs x1, ?_⟩
      cases e : b g S1 with
      | nx g2 S2 => rw [e] at hp; exact fun σ2 m2 H2 x2 s2 r2 => ⟨m2, S2, g2, s2, r2, PostS.weak x2 hp⟩
      | ct g2 S2 => rw [e] at hp; exact fun σ2 m2 H2 x2 s2 r2 => ⟨m2, S2, g2, s2, r2, PostS.weak x2 hp⟩
      | bk g2 S2 => rw [e] at hp; exact hp
      | rt d S2 => rw [e] at hp; exact hp
      | ex d S2 => rw [e] at hp; exact hp
      | no => rw [e] at hp; exact hp
theorem ms_for {tg iter : Expr} {body : List Stmt} {it : SI} {is : List Nat} {t : SG} {b : SS} (hp : PassesOwn (model X.prog X.w) X.A X.env X.xe) (hc : X.calm = true) (hi : PI X tg iter (tDI X.K it)) (hg : PG X tg (tDG X.K is t)) (hb : PSs X body (tDS X.K b))
    (hfs : ∀ x, foldedSetIterable iter X.env x = pure x) : PS X (.For tg iter body [] pos) (tDS X.K (sFor it t b)) := by
  refine psI (ps_for hp hc hi hg hb hfs) fun D σ H ⟨m, S, g, hs, hr, hp⟩ => ?_
  obtain ⟨ik, S1, e1, hp⟩ := hp.inv
  refine ⟨m, S, g, hs, hr, ?_⟩
  rw [e1]
  intro m1 H1 J x1 s1 itok
  refine ⟨fun i k σ H => ∃ m S g, Ext m1 H1 m H ∧ Sim X.K m S H ∧ RVo X.K m H g σ ∧ PostS X.K m H D (floop ik t b k i g S), ⟨ibound ik S1, m1, S1, g, Ext.refl, s1, hr.ext hs x1, PostS.weak x1 hp⟩, ?_⟩
  rintro i k σ H ⟨m, S, g, xx, hs, hr, hp⟩
  cases k with
  | zero => exact hp.elim
  | succ k =>
    have hp : PostS X.K m H D (match istep ik i S with
      | some (some d) => bindR (t d g S) fun g S => match b g S with
        | .nx g S => floop ik t b k (i + 1) g S
        | .ct g S => floop ik t b k (i + 1) g S
        | .bk g S => .nx g S
        | r => r
      | some none => .nx g S
      | none => .no) := hp
    cases est : istep ik i S with
    | none => rw [est] at hp; exact hp.elim
    | some od =>
      rw [est] at hp
      cases od with
      | none => exact .inl ⟨itok.stop m S H i xx hs est, hp σ m H Ext.refl hs hr⟩
      | some d =>
        obtain ⟨go, yl⟩ := itok.go m S H i d xx hs est
        have hp : PostS X.K m H D (bindR (t d g S) _) := hp
        obtain ⟨g2, S2, e2, hp⟩ := hp.inv
        refine .inr ⟨go, fun σ H => ∃ m S g, Ext m1 H1 m H ∧ Sim X.K m S H ∧ RVo X.K m H g σ ∧ PostS X.K m H D (floop ik t b k (i + 1) g S), fun σ' H' h => ⟨k, Nat.lt_succ_self k, h⟩, fun x H' hy => ?_⟩
        obtain ⟨xe, xs, xr⟩ := yl x H' hy
        refine ⟨m, S, g, d, xs, hr.ext hs xe, xr, ?_⟩
        rw [e2]
        intro σ2 m2 H2 x2 s2 r2 _
        have hp := hp.weak (xe.trans x2)
        refine ⟨m2, S2, g2, s2, r2, ?_⟩
        cases e : b g2 S2 with
        | nx g3 S3 => rw [e] at hp; exact fun σ3 m3 H3 x3 s3 r3 => ⟨m3, S3, g3, xx.trans (xe.trans (x2.trans x3)), s3, r3, PostS.weak x3 hp⟩
        | ct g3 S3 => rw [e] at hp; exact fun σ3 m3 H3 x3 s3 r3 => ⟨m3, S3, g3, xx.trans (xe.trans (x2.trans x3)), s3, r3, PostS.weak x3 hp⟩
        | bk g3 S3 => rw [e] at hp; exact hp
        | rt d S3 => rw [e] at hp; exact hp
        | ex d S3 => rw [e] at hp; exact hp
        | no => rw [e] at hp; exact hp

/-! ### list comprehensions -/
section
variable {K : PySem.W.Frag} {m : List Addr} {H : Hp} {S : Store} {L : Addr} {vs ws : List V}
theorem out_sqT (e : H L = some (.lst vs)) {a : Addr} {us : List V} (h : SqT K H a us) : SqT K (upd H L (.lst ws)) a us := by
  rcases h with (h | ⟨o, h⟩) | h
  · refine .inl (.inl ?_)
    rw [upd_ne (ne_of h e (by intro z; cases z))]; exact h
  · refine .inl (.inr ⟨o, ?_⟩)
    rw [upd_ne (ne_of h e (by intro z; cases z))]; exact h
  · exact .inr h
theorem out_sqC (e : H L = some (.lst vs)) {a : Addr} {us : List V} (h : SqC K H a us) : SqC K (upd H L (.lst ws)) a us := by
  rcases h with ⟨o, h⟩ | h
  · refine .inl ⟨o, ?_⟩
    rw [upd_ne (ne_of h e (by intro z; cases z))]; exact h
  · exact .inr h
theorem out_rvs (e : H L = some (.lst vs)) {ds : List D} {us : List V} (h : RVs K m H ds us) : RVs K m (upd H L (.lst ws)) ds us := RVs.mono (fun _ _ h => h) (fun _ _ h => out_sqT e h) (fun _ _ h => out_sqC e h) h
theorem out_rv (e : H L = some (.lst vs)) {d : D} {u : V} (h : RV K m H d u) : RV K m (upd H L (.lst ws)) d u := RV.mono (fun _ _ h => h) (fun _ _ h => out_sqT e h) (fun _ _ h => out_sqC e h) h
theorem out_sim (s : Sim K m S H) (e : H L = some (.lst vs)) (nm : L ∉ m) : Sim K m S (upd H L (.lst ws)) := by
  refine ⟨s.len, s.inj, fun n a c e1 e2 => ?_⟩
  have co := s.cel n a c e1 e2
  cases c with
  | lst xs =>
    obtain ⟨us, h, r⟩ := co
    exact ⟨us, by rw [upd_ne (fun z => nm (by rw [← z]; exact List.mem_of_getElem? e1))]; exact h, out_rvs e r⟩
  | dct _ => exact co
  | ins _ _ => exact co
theorem adopt_sim {xs : List D} (s : Sim K m S H) (e : H L = some (.lst vs)) (nm : L ∉ m) (r : RVs K m H xs vs) : Sim K (m ++ [L]) (S ++ [.lst xs]) H := by
  have pre : ∀ (n : Nat) a, m[n]? = some a → (m ++ [L])[n]? = some a := fun n a e => by
    rw [List.getElem?_append_left (List.getElem?_eq_some_iff.mp e).1]; exact e
  have mono : ∀ {ds : List D} {us : List V}, RVs K m H ds us → RVs K (m ++ [L]) H ds us := fun h => RVs.mono pre (fun _ _ h => h) (fun _ _ h => h) h
  refine ⟨by simp [s.len], fun i j a h1 h2 => ?_, fun n a c e1 e2 => ?_⟩
  · by_cases hi : i < m.length
    · rw [List.getElem?_append_left hi] at h1
      by_cases hj : j < m.length
      · rw [List.getElem?_append_left hj] at h2
        exact s.inj i j a h1 h2
      · rw [List.getElem?_append_right (by omega)] at h2
        obtain ⟨_, e⟩ := List.getElem?_eq_some_iff.mp h2
        have : L = a := by simpa using e
        subst this
        exact absurd (List.mem_of_getElem? h1) nm
    · rw [List.getElem?_append_right (by omega)] at h1
      obtain ⟨q, e⟩ := List.getElem?_eq_some_iff.mp h1
      have ea : L = a := by simpa using e
      subst ea
      by_cases hj : j < m.length
      · rw [List.getElem?_append_left hj] at h2
        exact absurd (List.mem_of_getElem? h2) nm
      · rw [List.getElem?_append_right (by omega)] at h2
        obtain ⟨q2, _⟩ := List.getElem?_eq_some_iff.mp h2
        simp at q q2
        omega
  · by_cases hn : n < m.length
    · rw [List.getElem?_append_left hn] at e1
      rw [List.getElem?_append_left (by rw [← s.len]; exact hn)] at e2
      have co := s.cel n a c e1 e2
      cases c with
      | lst ys =>
        obtain ⟨us, h, r⟩ := co
        exact ⟨us, h, mono r⟩
      | dct _ => exact co
      | ins _ _ => exact co
    · rw [List.getElem?_append_right (by omega)] at e1
      rw [List.getElem?_append_right (by rw [← s.len]; omega)] at e2
      obtain ⟨_, q1⟩ := List.getElem?_eq_some_iff.mp e1
      obtain ⟨_, q2⟩ := List.getElem?_eq_some_iff.mp e2
      have ea : L = a := by simpa using q1
      have ec : Cell.lst xs = c := by simpa using q2
      subst ea; subst ec
      exact ⟨vs, e, mono r⟩
end
/-- the end of a comprehension -/
def FinL (K : PySem.W.Frag) (m1 : List Addr) (H1 : Hp) (L : Addr) (Q : VK) : O (List D) → Prop
  | .ok acc S => ∀ m H vs, Ext m1 H1 m H → L ∉ m → Sim K m S H → H L = some (.lst vs) → RVs K m H acc vs → Q (.ref L) H
  | _ => False
theorem FinL.inv {K : PySem.W.Frag} {m1 : List Addr} {H1 : Hp} {L : Addr} {Q : VK} {α : Type} {o : O α} {k : α → Store → O (List D)} (h : FinL K m1 H1 L Q (o.bind k)) : ∃ a S, o = .ok a S ∧ FinL K m1 H1 L Q (k a S) := by
  cases o with | ok a S => exact ⟨a, S, rfl, h⟩ | ex _ _ => exact h.elim | no => exact h.elim
theorem lc_r {own : List Nat} {it : SI} {is : List Nat} {t : SG} {ts : ST} {el : SE} (his : ∀ i ∈ is, i ∈ own) {σ : L2.St} {H : Hp} {Q : VK} (h : tD X.K (eLc own it t ts el) σ H Q) :
    tLc (tDI X.K it) (tDG X.K is t) (tDT X.K ts) (tD X.K el) own σ H Q := by
  obtain ⟨m, S, g, hs, hr, hp⟩ := h
  obtain ⟨ik, S1, e1, hp⟩ := hp.inv
  refine ⟨m, S, g, hs, hr, ?_⟩
  rw [e1]
  intro m1 H1 J x1 s1 itok L hL
  have nL1 : L ∉ m1 := fun z => by
    obtain ⟨o, e, _⟩ := s1.mut z
    rw [hL] at e; cases e
  have hp := hp.weak x1
  have fin : FinL X.K m1 H1 L Q (lcLoop ik t ts el (wipeG g own) (ibound ik S1) 0 [] S1) := by
    obtain ⟨acc, S2, e2, hp⟩ := hp.inv
    rw [e2]
    intro m' H' vs x' nL s' eL r'
    refine hp (.ref L) (m' ++ [L]) H' ⟨fun n a e => ?_, fun a h1 n => ?_, x'.kee⟩ (adopt_sim s' eL nL r') (.loc ?_)
    · have e := x'.pre n a e
      rw [List.getElem?_append_left (List.getElem?_eq_some_iff.mp e).1]; exact e
    · rcases List.mem_append.mp h1 with z | z
      · exact x'.new a z n
      · have : a = L := by simpa using z
        subst this; exact hL
    · rw [← s'.len, List.getElem?_append_right (Nat.le_refl _)]
      simp
  have xL : Ext m1 H1 m1 (upd H1 L (.lst [])) := ext_new hL
  refine ⟨fun i k H => ∃ m S acc vs, Ext m1 H1 m H ∧ L ∉ m ∧ Sim X.K m S H ∧ H L = some (.lst vs) ∧ RVs X.K m H acc vs ∧ FinL X.K m1 H1 L Q (lcLoop ik t ts el (wipeG g own) k i acc S),
    ⟨_, m1, S1, [], [], xL, nL1, sim_new s1 hL, upd_same, .nil, fin⟩, ?_⟩
  rintro i k H ⟨m, S, acc, vs, xx, nL, hs', eL, ra, hp⟩
  cases k with
  | zero => exact hp.elim
  | succ k =>
    have hp : FinL X.K m1 H1 L Q (match istep ik i S with
      | some (some d) => (t d (wipeG g own) S).bind fun g' S => (ts g' S).bind fun c S => if c = true then (el g' S).bind fun y S => if acc.length < sizeLine then lcLoop ik t ts el (wipeG g own) k (i + 1) (acc ++ [y]) S else .no else lcLoop ik t ts el (wipeG g own) k (i + 1) acc S
      | some none => .ok acc S
      | none => .no) := hp
    cases est : istep ik i S with
    | none => rw [est] at hp; exact hp.elim
    | some od =>
      rw [est] at hp
      cases od with
      | none => exact .inl ⟨itok.stop m S H i xx hs' est, hp m H vs xx nL hs' eL ra⟩
      | some d =>
        obtain ⟨go, yl⟩ := itok.go m S H i d xx hs' est
        have hp : FinL X.K m1 H1 L Q ((t d (wipeG g own) S).bind _) := hp
        obtain ⟨g2, S2, e2, hp⟩ := hp.inv
        obtain ⟨c, S3, e3, hp⟩ := hp.inv
        refine .inr ⟨go, fun H => ∃ m S acc vs, Ext m1 H1 m H ∧ L ∉ m ∧ Sim X.K m S H ∧ H L = some (.lst vs) ∧ RVs X.K m H acc vs ∧ FinL X.K m1 H1 L Q (lcLoop ik t ts el (wipeG g own) k (i + 1) acc S), fun H' h => ⟨k, Nat.lt_succ_self k, h⟩, fun x H' hy => ?_⟩
        obtain ⟨xe, xs, xr⟩ := yl x H' hy
        have hrw : RVo X.K m H' (wipeG g own) (L2.wipe σ own) := ((hr.ext hs x1).ext s1 (xx.trans xe)).wipe own
        refine ⟨m, S, wipeG g own, d, xs, hrw, xr, ?_⟩
        rw [e2]
        intro σ2 m2 H2 x2 s2 r2 w2
        refine ⟨?_, m2, S2, g2, s2, r2, ?_⟩
        · rw [w2 own his]
          have ww : ∀ (a b : List Nat) (τ : L2.St), (∀ i ∈ b, i ∈ a) → L2.wipe (L2.wipe τ b) a = L2.wipe τ a := by
            intro a b τ
            induction b with
            | nil => intro _; rfl
            | cons z b ih =>
              intro hb
              show L2.wipe ((L2.wipe τ b).set z none) a = _
              rw [wipe_set (hb z List.mem_cons_self)]
              exact ih fun i hi => hb i (List.mem_cons_of_mem _ hi)
          exact ww own own σ fun _ h => h
        rw [e3]
        intro m3 H3 x3 s3
        have x23 : Ext m H m3 H3 := xe.trans (x2.trans x3)
        have nL3 : L ∉ m3 := fun z => by
          have := x23.new L z nL
          rw [eL] at this; cases this
        have eL3 : H3 L = some (.lst vs) := x23.kee L _ nL eL
        cases c with
        | false =>
          rw [if_neg Bool.false_ne_true] at hp ⊢
          exact ⟨m3, S3, acc, vs, xx.trans x23, nL3, s3, eL3, ra.ext hs' x23, hp⟩
        | true =>
          rw [if_pos rfl] at hp ⊢
          obtain ⟨y, S4, e4, hp⟩ := hp.inv
          refine ⟨m3, S3, g2, s3, r2.ext s2 x3, ?_⟩
          rw [e4]
          intro v4 m4 H4 x4 s4 r4
          have x24 := x23.trans x4
          have nL4 : L ∉ m4 := fun z => by
            have := x24.new L z nL
            rw [eL] at this; cases this
          have eL4 : H4 L = some (.lst vs) := x24.kee L _ nL eL
          split at hp
          · rename_i hz
            have ra4 := ra.ext hs' x24
            refine ⟨vs, eL4, by rw [← ra.length]; exact hz, m4, S4, acc ++ [y], vs ++ [v4], ?_, nL4, out_sim s4 eL4 nL4, upd_same, (out_rvs eL4 ra4).append (.cons (out_rv eL4 r4) .nil), hp⟩
            have z := xx.trans x24
            exact ⟨z.pre, z.new, fun a o n e => by rw [upd_ne (ne_of_none e hL)]; exact z.kee a o n e⟩
          · exact hp.elim
theorem mts_nil {Y : Cx} : PTs Y [] (tDT Y.K tsNil) := ⟨fun pins s σ H Q I ⟨m, S, g, hs, hr, hp⟩ => pts_nil.run pins s σ H Q I (hp m H Ext.refl hs)⟩
end
end Mz

end

section
set_option Elab.async false
set_option linter.all false
set_option maxRecDepth 100000
namespace Mz
open PySem PySem.Spec L2

/-! ### the forms of the text -/
def noStar : Expr → Bool
  | .Starred _ _ => false
  | _ => true
def noComp : Expr → Bool
  | .ListComp _ _ _ _ => false | .SetComp _ _ _ _ => false | .DictComp _ _ _ _ _ => false
  | _ => true
def noSlice : Expr → Bool
  | .Slice _ _ _ _ => false
  | _ => true
def noSet : Expr → Bool
  | .Set _ _ _ => false
  | _ => true
def noTup : Expr → Bool
  | .Tuple _ _ _ => false
  | _ => true
def noCall0 : Expr → Bool
  | .Call (.Name _ _) [] [] _ => false
  | _ => true
def plainT : Expr → Bool
  | .UnaryOp .Not _ _ => false | .BoolOp _ _ _ => false | .IfExp _ _ _ _ => false | .Compare _ _ _ _ => false
  | _ => true
section
variable {env : Env}
theorem star_ok {e : Expr} (es : List Expr) (h : noStar e = true) : starEach (e :: es) env = (false, eval e env) :: starEach es env := by
  cases e <;> first | rfl | cases h
theorem star_any (pos : Pos) : ∀ {es : List Expr}, es.all noStar = true → (backTo pos (starEach es env)).any (·.1) = false
  | [], _ => rfl
  | e :: es, h => by
    simp only [List.all_cons, Bool.and_eq_true] at h
    rw [star_ok es h.1]
    show ((false : Bool) || (backTo pos (starEach es env)).any (·.1)) = false
    rw [star_any pos h.2]; rfl
theorem star_all (pos : Pos) : ∀ {es : List Expr}, es.all noStar = true → (backTo pos (starEach es env)).all (fun x => !x.1) = true
  | [], _ => rfl
  | e :: es, h => by
    simp only [List.all_cons, Bool.and_eq_true] at h
    rw [star_ok es h.1]
    show ((true : Bool) && (backTo pos (starEach es env)).all (fun x => !x.1)) = true
    rw [star_all pos h.2]; rfl
theorem base_ok {o : Expr} {a : Str} {wh : Sem Value} (h : noCall0 o = true) : attributeBase o a env wh = wh := by
  unfold attributeBase
  split
  · cases h
  · rfl
theorem sw_ok {e : Expr} {t : Option Expr} {l : Nat} (h : noComp e = true) : swapsWith e t l env = pure false := by
  cases e <;> first | rfl | cases h
theorem ix_ok {b : Expr} (h : noSlice b = true) : PlainIx b := by
  intro o i
  cases b <;> first | rfl | cases h
theorem set_ok {e : Expr} (h : noSet e = true) : ∀ x, foldedSetIterable e env x = pure x := by
  intro x
  cases e <;> first | rfl | cases h
theorem mark_ok {e : Expr} {op : CmpOp} (h : noSet e = true) : behindInMarks op e = false := by
  cases e <;> first | rfl | cases h
theorem last_ok {b c : Expr} {p q : CmpOp} (h : noSet c = true) : lastMarks [p, q] [b, c] = false := by
  show behindInMarks q c = false
  exact mark_ok h
theorem plain_ok {e : Expr} (h : plainT e = true) : ∀ wh, isTrue e env wh = (do let v ← wh; standAt e.pos; holding [v] (truthy v)) := by
  intro wh
  cases e with
  | UnaryOp op x p => cases op <;> first | rfl | cases h
  | _ => first | rfl | cases h
theorem asg_each {e : Expr} (es : List Expr) (h : noStar e = true) : assignEach (e :: es) env = (false, assign e env) :: assignEach es env := by
  cases e <;> first | rfl | cases h
theorem asg_len : ∀ {es : List Expr}, es.all noStar = true → (assignEach es env).length = es.length
  | [], _ => rfl
  | e :: es, h => by
    simp only [List.all_cons, Bool.and_eq_true] at h
    rw [asg_each es h.1, List.length_cons, asg_len h.2, List.length_cons]
theorem asg_idx : ∀ {es : List Expr}, es.all noStar = true → (assignEach es env).findIdx? (·.1) = none
  | [], _ => rfl
  | e :: es, h => by
    simp only [List.all_cons, Bool.and_eq_true] at h
    rw [asg_each es h.1, List.findIdx?_cons]
    simp [asg_idx h.2]
theorem stores_ok {t e : Expr} (h : noTup e = true) : swappedStores [t] e env = pure none := by
  cases e <;> first | (cases t <;> rfl) | cases h
theorem asg_sub {o i : Expr} {pos : Pos} (h : noSlice i = true) : ∀ v, assign (.Subscript o i pos) env v = (do
      let ov ← holding [v] (eval o env)
      let iv ← holding [v, ov] (eval i env)
      standAt pos
      holding [v, ov, iv] (setItem ov iv v)
      release [v, ov, iv] []) := by
  intro v
  cases i <;> first | rfl | cases h
end

/-! ### the small text -/
inductive T where
  | nil | cons (a b : T)
  | var (i : Nat) | glb (x : Str)
  | int (i : Int) | str (x : Str) | bl (b : Bool) | non
  | bin (p : Bop) (a b : T) | cmp (p : Cop) (a b : T) | chain (p q : Cop) (a b c : T)
  | neg (a : T) | nt (a : T) | and (a b : T) | or (a b : T) | ife (t a b : T)
  | tup (as : T) | lst (as : T) | sub (a b : T) | sli (a lo hi : T) | rev (a : T)
  | call (f : Str) (as : T) | blt (p : Blt) (as : T) | mth (p : Mth) (o as : T)
  | lc (own : List Nat) (tg it ts el : T)
  | fst (as : T) | fmt (a : T) | isi (p : Ity) (a : T)
  | irng (as : T) | ienum (as : T) | izip (as : T)
  | asg (tg e : T) | alc (i : Nat) (own : List Nat) (tg it ts el : T) | aug (i : Nat) (p : Bop) (e : T) | par (i j : Nat) (as : T) | par3 (i j k : Nat) (as : T)
  | ifs (t a b : T) | whl (n : Nat) (t b : T) | for_ (tg it b : T)
  | ret (e : T) | retN | ex (e : T) | pas | brk | cnt

/-- the program around: its defs and constants -/
structure PSt where
  ar : Str → Nat
  fns : List Str
  gls : List Str
structure PEnv where
  F : Str → List D → Store → O D
  G : Str → Option D
  st : PSt
/-- the slots that a target stores -/
def slots : T → List Nat
  | .var i => [i]
  | .tup as => slots as
  | .cons x r => slots x ++ slots r
  | _ => []

structure Sm where
  e : SE := fun _ _ => .no
  a : SA := fun _ _ => .no
  t : ST := fun _ _ => .no
  s : SS := fun _ _ => .no
  b : SS := fun _ _ => .no
  g : SG := fun _ _ _ => .no
  gs : SGs := fun _ _ _ => .no
  i : SI := fun _ _ => .no
  o : SO := fun _ _ => .no
  j : Str → SE := fun _ _ _ => .no
def ofE (f : SE) : Sm := { e := f, t := eTru f, i := iVal f, o := oSome f }
def sem (E : PEnv) : T → Sm
  | .nil => { a := aNil, b := sNil, gs := gsNil, o := oNone, t := tsNil, j := jNil }
  | .cons x r => { a := aCons (sem E x).e (sem E r).a, b := sCons (sem E x).s (sem E r).b, gs := gsCons (sem E x).g (sem E r).gs, t := (sem E x).t, j := jCons (sem E x).e (sem E r).j }
  | .var i => { ofE (eVar i) with g := gVar i }
  | .glb x => ofE fun _ S => match E.G x with | some d => .ok d S | none => .no
  | .int i => ofE (eCst (.int i))
  | .str x => ofE (eCst (.str x))
  | .bl b => ofE (eCst (.bl b))
  | .non => ofE (eCst .non)
  | .bin p a b => ofE (eBin (semBop p) (sem E a).e (sem E b).e)
  | .cmp p a b => ofE (eBin (semCop p) (sem E a).e (sem E b).e)
  | .chain p q a b c => ofE (eChain p q (sem E a).e (sem E b).e (sem E c).e)
  | .neg a => ofE (eNeg (sem E a).e)
  | .nt a => { ofE (eNot (sem E a).e) with t := tNotS (sem E a).t }
  | .and a b => { ofE (eAnd (sem E a).e (sem E b).e) with t := tAndS (sem E a).t (sem E b).t }
  | .or a b => { ofE (eOr (sem E a).e (sem E b).e) with t := tOrS (sem E a).t (sem E b).t }
  | .ife t a b => { ofE (eIf (sem E t).t (sem E a).e (sem E b).e) with t := tIfS' (sem E t).t (sem E a).t (sem E b).t }
  | .tup as => { ofE (eTup (sem E as).a) with g := gTupD (sem E as).gs }
  | .lst as => ofE (eLst (sem E as).a)
  | .sub a b => { ofE (eBin semItem (sem E a).e (sem E b).e) with g := gSubD (sem E a).e (sem E b).e }
  | .sli a lo hi => ofE (eSli (sem E a).e (sem E lo).o (sem E hi).o)
  | .rev a => ofE (eRev (sem E a).e)
  | .call f as => ofE (eL (E.F f) (sem E as).a)
  | .blt p as => ofE (eL (semBlt p) (sem E as).a)
  | .mth p o as => ofE (eM p (sem E o).e (sem E as).a)
  | .lc own tg it ts el => ofE (eLc own (sem E it).i (sem E tg).g (sem E ts).t (sem E el).e)
  | .fst as => ofE ((sem E as).j Str.empty)
  | .fmt a => ofE (eUn fmtD (sem E a).e)
  | .isi p a => ofE (eUn (semIsi p) (sem E a).e)
  | .irng as => { i := iRng (sem E as).a }
  | .ienum as => { i := iEnumD (sem E as).a }
  | .izip as => { i := iZipD (sem E as).a }
  | .asg tg e => { s := sAsg (sem E e).e (sem E tg).g }
  | .alc i own tg it ts el => { s := sAsg (eLc own (sem E it).i (sem E tg).g (sem E ts).t (sem E el).e) (gVar i) }
  | .aug i p e => { s := sAug i p (sem E e).e }
  | .par i j as => { s := sPar i j (sem E as).a }
  | .par3 i j k as => { s := sPar3 i j k (sem E as).a }
  | .ifs t a b => { s := sIf (sem E t).t (sem E a).b (sem E b).b }
  | .whl n t b => { s := wloop (sem E t).t (sem E b).b n }
  | .for_ tg it b => { s := sFor (sem E it).i (sem E tg).g (sem E b).b }
  | .ret e => { s := sRet (sem E e).e }
  | .retN => { s := sRetN }
  | .ex e => { s := sEx (sem E e).e }
  | .pas => { s := sNil }
  | .brk => { s := sBrk }
  | .cnt => { s := sCnt }

/-! ### the look at the text -/
structure C0 where
  N : List Str
  sc : Scope
  top : Bool
def visB (c : C0) (x : Str) (i : Nat) : Bool := decide (c.N[i]? = some x) && (match c.sc.names.lookup x with | some .local => true | some .cell => true | some .free => true | _ => false) && !(x == ("__debug__" : Str)) && !(x == ("__classdict__" : Str))
def locB (c : C0) (x : Str) (i : Nat) : Bool := decide (c.N[i]? = some x) && (match c.sc.names.lookup x with | some .local => true | some .cell => c.top | _ => false)
def lclB (c : C0) (x : Str) (i : Nat) : Bool := decide (c.N[i]? = some x) && (match c.sc.names.lookup x with | some .local => true | _ => false)
def glB (c : C0) (x : Str) : Bool := (match c.sc.names.lookup x with | some .globalImplicit => true | _ => false) && !(x == ("__debug__" : Str)) && decide (x ≠ ("__name__" : Str))
structure Ck where
  e : C0 → Expr → Bool := fun _ _ => false
  a : C0 → List Expr → Bool := fun _ _ => false
  ts : C0 → List Expr → Bool := fun _ _ => false
  s : C0 → Stmt → Bool := fun _ _ => false
  b : C0 → List Stmt → Bool := fun _ _ => false
  g : C0 → Expr → Bool := fun _ _ => false
  gs : C0 → List Expr → Bool := fun _ _ => false
  i : C0 → Expr → Expr → Bool := fun _ _ _ => false
  o : C0 → Option Expr → Bool := fun _ _ => false
  j : C0 → List Expr → Bool := fun _ _ => false
def ckE (p : C0 → Expr → Bool) : Ck := { e := p, i := fun c _ e => p c e, o := fun c o => match o with | some e => p c e | none => false }
def ckLc (K : C0 → Expr → Expr → Bool) (g : C0 → Expr → Bool) (ts : C0 → List Expr → Bool) (el : C0 → Expr → Bool) (own is : List Nat) : C0 → Expr → Bool := fun c e => match e with
  | .ListComp elt [⟨tg, iter, ifs, 0⟩] scope _ =>
    let own' := own.filterMap fun i => (c.N[i]?).map fun x => (x, i)
    let c' : C0 := ⟨c.N, relS scope c.sc, false⟩
    decide (own'.map (·.2) = own) && blkC c.N c.sc scope own' && K c tg iter && noSet iter && g c' tg && ts c' ifs && el c' elt && is.all fun i => decide (i ∈ own)
  | _ => false
def swB (c : C0) (y : Str) (pl : Nat) : Expr → Bool
  | .ListComp _ _ scope pos => (match c.sc.names.lookup y with | some .local => true | _ => false) && (pl == pos.line) && !(scope.names.any fun (n, k) => n == y && (k == .local || k == .cell))
  | _ => false
/-- two or three plain local names at once -/
def parB (c : C0) (ts vs : List Expr) (xs : List Str) : Bool :=
  vs.all noStar && (ts.all fun t => match t with | .Name x p => (c.sc.names.lookup x == some .local) && (p.line == (ts.head?.map (·.pos.line)).getD 0) | _ => false) && decide (xs.eraseDups.length = xs.length) && !(vs.all (foldedForSure 8)) && !(vs.all (constantsAlone 8))
def chk (E : PSt) : T → Ck
  | .nil => { a := fun _ es => es.isEmpty, b := fun _ es => es.isEmpty, gs := fun _ es => es.isEmpty, o := fun _ o => o.isNone, ts := fun _ es => es.isEmpty, j := fun _ es => es.isEmpty }
  | .cons x r => {
      a := fun c es => match es with | e :: es => noStar e && (chk E x).e c e && (chk E r).a c es | [] => false
      b := fun c es => match es with | e :: es => (chk E x).s c e && (chk E r).b c es | [] => false
      gs := fun c es => match es with | e :: es => noStar e && (chk E x).g c e && (chk E r).gs c es | [] => false
      ts := fun c es => match es with | [e] => (chk E x).e c e | _ => false
      j := fun c es => match es with | e :: es => (chk E x).e c e && (chk E r).j c es | [] => false }
  | .var i => { ckE (fun c e => match e with | .Name x _ => visB c x i | _ => false) with g := fun c e => match e with | .Name x _ => locB c x i | _ => false }
  | .glb y => ckE fun c e => match e with | .Name x _ => decide (x = y) && glB c x && decide (x ∈ E.gls) | _ => false
  | .int i => ckE fun _ e => match e with | .Constant (.int j) _ _ => decide (i = j) | _ => false
  | .str x => ckE fun _ e => match e with | .Constant (.str y) _ _ => decide (x = y) | _ => false
  | .bl b => ckE fun _ e => match e with | .Constant (.bool y) _ _ => decide (b = y) | _ => false
  | .non => ckE fun _ e => match e with | .Constant .none _ _ => true | _ => false
  | .bin p a b => ckE fun c e => match e with | .BinOp l op r _ => decide (op = p.op) && (chk E a).e c l && (chk E b).e c r | _ => false
  | .cmp p a b => ckE fun c e => match e with | .Compare l [op] [r] _ => decide (op = p.op) && (chk E a).e c l && (chk E b).e c r && noSet r | _ => false
  | .chain p q a b d => ckE fun c e => match e with | .Compare l [op, op'] [r, r'] _ => decide (op = p.op) && decide (op' = q.op) && (chk E a).e c l && (chk E b).e c r && (chk E d).e c r' && noSet r' | _ => false
  | .neg a => ckE fun c e => match e with | .UnaryOp .USub x _ => (chk E a).e c x | _ => false
  | .nt a => ckE fun c e => match e with | .UnaryOp .Not x _ => (chk E a).e c x | _ => false
  | .and a b => ckE fun c e => match e with | .BoolOp .And [x, y] _ => (chk E a).e c x && (chk E b).e c y | .BoolOp .And (x :: y :: z :: r) p => (chk E a).e c x && (chk E b).e c (.BoolOp .And (y :: z :: r) p) | _ => false
  | .or a b => ckE fun c e => match e with | .BoolOp .Or [x, y] _ => (chk E a).e c x && (chk E b).e c y | .BoolOp .Or (x :: y :: z :: r) p => (chk E a).e c x && (chk E b).e c (.BoolOp .Or (y :: z :: r) p) | _ => false
  | .ife t a b => ckE fun c e => match e with | .IfExp x y z _ => (chk E t).e c x && (chk E a).e c y && (chk E b).e c z | _ => false
  | .tup as => { ckE (fun c e => match e with | .Tuple es _ _ => (chk E as).a c es | _ => false) with g := fun c e => match e with | .Tuple es _ _ => (chk E as).gs c es | _ => false }
  | .lst as => ckE fun c e => match e with | .List es _ => (chk E as).a c es | _ => false
  | .sub a b => { ckE (fun c e => match e with | .Subscript x y _ => (chk E a).e c x && (chk E b).e c y && noSlice y | _ => false) with g := fun c e => match e with | .Subscript x y _ => (chk E a).e c x && (chk E b).e c y && noSlice y | _ => false }
  | .sli a lo hi => ckE fun c e => match e with | .Subscript x (.Slice l h none _) _ => (chk E a).e c x && (chk E lo).o c l && (chk E hi).o c h | _ => false
  | .rev a => ckE fun c e => match e with | .Subscript x (.Slice none none (some (.UnaryOp .USub (.Constant (.int 1) _ _) _)) _) _ => (chk E a).e c x | _ => false
  | .call f as => ckE fun c e => match e with | .Call (.Name x _) es [] _ => decide (x = f) && glB c x && decide (x ∈ E.fns) && decide (es.length = E.ar f) && (chk E as).a c es && es.all noStar | _ => false
  | .blt p as => ckE fun c e => match e with | .Call (.Name x _) (e :: es) [] _ => decide (x = p.name) && glB c x && (chk E as).a c (e :: es) && (e :: es).all noStar | _ => false
  | .mth p o as => ckE fun c e => match e with | .Call (.Attribute x n q) es [] r => decide (n = p.name) && (q.endLine == r.line) && noCall0 x && (chk E o).e c x && (chk E as).a c es && es.all noStar && decide (es.length < 29) | _ => false
  | .lc own tg it ts el => ckE (ckLc (chk E it).i (chk E tg).g (chk E ts).ts (chk E el).e own (slots tg))
  | .fst as => ckE fun c e => match e with | .JoinedStr (x :: y :: r) _ => (chk E as).j c (x :: y :: r) | _ => false
  | .fmt a => ckE fun c e => match e with | .FormattedValue x (-1) none _ => (chk E a).e c x | _ => false
  | .isi p a => ckE fun c e => match e with | .Call (.Name x _) [y, .Name z _] [] _ => decide (x = ("isinstance" : Str)) && decide (z = (p.nm : Str)) && glB c x && glB c z && (chk E a).e c y && noStar y | _ => false
  | .irng as => { i := fun c _ e => match e with | .Call (.Name x _) es [] _ => decide (x = ("range" : Str)) && glB c x && (chk E as).a c es && es.all noStar && (es.length == 1 || es.length == 2) | _ => false }
  | .ienum as => { i := fun c t e => match e with | .Call (.Name x _) es [] _ => decide (x = ("enumerate" : Str)) && !(noTup t) && glB c x && (chk E as).a c es && es.all noStar && es.length == 1 | _ => false }
  | .izip as => { i := fun c t e => match e with | .Call (.Name x _) es [] _ => decide (x = ("zip" : Str)) && !(noTup t) && glB c x && (chk E as).a c es && es.all noStar && es.length == 2 | _ => false }
  | .asg tg e => { s := fun c s => match s with
      | .Assign [.Name x p] v q => (chk E e).e c v && noComp v && (chk E tg).g c (.Name x p) && (match tg with | .var i => locB c x i | _ => false)
      | .Assign [t] v _ => (chk E e).e c v && noComp v && noTup v && (chk E tg).g c t
      | _ => false }
  | .alc i own tg it ts el => { s := fun c s => match s with
      | .Assign [.Name y p] v q => ckLc (chk E it).i (chk E tg).g (chk E ts).ts (chk E el).e own (slots tg) c v && lclB c y i && swB c y p.line v
      | _ => false }
  | .aug i p e => { s := fun c s => match s with | .AugAssign (.Name x _) op v _ => decide (op = p.op) && (p == .add || p == .sub) && locB c x i && (chk E e).e c v | _ => false }
  | .par i j as => { s := fun c s => match s with
      | .Assign [.Tuple [.Name x p, .Name y p'] k1 q1] (.Tuple vs k2 q2) _ => lclB c x i && lclB c y j && decide (i ≠ j) && (chk E as).a c vs && (vs.length == 2) && parB c [.Name x p, .Name y p'] vs [x, y]
      | _ => false }
  | .par3 i j k as => { }
  | .ifs t a b => { s := fun c s => match s with | .If x y z _ => (chk E t).e c x && (chk E a).b c y && (chk E b).b c z | _ => false }
  | .whl _ t b => { s := fun c s => match s with | .While x y [] _ => (chk E t).e c x && (chk E b).b c y | _ => false }
  | .for_ tg it b => { s := fun c s => match s with | .For x y z [] _ => (chk E it).i c x y && noSet y && (chk E tg).g c x && (chk E b).b c z | _ => false }
  | .ret e => { s := fun c s => match s with | .Return (some x) _ => (chk E e).e c x | _ => false }
  | .retN => { s := fun c s => match s with | .Return none _ => true | _ => false }
  | .ex e => { s := fun c s => match s with | .Expr x _ => (chk E e).e c x && noComp x | _ => false }
  | .pas => { s := fun c s => match s with | .Pass _ => true | _ => false }
  | .brk => { s := fun c s => match s with | .Break _ => true | _ => false }
  | .cnt => { s := fun c s => match s with | .Continue _ => true | _ => false }

/-! ### where one stands -/
def bltNames : List Str := ["len", "abs", "max", "min", "int", "str", "ord", "list", "tuple", "all", "any", "sum", "range", "enumerate", "zip", "isinstance", "bool", "sorted", "repr", "dict", "set"]
structure Good (E : PEnv) (k : Nat) (c : C0) (X : Cx) : Prop where
  hN : X.N = c.N
  nd : c.N.Nodup
  sc : X.env.scope = c.sc
  kd : c.sc.kind = .function
  calm : X.calm = true
  fn : c.top = true → ∀ x, X.fn x = true
  xe : X.xe = fun _ _ => False
  room : Room k X.A
  fns : ∀ f ∈ E.st.fns, ∃ a fd ps, ps.length = E.st.ar f ∧ X.mg f = some (.ref a) ∧ PySem.W.keepIn X.K (.ref a) = true ∧ Binds X.K fd ps [] ∧ FnOk X.prog X.w X.K X.mg X.base CX0 k a fd ps (spD X.K (E.st.ar f) (E.F f))
  gls : ∀ x ∈ E.st.gls, ∃ d u v, E.G x = some d ∧ X.mg x = some u ∧ RelV v u ∧ ∀ m H, RV X.K m H d v
  blt : ∀ x ∈ bltNames, X.mg x = none
end Mz

end

section
set_option Elab.async false
set_option linter.all false
set_option maxRecDepth 100000
set_option maxHeartbeats 4000000
namespace Mz
open PySem PySem.Spec L2

structure Snd (E : PEnv) (k : Nat) (u : T) : Prop where
  e : ∀ {c X e}, Good E k c X → (chk E.st u).e c e = true → PE X e (tD X.K (sem E u).e)
  t : ∀ {c X e}, Good E k c X → (chk E.st u).e c e = true → PT X e (tDT X.K (sem E u).t)
  w : ∀ {c X op vs pos}, Good E k c X → (chk E.st u).e c (.BoolOp op vs pos) = true → PW X (.BoolOp op vs pos) (tDT X.K (sem E u).t)
  a : ∀ {c X es}, Good E k c X → (chk E.st u).a c es = true → PA X es (tDA X.K (sem E u).a) ∧ ∀ g S ds S', (sem E u).a g S = .ok ds S' → ds.length = es.length
  ts : ∀ {c X es}, Good E k c X → (chk E.st u).ts c es = true → PTs X es (tDT X.K (sem E u).t)
  s : ∀ {c X st}, Good E k c X → (chk E.st u).s c st = true → PS X st (tDS X.K (sem E u).s)
  b : ∀ {c X st}, Good E k c X → (chk E.st u).b c st = true → PSs X st (tDS X.K (sem E u).b)
  g : ∀ {c X e}, Good E k c X → (chk E.st u).g c e = true → PG X e (tDG X.K (slots u) (sem E u).g)
  gs : ∀ {c X es}, Good E k c X → (chk E.st u).gs c es = true → PGs X es (tDGs X.K (slots u) (sem E u).gs) ∧ es.all noStar = true ∧ ∀ ds g S g' S', (sem E u).gs ds g S = .ok g' S' → ds.length = es.length
  i : ∀ {c X tg e}, Good E k c X → (chk E.st u).i c tg e = true → PI X tg e (tDI X.K (sem E u).i)
  o : ∀ {c X o}, Good E k c X → (chk E.st u).o c o = true → PO X o (tDO X.K (sem E u).o)
  j : ∀ {c X es}, Good E k c X → (chk E.st u).j c es = true → ∃ ts, PJ X es ts ∧ ∀ acc σ H Q, tD X.K ((sem E u).j acc) σ H Q → tJs ts acc σ H fun out H1 => Q (.str out) H1

theorem Good.blk {E : PEnv} {k : Nat} {c : C0} {X : Cx} (G : Good E k c X) (scope : Scope) (hk : scope.kind = .function) (s : Shared) (H : Hp) (C : Addr) (cl : List (Str × Addr)) (fp : List Addr) : Good E k ⟨c.N, relS scope c.sc, false⟩ (X.blk s H scope (compEnvC scope cl C X.env) fp) where
  hN := G.hN
  nd := G.nd
  sc := by
    show relabel scope X.env = relS scope c.sc
    unfold relabel relS
    rw [← G.sc]
    rfl
  kd := hk
  calm := G.calm
  fn := fun h => by cases h
  xe := rfl
  room := G.room
  fns := G.fns
  gls := G.gls
  blt := G.blt

section
variable {E : PEnv} {k : Nat} {c : C0} {X : Cx}
theorem vis_of (G : Good E k c X) {x : Str} {i : Nat} (h : visB c x i = true) : X.N[i]? = some x ∧ Vis X.env.scope x ∧ (x == ("__debug__" : Str)) = false ∧ (x == ("__classdict__" : Str)) = false := by
  unfold visB at h
  simp only [Bool.and_eq_true, decide_eq_true_eq, Bool.not_eq_true'] at h
  obtain ⟨⟨⟨h1, h2⟩, h3⟩, h4⟩ := h
  refine ⟨by rw [G.hN]; exact h1, ?_, h3, h4⟩
  rw [G.sc]
  unfold Vis
  split at h2 <;> first | cases h2 | skip
  · exact .inl (by assumption)
  · exact .inr (.inl (by assumption))
  · exact .inr (.inr (by assumption))
theorem loc_of (G : Good E k c X) {x : Str} {i : Nat} (h : locB c x i = true) : X.N.Nodup ∧ X.N[i]? = some x ∧ L2.Loc X.env.scope x ∧ (X.fn x = true ∨ X.env.scope.names.lookup x = some .local) := by
  unfold locB at h
  simp only [Bool.and_eq_true, decide_eq_true_eq] at h
  obtain ⟨h1, h2⟩ := h
  refine ⟨by rw [G.hN]; exact G.nd, by rw [G.hN]; exact h1, ?_⟩
  rw [G.sc]
  unfold L2.Loc
  split at h2 <;> first | cases h2 | skip
  · exact ⟨.inl (by assumption), .inr (by assumption)⟩
  · exact ⟨.inr (by assumption), .inl (G.fn h2 x)⟩
theorem lcl_of (G : Good E k c X) {x : Str} {i : Nat} (h : lclB c x i = true) : X.N.Nodup ∧ X.N[i]? = some x ∧ X.env.scope.names.lookup x = some .local := by
  unfold lclB at h
  simp only [Bool.and_eq_true, decide_eq_true_eq] at h
  obtain ⟨h1, h2⟩ := h
  refine ⟨by rw [G.hN]; exact G.nd, by rw [G.hN]; exact h1, ?_⟩
  rw [G.sc]
  split at h2 <;> first | cases h2 | skip
  assumption
theorem gl_of (G : Good E k c X) {x : Str} (h : glB c x = true) : Gl X x ∧ (x == ("__debug__" : Str)) = false ∧ x ≠ "__name__" := by
  unfold glB at h
  simp only [Bool.and_eq_true, decide_eq_true_eq, Bool.not_eq_true'] at h
  obtain ⟨⟨h1, h2⟩, h3⟩ := h
  refine ⟨?_, h2, h3⟩
  show X.env.scope.names.lookup x = some .globalImplicit
  rw [G.sc]
  split at h1 <;> first | cases h1 | skip
  assumption
theorem never (G : Good E k c X) : PassesOwn (model X.prog X.w) X.A X.env X.xe := by rw [G.xe]; exact PassesOwn.never

/-- an expression's form: all from its PE -/
theorem sndE {t : T} {p : C0 → Expr → Bool} {f : SE} (hc : chk E.st t = ckE p) (hs : sem E t = ofE f) (he : ∀ {c X e}, Good E k c X → p c e = true → PE X e (tD X.K f))
    (ht : ∀ {c X e}, Good E k c X → p c e = true → plainT e = false → PT X e (tDT X.K (eTru f))) (hw : ∀ {c op vs pos}, p c (.BoolOp op vs pos) = false) : Snd E k t := by
  refine ⟨fun {c X e} G h => ?_, fun {c X e} G h => ?_, fun {c X op vs pos} G h => ?_, fun {c X es} G h => ?_, fun {c X es} G h => ?_, fun {c X es} G h => ?_, fun {c X es} G h => ?_, fun {c X es} G h => ?_, fun {c X es} G h => ?_, fun {c X tg e} G h => ?_, fun {c X o} G h => ?_, fun {c X es} G h => ?_⟩
  · rw [hc] at h; rw [hs]; exact he G h
  · rw [hc] at h; rw [hs]
    cases hp : plainT e with
    | true => exact me_truth (he G h) (plain_ok hp)
    | false => exact ht G h hp
  · rw [hc] at h
    have : p c (.BoolOp op vs pos) = true := h
    rw [hw] at this; cases this
  · rw [hc] at h; cases h
  · rw [hc] at h; cases h
  · rw [hc] at h; cases h
  · rw [hc] at h; cases h
  · rw [hc] at h; cases h
  · rw [hc] at h; cases h
  · rw [hc] at h; rw [hs]; exact mi_val (he G h)
  · rw [hc] at h; rw [hs]
    cases o with
    | none => cases h
    | some e => exact mo_some (he G h)
  · rw [hc] at h; cases h
/-- a statement's -/
theorem sndS {t : T} {p : C0 → Stmt → Bool} {f : SS} (hc : chk E.st t = { s := p }) (hs : sem E t = { s := f }) (he : ∀ {c X st}, Good E k c X → p c st = true → PS X st (tDS X.K f)) : Snd E k t := by
  refine ⟨fun {c X e} G h => ?_, fun {c X e} G h => ?_, fun {c X op vs pos} G h => ?_, fun {c X es} G h => ?_, fun {c X es} G h => ?_, fun {c X es} G h => ?_, fun {c X es} G h => ?_, fun {c X es} G h => ?_, fun {c X es} G h => ?_, fun {c X tg e} G h => ?_, fun {c X o} G h => ?_, fun {c X es} G h => ?_⟩
  all_goals rw [hc] at h
  case refine_6 => rw [hs]; exact he G h
  all_goals cases h
theorem sndI {t : T} {p : C0 → Expr → Expr → Bool} {f : SI} (hc : chk E.st t = { i := p }) (hs : sem E t = { i := f }) (he : ∀ {c X tg e}, Good E k c X → p c tg e = true → PI X tg e (tDI X.K f)) : Snd E k t := by
  refine ⟨fun {c X e} G h => ?_, fun {c X e} G h => ?_, fun {c X op vs pos} G h => ?_, fun {c X es} G h => ?_, fun {c X es} G h => ?_, fun {c X es} G h => ?_, fun {c X es} G h => ?_, fun {c X es} G h => ?_, fun {c X es} G h => ?_, fun {c X tg e} G h => ?_, fun {c X o} G h => ?_, fun {c X es} G h => ?_⟩
  all_goals rw [hc] at h
  case refine_10 => rw [hs]; exact he G h
  all_goals cases h

theorem snd_nil : Snd E k .nil := by
  refine ⟨fun {c X e} G h => ?_, fun {c X e} G h => ?_, fun {c X op vs pos} G h => ?_, fun {c X es} G h => ?_, fun {c X es} G h => ?_, fun {c X es} G h => ?_, fun {c X es} G h => ?_, fun {c X es} G h => ?_, fun {c X es} G h => ?_, fun {c X tg e} G h => ?_, fun {c X o} G h => ?_, fun {c X es} G h => ?_⟩
  · cases h
  · cases h
  · cases h
  · cases es with
    | nil => exact ⟨ma_nil, fun g S ds S' e => by cases e; rfl⟩
    | cons _ _ => cases h
  · cases es with
    | nil => exact mts_nil
    | cons _ _ => cases h
  · cases h
  · cases es with
    | nil => exact mb_nil
    | cons _ _ => cases h
  · cases h
  · cases es with
    | nil => exact ⟨mgs_nil, rfl, fun ds g S g' S' e => by cases ds with | nil => rfl | cons _ _ => cases e⟩
    | cons _ _ => cases h
  · cases h
  · cases o with
    | none => exact mo_none
    | some _ => cases h
  · cases es with
    | nil => exact ⟨[], .nil, fun acc σ H Q h => js_nil h⟩
    | cons _ _ => cases h
theorem acons_len {f : SE} {r : SA} {n : Nat} (h : ∀ g S ds S', r g S = .ok ds S' → ds.length = n) : ∀ g S ds S', aCons f r g S = .ok ds S' → ds.length = n + 1 := by
  intro g S ds S' e
  unfold aCons at e
  cases e1 : f g S with
  | ok x S1 =>
    rw [e1, O.bind_ok] at e
    cases e2 : r g S1 with
    | ok y S2 => rw [e2, O.bind_ok] at e; cases e; rw [List.length_cons, h _ _ _ _ e2]
    | ex _ _ => rw [e2] at e; cases e
    | no => rw [e2] at e; cases e
  | ex _ _ => rw [e1] at e; cases e
  | no => rw [e1] at e; cases e
theorem gcons_len {f : SG} {r : SGs} {n : Nat} (h : ∀ ds g S g' S', r ds g S = .ok g' S' → ds.length = n) : ∀ ds g S g' S', gsCons f r ds g S = .ok g' S' → ds.length = n + 1 := by
  intro ds g S g' S' e
  cases ds with
  | nil => cases e
  | cons d ds =>
    have e : (f d g S).bind (fun g S => r ds g S) = .ok g' S' := e
    cases e1 : f d g S with
    | ok x S1 => rw [e1, O.bind_ok] at e; rw [List.length_cons, h _ _ _ _ _ e]
    | ex _ _ => rw [e1] at e; cases e
    | no => rw [e1] at e; cases e
theorem snd_cons {x r : T} (ix : Snd E k x) (ir : Snd E k r) : Snd E k (.cons x r) := by
  refine ⟨fun {c X e} G h => ?_, fun {c X e} G h => ?_, fun {c X op vs pos} G h => ?_, fun {c X es} G h => ?_, fun {c X es} G h => ?_, fun {c X es} G h => ?_, fun {c X es} G h => ?_, fun {c X es} G h => ?_, fun {c X es} G h => ?_, fun {c X tg e} G h => ?_, fun {c X o} G h => ?_, fun {c X es} G h => ?_⟩
  · cases h
  · cases h
  · cases h
  · cases es with
    | nil => cases h
    | cons e es =>
      have h : (noStar e && (chk E.st x).e c e && (chk E.st r).a c es) = true := h
      simp only [Bool.and_eq_true] at h
      exact ⟨ma_cons (ix.e G h.1.2) (ir.a G h.2).1 (star_ok es h.1.1), acons_len (ir.a G h.2).2⟩
  · cases es with
    | nil => cases h
    | cons e es =>
      cases es with
      | nil => exact pts_one (ix.t G h)
      | cons _ _ => cases h
  · cases h
  · cases es with
    | nil => cases h
    | cons e es =>
      have h : ((chk E.st x).s c e && (chk E.st r).b c es) = true := h
      simp only [Bool.and_eq_true] at h
      exact mb_cons (ix.s G h.1) (ir.b G h.2)
  · cases h
  · cases es with
    | nil => cases h
    | cons e es =>
      have h : (noStar e && (chk E.st x).g c e && (chk E.st r).gs c es) = true := h
      simp only [Bool.and_eq_true] at h
      obtain ⟨h1, h2, h3⟩ := ir.gs G h.2
      refine ⟨mgs_cons (ix.g G h.1.2) h1 (by rw [asg_each es h.1.1]; rfl), ?_, gcons_len h3⟩
      simp only [List.all_cons, h.1.1, h2]; rfl
  · cases h
  · cases h
  · cases es with
    | nil => cases h
    | cons e es =>
      have h : ((chk E.st x).e c e && (chk E.st r).j c es) = true := h
      simp only [Bool.and_eq_true] at h
      obtain ⟨ts, h1, h2⟩ := ir.j G h.2
      exact ⟨_, .cons (ix.e G h.1) h1, fun acc σ H Q h => js_cons h2 h⟩

theorem snd_var {i : Nat} : Snd E k (.var i) := by
  have e0 : ∀ {c X e}, Good E k c X → (chk E.st (.var i)).e c e = true → PE X e (tD X.K (eVar i)) ∧ plainT e = true := by
    intro c X e G h
    cases e with
    | Name x p =>
      obtain ⟨h1, h2, h3, h4⟩ := vis_of G h
      exact ⟨me_var h1 h2 h3 h4, rfl⟩
    | _ => cases h
  refine ⟨fun {c X e} G h => (e0 G h).1, fun {c X e} G h => ?_, fun {c X op vs pos} G h => ?_, fun {c X es} G h => ?_, fun {c X es} G h => ?_, fun {c X es} G h => ?_, fun {c X es} G h => ?_, fun {c X es} G h => ?_, fun {c X es} G h => ?_, fun {c X tg e} G h => mi_val (e0 G h).1, fun {c X o} G h => ?_, fun {c X es} G h => ?_⟩
  · exact me_truth (e0 G h).1 (plain_ok (e0 G h).2)
  · cases h
  · cases h
  · cases h
  · cases h
  · cases h
  · cases es with
    | Name x p =>
      obtain ⟨h1, h2, h3, h4⟩ := loc_of G h
      exact mg_var h1 h2 h3 h4
    | _ => cases h
  · cases h
  · cases o with
    | none => cases h
    | some e => exact mo_some (e0 G h).1
  · cases h
theorem snd_glb {y : Str} : Snd E k (.glb y) := by
  refine sndE rfl rfl (fun {c X e} G h => ?_) (fun {c X e} G h hp => ?_) rfl
  · cases e with
    | Name x p =>
      simp only [Bool.and_eq_true, decide_eq_true_eq] at h
      obtain ⟨⟨rfl, h1⟩, h2⟩ := h
      obtain ⟨g1, g2, g3⟩ := gl_of G h1
      obtain ⟨d, u, v, e1, e2, e3, e4⟩ := G.gls x h2
      simp only [e1]
      exact me_cst (pe_glob g1 e2 e3 g2) e4
    | _ => cases h
  · cases e with
    | Name x p => cases hp
    | _ => cases h
theorem snd_int {i : Int} : Snd E k (.int i) := by
  refine sndE rfl rfl (fun {c X e} G h => ?_) (fun {c X e} G h hp => ?_) rfl
  · cases e with
    | Constant v j p =>
      cases v with
      | int j =>
        simp only [decide_eq_true_eq] at h
        subst h
        exact me_cst pe_int fun m H => .int _
      | _ => cases h
    | _ => cases h
  · cases e with
    | Constant v j p => cases hp
    | _ => cases h
theorem snd_str {i : Str} : Snd E k (.str i) := by
  refine sndE rfl rfl (fun {c X e} G h => ?_) (fun {c X e} G h hp => ?_) rfl
  · cases e with
    | Constant v j p =>
      cases v with
      | str j =>
        simp only [decide_eq_true_eq] at h
        subst h
        exact me_cst pe_str fun m H => .str _
      | _ => cases h
    | _ => cases h
  · cases e with
    | Constant v j p => cases hp
    | _ => cases h
theorem snd_bl {i : Bool} : Snd E k (.bl i) := by
  refine sndE rfl rfl (fun {c X e} G h => ?_) (fun {c X e} G h hp => ?_) rfl
  · cases e with
    | Constant v j p =>
      cases v with
      | bool j =>
        simp only [decide_eq_true_eq] at h
        subst h
        exact me_cst pe_bl fun m H => .bl _
      | _ => cases h
    | _ => cases h
  · cases e with
    | Constant v j p => cases hp
    | _ => cases h
theorem snd_non : Snd E k .non := by
  refine sndE rfl rfl (fun {c X e} G h => ?_) (fun {c X e} G h hp => ?_) rfl
  · cases e with
    | Constant v j p =>
      cases v with
      | none => exact me_cst pe_non fun m H => .non
      | _ => cases h
    | _ => cases h
  · cases e with
    | Constant v j p => cases hp
    | _ => cases h
theorem snd_bin {p : Bop} {a b : T} (ia : Snd E k a) (ib : Snd E k b) : Snd E k (.bin p a b) := by
  refine sndE rfl rfl (fun {c X e} G h => ?_) (fun {c X e} G h hp => ?_) rfl
  · cases e with
    | BinOp l op r q =>
      simp only [Bool.and_eq_true, decide_eq_true_eq] at h
      obtain ⟨⟨rfl, h1⟩, h2⟩ := h
      exact me_bin (ob p) (ia.e G h1) (ib.e G h2)
    | _ => cases h
  · cases e with
    | BinOp l op r q => cases hp
    | _ => cases h
theorem cmp_inv {f : C0 → Expr → CmpOp → Expr → Bool} {c : C0} {e : Expr} (h : (match e with | .Compare l [op] [r] _ => f c l op r | _ => false) = true) : ∃ l op r q, e = .Compare l [op] [r] q ∧ f c l op r = true := by
  split at h
  · exact ⟨_, _, _, _, rfl, h⟩
  · cases h
theorem snd_cmp {p : Cop} {a b : T} (ia : Snd E k a) (ib : Snd E k b) : Snd E k (.cmp p a b) := by
  refine sndE rfl rfl (fun {c X e} G h => ?_) (fun {c X e} G h hp => ?_) rfl
  · obtain ⟨l, op, r, q, rfl, h⟩ := cmp_inv (f := fun c l op r => decide (op = p.op) && (chk E.st a).e c l && (chk E.st b).e c r && noSet r) h
    simp only [Bool.and_eq_true, decide_eq_true_eq] at h
    obtain ⟨⟨⟨rfl, h1⟩, h2⟩, h3⟩ := h
    exact me_cmp (oc G.room p) (ia.e G h1) (ib.e G h2) (mark_ok h3)
  · obtain ⟨l, op, r, q, rfl, h⟩ := cmp_inv (f := fun c l op r => decide (op = p.op) && (chk E.st a).e c l && (chk E.st b).e c r && noSet r) h
    simp only [Bool.and_eq_true, decide_eq_true_eq] at h
    obtain ⟨⟨⟨rfl, h1⟩, h2⟩, h3⟩ := h
    exact mt_cmp' (semCop_bl p) (oc G.room p) (ia.e G h1) (ib.e G h2) (mark_ok h3)
theorem chain_bl {p q : Cop} {a b c : SE} {g : Sg} {S : Store} {d : D} {S' : Store} (h : eChain p q a b c g S = .ok d S') : ∃ z, d = .bl z := by
  unfold eChain at h
  cases e1 : a g S with
  | ok x S1 =>
    rw [e1, O.bind_ok] at h
    cases e2 : b g S1 with
    | ok y S2 =>
      rw [e2, O.bind_ok] at h
      cases e3 : semCop p x y S2 with
      | ok z S3 =>
        rw [e3, O.bind_ok] at h
        split at h
        · cases e4 : c g S3 with
          | ok w S4 => rw [e4, O.bind_ok] at h; exact semCop_bl q _ _ _ _ _ h
          | ex _ _ => rw [e4] at h; cases h
          | no => rw [e4] at h; cases h
        · cases h; exact ⟨_, rfl⟩
        · cases h
      | ex _ _ => rw [e3] at h; cases h
      | no => rw [e3] at h; cases h
    | ex _ _ => rw [e2] at h; cases h
    | no => rw [e2] at h; cases h
  | ex _ _ => rw [e1] at h; cases h
  | no => rw [e1] at h; cases h
theorem chain_inv {f : C0 → Expr → CmpOp → CmpOp → Expr → Expr → Bool} {c : C0} {e : Expr} (h : (match e with | .Compare l [op, op'] [r, r'] _ => f c l op op' r r' | _ => false) = true) : ∃ l op op' r r' q, e = .Compare l [op, op'] [r, r'] q ∧ f c l op op' r r' = true := by
  split at h
  · exact ⟨_, _, _, _, _, _, rfl, h⟩
  · cases h
theorem tchain_r {X : Cx} {p q : Cop} {fa fb fc : SE} {σ : L2.St} {H : Hp} {Q : VK} (h : tD X.K (eChain p q fa fb fc) σ H Q) : tChain (rD2 X.K (semCop p)) (rD2 X.K (semCop q)) (tD X.K fa) (tD X.K fb) (tD X.K fc) σ H Q := by
  obtain ⟨m, S, g, hs, hr, hp⟩ := h
  obtain ⟨x, S1, e1, hp⟩ := hp.inv
  obtain ⟨y, S2, e2, hp⟩ := hp.inv
  obtain ⟨z, S3, e3, hp⟩ := hp.inv
  refine ⟨m, S, g, hs, hr, ?_⟩
  rw [e1]
  intro v1 m1 H1 x1 s1 r1
  refine ⟨m1, S1, g, s1, hr.ext hs x1, ?_⟩
  rw [e2]
  intro v2 m2 H2 x2 s2 r2
  refine ⟨m2, S2, x, y, s2, r1.ext s1 x2, r2, ?_⟩
  rw [e3]
  intro v3 m3 H3 x3 s3 r3
  split at hp
  · cases r3
    refine ⟨true, rfl, iteT ⟨m3, S3, g, s3, hr.ext hs ((x1.trans x2).trans x3), ?_⟩⟩
    obtain ⟨w, S4, e4, hp⟩ := hp.inv
    rw [e4]
    intro v4 m4 H4 x4 s4 r4
    exact ⟨m4, S4, y, w, s4, r2.ext s2 (x3.trans x4), r4, hp.weak (((x1.trans x2).trans x3).trans x4)⟩
  · cases r3
    exact ⟨false, rfl, iteF (hp _ m3 H3 ((x1.trans x2).trans x3) s3 (.bl _))⟩
  · exact hp.elim
theorem snd_chain {p q : Cop} {a b d : T} (ia : Snd E k a) (ib : Snd E k b) (id' : Snd E k d) : Snd E k (.chain p q a b d) := by
  refine sndE rfl rfl (fun {c X e} G h => ?_) (fun {c X e} G h hp => ?_) rfl
  · obtain ⟨l, op, op', r, r', q', rfl, h⟩ := chain_inv (f := fun c l op op' r r' => decide (op = p.op) && decide (op' = q.op) && (chk E.st a).e c l && (chk E.st b).e c r && (chk E.st d).e c r' && noSet r') h
    simp only [Bool.and_eq_true, decide_eq_true_eq] at h
    obtain ⟨⟨⟨⟨⟨rfl, rfl⟩, h1⟩, h2⟩, h3⟩, h4⟩ := h
    exact peI (pe_chain (oc G.room p) (oc G.room q) (ia.e G h1) (ib.e G h2) (id'.e G h3) (last_ok h4)) fun σ H Q h => tchain_r h
  · obtain ⟨l, op, op', r, r', q', rfl, h⟩ := chain_inv (f := fun c l op op' r r' => decide (op = p.op) && decide (op' = q.op) && (chk E.st a).e c l && (chk E.st b).e c r && (chk E.st d).e c r' && noSet r') h
    simp only [Bool.and_eq_true, decide_eq_true_eq] at h
    obtain ⟨⟨⟨⟨⟨rfl, rfl⟩, h1⟩, h2⟩, h3⟩, h4⟩ := h
    refine ptI (pt_chain (oc G.room p) (oc G.room q) (ia.e G h1) (ib.e G h2) (id'.e G h3) (last_ok h4)) fun σ H Q ⟨m, S, g, hs, hr, hp⟩ => ?_
    refine tchain_r ⟨m, S, g, hs, hr, ?_⟩
    obtain ⟨z, S1, e1, hp⟩ := hp.inv
    obtain ⟨b, rfl⟩ := chain_bl e1
    rw [e1]
    intro v m1 H1 x1 s1 r1
    cases r1
    exact ⟨b, rfl, hp m1 H1 x1 s1⟩
theorem snd_neg {a : T} (ia : Snd E k a) : Snd E k (.neg a) := by
  refine sndE rfl rfl (fun {c X e} G h => ?_) (fun {c X e} G h hp => ?_) rfl
  · cases e with
    | UnaryOp op x p =>
      cases op with
      | USub => exact me_neg (ia.e G h)
      | _ => cases h
    | _ => cases h
  · cases e with
    | UnaryOp op x p =>
      cases op with
      | USub => cases hp
      | _ => cases h
    | _ => cases h
end
end Mz

end

section
set_option Elab.async false
set_option linter.all false
set_option maxRecDepth 100000
set_option maxHeartbeats 4000000
namespace Mz
open PySem PySem.Spec L2
section
variable {E : PEnv} {k : Nat} {c : C0} {X : Cx}
theorem sndB {t : T} {p : C0 → Expr → Bool} {f : SE} {tt : ST} (hc : chk E.st t = ckE p) (hs : sem E t = { ofE f with t := tt }) (he : ∀ {c X e}, Good E k c X → p c e = true → PE X e (tD X.K f))
    (ht : ∀ {c X e}, Good E k c X → p c e = true → PT X e (tDT X.K tt)) (hw : ∀ {c X op vs pos}, Good E k c X → p c (.BoolOp op vs pos) = true → PW X (.BoolOp op vs pos) (tDT X.K tt)) : Snd E k t := by
  refine ⟨fun {c X e} G h => ?_, fun {c X e} G h => ?_, fun {c X op vs pos} G h => ?_, fun {c X es} G h => ?_, fun {c X es} G h => ?_, fun {c X es} G h => ?_, fun {c X es} G h => ?_, fun {c X es} G h => ?_, fun {c X es} G h => ?_, fun {c X tg e} G h => ?_, fun {c X o} G h => ?_, fun {c X es} G h => ?_⟩
  all_goals rw [hc] at h
  · rw [hs]; exact he G h
  · rw [hs]; exact ht G h
  · rw [hs]; exact hw G h
  · cases h
  · cases h
  · cases h
  · cases h
  · cases h
  · cases h
  · rw [hs]; exact mi_val (he G h)
  · rw [hs]
    cases o with
    | none => cases h
    | some e => exact mo_some (he G h)
  · cases h
/-- an expression that is a target, too -/
theorem sndG {t : T} {p q : C0 → Expr → Bool} {f : SE} {g : SG} (hc : chk E.st t = { ckE p with g := q }) (hs : sem E t = { ofE f with g := g }) (he : ∀ {c X e}, Good E k c X → p c e = true → PE X e (tD X.K f) ∧ plainT e = true)
    (hg : ∀ {c X e}, Good E k c X → q c e = true → PG X e (tDG X.K (slots t) g)) (hw : ∀ {c op vs pos}, p c (.BoolOp op vs pos) = false) : Snd E k t := by
  refine ⟨fun {c X e} G h => ?_, fun {c X e} G h => ?_, fun {c X op vs pos} G h => ?_, fun {c X es} G h => ?_, fun {c X es} G h => ?_, fun {c X es} G h => ?_, fun {c X es} G h => ?_, fun {c X es} G h => ?_, fun {c X es} G h => ?_, fun {c X tg e} G h => ?_, fun {c X o} G h => ?_, fun {c X es} G h => ?_⟩
  all_goals rw [hc] at h
  · rw [hs]; exact (he G h).1
  · rw [hs]; exact me_truth (he G h).1 (plain_ok (he G h).2)
  · have : p c (.BoolOp op vs pos) = true := h
    rw [hw] at this; cases this
  · cases h
  · cases h
  · cases h
  · cases h
  · rw [hs]; exact hg G h
  · cases h
  · rw [hs]; exact mi_val (he G h).1
  · rw [hs]
    cases o with
    | none => cases h
    | some e => exact mo_some (he G h).1
  · cases h

theorem not_inv {f : C0 → Expr → Bool} {c : C0} {e : Expr} (h : (match e with | .UnaryOp .Not x _ => f c x | _ => false) = true) : ∃ x q, e = .UnaryOp .Not x q ∧ f c x = true := by
  split at h
  · exact ⟨_, _, rfl, h⟩
  · cases h
theorem snd_nt {a : T} (ia : Snd E k a) : Snd E k (.nt a) := by
  refine sndB rfl rfl (fun {c X e} G h => ?_) (fun {c X e} G h => ?_) (fun {c X op vs pos} G h => by cases h)
  · obtain ⟨x, q, rfl, h⟩ := not_inv (f := fun c x => (chk E.st a).e c x) h
    exact me_notV (ia.e G h)
  · obtain ⟨x, q, rfl, h⟩ := not_inv (f := fun c x => (chk E.st a).e c x) h
    exact mt_not (ia.t G h)
theorem and_form {a b : T} {c : C0} {e : Expr} (h : (chk E.st (.and a b)).e c e = true) :
    (∃ x y p, e = .BoolOp .And [x, y] p ∧ (chk E.st a).e c x = true ∧ (chk E.st b).e c y = true) ∨ ∃ x y z r p, e = .BoolOp .And (x :: y :: z :: r) p ∧ (chk E.st a).e c x = true ∧ (chk E.st b).e c (.BoolOp .And (y :: z :: r) p) = true := by
  have h : (match (generalizing := false) e with | .BoolOp .And [x, y] _ => (chk E.st a).e c x && (chk E.st b).e c y | .BoolOp .And (x :: y :: z :: r) p => (chk E.st a).e c x && (chk E.st b).e c (.BoolOp .And (y :: z :: r) p) | _ => false) = true := h
  split at h
  · simp only [Bool.and_eq_true] at h
    exact .inl ⟨_, _, _, rfl, h.1, h.2⟩
  · simp only [Bool.and_eq_true] at h
    exact .inr ⟨_, _, _, _, _, rfl, h.1, h.2⟩
  · cases h
theorem or_form {a b : T} {c : C0} {e : Expr} (h : (chk E.st (.or a b)).e c e = true) :
    (∃ x y p, e = .BoolOp .Or [x, y] p ∧ (chk E.st a).e c x = true ∧ (chk E.st b).e c y = true) ∨ ∃ x y z r p, e = .BoolOp .Or (x :: y :: z :: r) p ∧ (chk E.st a).e c x = true ∧ (chk E.st b).e c (.BoolOp .Or (y :: z :: r) p) = true := by
  have h : (match (generalizing := false) e with | .BoolOp .Or [x, y] _ => (chk E.st a).e c x && (chk E.st b).e c y | .BoolOp .Or (x :: y :: z :: r) p => (chk E.st a).e c x && (chk E.st b).e c (.BoolOp .Or (y :: z :: r) p) | _ => false) = true := h
  split at h
  · simp only [Bool.and_eq_true] at h
    exact .inl ⟨_, _, _, rfl, h.1, h.2⟩
  · simp only [Bool.and_eq_true] at h
    exact .inr ⟨_, _, _, _, _, rfl, h.1, h.2⟩
  · cases h
theorem snd_and {a b : T} (ia : Snd E k a) (ib : Snd E k b) : Snd E k (.and a b) := by
  have w : ∀ {c X e}, Good E k c X → (chk E.st (.and a b)).e c e = true → PE X e (tD X.K (eAnd (sem E a).e (sem E b).e)) ∧ PW X e (tDT X.K (tAndS (sem E a).t (sem E b).t)) := by
    intro c X e G h
    rcases and_form h with ⟨x, y, p, rfl, h1, h2⟩ | ⟨x, y, z, r, p, rfl, h1, h2⟩
    · exact ⟨me_and (ia.e G h1) (pe_one (ib.e G h2)), mw_and (ia.t G h1) (pw_and1 (ib.t G h2))⟩
    · exact ⟨me_and (ia.e G h1) (ib.e G h2), mw_and (ia.t G h1) (ib.w G h2)⟩
  exact sndB rfl rfl (fun G h => (w G h).1) (fun G h => (w G h).2.pt) (fun G h => (w G h).2)
theorem snd_or {a b : T} (ia : Snd E k a) (ib : Snd E k b) : Snd E k (.or a b) := by
  have w : ∀ {c X e}, Good E k c X → (chk E.st (.or a b)).e c e = true → PE X e (tD X.K (eOr (sem E a).e (sem E b).e)) ∧ PW X e (tDT X.K (tOrS (sem E a).t (sem E b).t)) := by
    intro c X e G h
    rcases or_form h with ⟨x, y, p, rfl, h1, h2⟩ | ⟨x, y, z, r, p, rfl, h1, h2⟩
    · exact ⟨me_or (ia.e G h1) (pe_one (ib.e G h2)), mw_or (ia.t G h1) (pw_or1 (ib.t G h2))⟩
    · exact ⟨me_or (ia.e G h1) (ib.e G h2), mw_or (ia.t G h1) (ib.w G h2)⟩
  exact sndB rfl rfl (fun G h => (w G h).1) (fun G h => (w G h).2.pt) (fun G h => (w G h).2)
theorem pt_ife {a b t : Expr} {pos : Pos} {ft fa fb : ST} (ht : PT X t (tDT X.K ft)) (ha : PT X a (tDT X.K fa)) (hb : PT X b (tDT X.K fb)) : PT X (.IfExp t a b pos) (tDT X.K (tIfS' ft fa fb)) := by
  refine ⟨fun pins s σ H Q I hw => ?_⟩
  obtain ⟨m, S, g, hs, hr, hp⟩ := hw
  obtain ⟨d, S1, e1, hp⟩ := hp.inv
  refine PyProof.Rows.isTrue_IfExp (thn (ht.run pins s σ H (fun c H1 => c = d ∧ ∃ m1, Ext m H m1 H1 ∧ Sim X.K m1 S1 H1) I ⟨m, S, g, hs, hr, ?_⟩) fun c s1 ⟨H1, I1, q, m1, x1, s1'⟩ => ?_)
  · rw [e1]
    exact fun m1 H1 x1 s1 => ⟨rfl, m1, x1, s1⟩
  · subst q
    cases c with
    | true => rw [if_pos rfl] at hp ⊢; exact ha.run pins s1 σ H1 Q I1 ⟨m1, S1, g, s1', hr.ext hs x1, hp.weak x1⟩
    | false => rw [if_neg Bool.false_ne_true] at hp ⊢; exact hb.run pins s1 σ H1 Q I1 ⟨m1, S1, g, s1', hr.ext hs x1, hp.weak x1⟩
theorem snd_ife {t a b : T} (it : Snd E k t) (ia : Snd E k a) (ib : Snd E k b) : Snd E k (.ife t a b) := by
  refine sndB rfl rfl (fun {c X e} G h => ?_) (fun {c X e} G h => ?_) (fun {c X op vs pos} G h => by cases h)
  · cases e with
    | IfExp x y z p =>
      simp only [Bool.and_eq_true] at h
      exact me_if (it.t G h.1.1) (ia.e G h.1.2) (ib.e G h.2)
    | _ => cases h
  · cases e with
    | IfExp x y z p =>
      simp only [Bool.and_eq_true] at h
      exact pt_ife (it.t G h.1.1) (ia.t G h.1.2) (ib.t G h.2)
    | _ => cases h
theorem snd_tup {as : T} (ia : Snd E k as) : Snd E k (.tup as) := by
  refine sndG rfl rfl (fun {c X e} G h => ?_) (fun {c X e} G h => ?_) rfl
  · cases e with
    | Tuple es j p => exact ⟨me_tup (ia.a G h).1, rfl⟩
    | _ => cases h
  · cases e with
    | Tuple es j p =>
      obtain ⟨h1, h2, h3⟩ := ia.gs G h
      exact mg_tup G.calm h1 h3 (asg_len h2) (asg_idx h2)
    | _ => cases h
theorem snd_lst {as : T} (ia : Snd E k as) : Snd E k (.lst as) := by
  refine sndE rfl rfl (fun {c X e} G h => ?_) (fun {c X e} G h hp => ?_) rfl
  · cases e with
    | List es p => exact me_lst (ia.a G h).1
    | _ => cases h
  · cases e with
    | List es p => cases hp
    | _ => cases h
theorem snd_sub {a b : T} (ia : Snd E k a) (ib : Snd E k b) : Snd E k (.sub a b) := by
  refine sndG rfl rfl (fun {c X e} G h => ?_) (fun {c X e} G h => ?_) rfl
  · cases e with
    | Subscript x y p =>
      simp only [Bool.and_eq_true] at h
      exact ⟨me_item (ia.e G h.1.1) (ib.e G h.1.2) (ix_ok h.2), rfl⟩
    | _ => cases h
  · cases e with
    | Subscript x y p =>
      simp only [Bool.and_eq_true] at h
      exact mg_sub (ia.e G h.1.1) (ib.e G h.1.2) (asg_sub h.2)
    | _ => cases h
theorem sli_inv {f : C0 → Expr → Option Expr → Option Expr → Bool} {c : C0} {e : Expr} (h : (match e with | .Subscript x (.Slice l h none _) _ => f c x l h | _ => false) = true) : ∃ x l u q p, e = .Subscript x (.Slice l u none q) p ∧ f c x l u = true := by
  split at h
  · exact ⟨_, _, _, _, _, rfl, h⟩
  · cases h
theorem snd_sli {a lo hi : T} (ia : Snd E k a) (il : Snd E k lo) (ih : Snd E k hi) : Snd E k (.sli a lo hi) := by
  refine sndE rfl rfl (fun {c X e} G h => ?_) (fun {c X e} G h hp => ?_) rfl
  · obtain ⟨x, l, u, q, p, rfl, h⟩ := sli_inv (f := fun c x l u => (chk E.st a).e c x && (chk E.st lo).o c l && (chk E.st hi).o c u) h
    simp only [Bool.and_eq_true] at h
    exact me_sli (ia.e G h.1.1) (il.o G h.1.2) (ih.o G h.2)
  · obtain ⟨x, l, u, q, p, rfl, h⟩ := sli_inv (f := fun c x l u => (chk E.st a).e c x && (chk E.st lo).o c l && (chk E.st hi).o c u) h
    cases hp
theorem rev_inv {f : C0 → Expr → Bool} {c : C0} {e : Expr} (h : (match e with | .Subscript x (.Slice none none (some (.UnaryOp .USub (.Constant (.int 1) _ _) _)) _) _ => f c x | _ => false) = true) :
    ∃ x j p1 p2 p3 p, e = .Subscript x (.Slice none none (some (.UnaryOp .USub (.Constant (.int 1) j p1) p2)) p3) p ∧ f c x = true := by
  split at h
  · exact ⟨_, _, _, _, _, _, rfl, h⟩
  · cases h
theorem snd_rev {a : T} (ia : Snd E k a) : Snd E k (.rev a) := by
  refine sndE rfl rfl (fun {c X e} G h => ?_) (fun {c X e} G h hp => ?_) rfl
  · obtain ⟨x, j, p1, p2, p3, p, rfl, h⟩ := rev_inv (f := fun c x => (chk E.st a).e c x) h
    exact me_rev (ia.e G h)
  · obtain ⟨x, j, p1, p2, p3, p, rfl, h⟩ := rev_inv (f := fun c x => (chk E.st a).e c x) h
    cases hp
theorem call_inv {f : C0 → Str → List Expr → Bool} {c : C0} {e : Expr} (h : (match e with | .Call (.Name x _) es [] _ => f c x es | _ => false) = true) : ∃ x es p q, e = .Call (.Name x p) es [] q ∧ f c x es = true := by
  split at h
  · exact ⟨_, _, _, _, rfl, h⟩
  · cases h
theorem snd_call {f : Str} {as : T} (ia : Snd E k as) : Snd E k (.call f as) := by
  have inv : ∀ {c : C0} {e : Expr}, (chk E.st (.call f as)).e c e = true → ∃ es p q, e = .Call (.Name f p) es [] q ∧ glB c f = true ∧ f ∈ E.st.fns ∧ es.length = E.st.ar f ∧ (chk E.st as).a c es = true ∧ es.all noStar = true := by
    intro c e h
    obtain ⟨x, es, p, q, rfl, h⟩ := call_inv (f := fun c x es => decide (x = f) && glB c x && decide (x ∈ E.st.fns) && decide (es.length = E.st.ar f) && (chk E.st as).a c es && es.all noStar) h
    have h : (decide (x = f) && glB c x && decide (x ∈ E.st.fns) && decide (es.length = E.st.ar f) && (chk E.st as).a c es && es.all noStar) = true := h
    rw [Bool.and_eq_true, Bool.and_eq_true, Bool.and_eq_true, Bool.and_eq_true, Bool.and_eq_true] at h
    obtain ⟨⟨⟨⟨⟨h0, h1⟩, h2⟩, h3⟩, h4⟩, h5⟩ := h
    have h0 := of_decide_eq_true h0
    subst h0
    exact ⟨es, p, q, rfl, h1, of_decide_eq_true h2, of_decide_eq_true h3, h4, h5⟩
  refine sndE rfl rfl (fun {c X e} G h => ?_) (fun {c X e} G h hp => ?_) rfl
  · obtain ⟨es, p, q, rfl, h1, h2, h3, h4, h5⟩ := inv h
    obtain ⟨g1, g2, g3⟩ := gl_of G h1
    obtain ⟨a, fd, ps, e1, e2, e3, e4, e5⟩ := G.fns f h2
    rw [← h3] at e5
    obtain ⟨pa, pl⟩ := ia.a G h4
    cases es with
    | nil =>
      refine me_call (sp := fun _ _ _ _ => True) (peI (pe_call0 e5 G.room g1 e2 e3 e4 .nil pass0 g2) fun σ H Q h => ?_) pl
      cases as with
      | nil =>
        obtain ⟨m, S, g, hs, hr, hp⟩ := h
        exact hp [] m H Ext.refl hs .nil
      | _ => cases h4
    | cons e es =>
      simp only [List.all_cons, Bool.and_eq_true] at h5
      exact me_call (sp := fun _ _ _ _ => True) (pe_call e5 G.room g1 e2 e3 e4 .nil pass0 pa g2 (star_ok es h5.1) (star_any _ h5.2)) pl
  · obtain ⟨es, p, q, rfl, _⟩ := inv h
    cases hp
end
end Mz

end

section
set_option Elab.async false
set_option linter.all false
set_option maxRecDepth 100000
set_option maxHeartbeats 4000000
namespace Mz
open PySem PySem.Spec L2
section
variable {E : PEnv} {k : Nat} {c : C0} {X : Cx}
theorem and2 {a b : Bool} (h : (a && b) = true) : a = true ∧ b = true := Bool.and_eq_true_iff.mp h
theorem blt_mem : ∀ p : Blt, p.name ∈ bltNames
  | .len => by decide +kernel | .abs => by decide +kernel | .max2 => by decide +kernel | .min2 => by decide +kernel | .int1 => by decide +kernel | .str1 => by decide +kernel | .ord1 => by decide +kernel
  | .list1 => by decide +kernel | .tuple1 => by decide +kernel | .all1 => by decide +kernel | .any1 => by decide +kernel | .sum1 => by decide +kernel
theorem blt_inv {f : C0 → Str → List Expr → Bool} {c : C0} {e : Expr} (h : (match e with | .Call (.Name x _) (e :: es) [] _ => f c x (e :: es) | _ => false) = true) : ∃ x e0 es p q, e = .Call (.Name x p) (e0 :: es) [] q ∧ f c x (e0 :: es) = true := by
  split at h
  · exact ⟨_, _, _, _, _, rfl, h⟩
  · cases h
theorem snd_blt {p : Blt} {as : T} (ia : Snd E k as) : Snd E k (.blt p as) := by
  have inv : ∀ {c : C0} {e : Expr}, (chk E.st (.blt p as)).e c e = true → ∃ e0 es p1 q, e = .Call (.Name p.name p1) (e0 :: es) [] q ∧ glB c p.name = true ∧ (chk E.st as).a c (e0 :: es) = true ∧ (e0 :: es).all noStar = true := by
    intro c e h
    obtain ⟨x, e0, es, p1, q, rfl, h⟩ := blt_inv (f := fun c x es => decide (x = p.name) && glB c x && (chk E.st as).a c es && es.all noStar) h
    have h : (decide (x = p.name) && glB c x && (chk E.st as).a c (e0 :: es) && (e0 :: es).all noStar) = true := h
    obtain ⟨h, h5⟩ := and2 h
    obtain ⟨h, h4⟩ := and2 h
    obtain ⟨h0, h1⟩ := and2 h
    have h0 := of_decide_eq_true h0
    subst h0
    exact ⟨e0, es, p1, q, rfl, h1, h4, h5⟩
  refine sndE rfl rfl (fun {c X e} G h => ?_) (fun {c X e} G h hp => ?_) rfl
  · obtain ⟨e0, es, p1, q, rfl, h1, h4, h5⟩ := inv h
    obtain ⟨g1, g2, g3⟩ := gl_of G h1
    have hm := G.blt _ (blt_mem p)
    have pa := (ia.a G h4).1
    rw [List.all_cons] at h5
    obtain ⟨h5, h6⟩ := and2 h5
    refine me_blt G.calm g1 hm pa ?_
    have ok := blt_ok (X := X) G.calm p
    have bo := blt_boot p
    cases p <;> first
      | exact pe_callB ok g1 hm bo pa g3 g2 (star_ok es h5) (star_any _ h6)
      | exact pe_callTy ok g1 hm bo pa g3 g2 (star_ok es h5) (star_any _ h6)
  · obtain ⟨e0, es, p1, q, rfl, _⟩ := inv h
    cases hp
theorem mth_inv {f : C0 → Expr → Str → Pos → List Expr → Pos → Bool} {c : C0} {e : Expr} (h : (match e with | .Call (.Attribute x n q) es [] r => f c x n q es r | _ => false) = true) : ∃ x n q es r, e = .Call (.Attribute x n q) es [] r ∧ f c x n q es r = true := by
  split at h
  · exact ⟨_, _, _, _, _, rfl, h⟩
  · cases h
theorem snd_mth {p : Mth} {o as : T} (io : Snd E k o) (ia : Snd E k as) : Snd E k (.mth p o as) := by
  have inv : ∀ {c : C0} {e : Expr}, (chk E.st (.mth p o as)).e c e = true → ∃ x q es r, e = .Call (.Attribute x p.name q) es [] r ∧ (q.endLine == r.line) = true ∧ noCall0 x = true ∧ (chk E.st o).e c x = true ∧ (chk E.st as).a c es = true ∧ es.all noStar = true ∧ es.length < 29 := by
    intro c e h
    obtain ⟨x, n, q, es, r, rfl, h⟩ := mth_inv (f := fun c x n q es r => decide (n = p.name) && (q.endLine == r.line) && noCall0 x && (chk E.st o).e c x && (chk E.st as).a c es && es.all noStar && decide (es.length < 29)) h
    have h : (decide (n = p.name) && (q.endLine == r.line) && noCall0 x && (chk E.st o).e c x && (chk E.st as).a c es && es.all noStar && decide (es.length < 29)) = true := h
    obtain ⟨h, h6⟩ := and2 h
    obtain ⟨h, h5⟩ := and2 h
    obtain ⟨h, h4⟩ := and2 h
    obtain ⟨h, h3⟩ := and2 h
    obtain ⟨h, h2⟩ := and2 h
    obtain ⟨h0, h1⟩ := and2 h
    have h0 := of_decide_eq_true h0
    subst h0
    exact ⟨x, q, es, r, rfl, h1, h2, h3, h4, h5, of_decide_eq_true h6⟩
  refine sndE rfl rfl (fun {c X e} G h => ?_) (fun {c X e} G h hp => ?_) rfl
  · obtain ⟨x, q, es, r, rfl, h1, h2, h3, h4, h5, h6⟩ := inv h
    have pa := (ia.a G h4).1
    have po := io.e G h3
    have at' := mth_at p
    cases es with
    | nil =>
      cases as with
      | nil => exact me_mth0 (pe_bm0 at'.pa at'.slot at'.ty (mm_ok p) po (base_ok h2) h1)
      | _ => cases h4
    | cons e es =>
      rw [List.all_cons] at h5
      obtain ⟨h5, h7⟩ := and2 h5
      refine me_mth (pe_bm at'.pa at'.slot at'.ty (mm_ok p) po pa (base_ok h2) ?_ h1 (star_ok es h5) (star_any _ h7))
      have z := star_all (env := X.env) r (es := e :: es) (by rw [List.all_cons, h5, h7]; rfl)
      rw [z]
      have l : (e :: es).length + ([] : List Keyword).length + (if ([] : List Keyword).isEmpty then 0 else 1) < 30 := by
        show (e :: es).length + 0 + 0 < 30
        omega
      rw [decide_eq_true l]
      rfl
  · obtain ⟨x, q, es, r, rfl, _⟩ := inv h
    cases hp
theorem lc_inv {Ki : C0 → Expr → Expr → Bool} {g : C0 → Expr → Bool} {ts : C0 → List Expr → Bool} {el : C0 → Expr → Bool} {own is : List Nat} {c : C0} {e : Expr} (h : ckLc Ki g ts el own is c e = true) :
    ∃ elt tg iter ifs scope pos own', e = .ListComp elt [⟨tg, iter, ifs, 0⟩] scope pos ∧ own'.map (·.2) = own ∧ blkC c.N c.sc scope own' = true ∧ Ki c tg iter = true ∧ noSet iter = true ∧ g ⟨c.N, relS scope c.sc, false⟩ tg = true ∧ ts ⟨c.N, relS scope c.sc, false⟩ ifs = true ∧ el ⟨c.N, relS scope c.sc, false⟩ elt = true ∧ ∀ i ∈ is, i ∈ own := by
  unfold ckLc at h
  split at h
  · obtain ⟨h, h7⟩ := and2 h
    obtain ⟨h, h6⟩ := and2 h
    obtain ⟨h, h5⟩ := and2 h
    obtain ⟨h, h4⟩ := and2 h
    obtain ⟨h, h3⟩ := and2 h
    obtain ⟨h, h2⟩ := and2 h
    obtain ⟨h0, h1⟩ := and2 h
    exact ⟨_, _, _, _, _, _, _, rfl, of_decide_eq_true h0, h1, h2, h3, h4, h5, h6, fun i hi => of_decide_eq_true (List.all_eq_true.mp h7 i hi)⟩
  · cases h
theorem relS_kind {scope sc : Scope} {N : List Str} {own : List (Str × Nat)} (h : blkC N sc scope own = true) : scope.kind = .function := (blkOk_by h).kind
theorem lc_ok {tg it ts el : T} {own : List Nat} (itg : Snd E k tg) (iit : Snd E k it) (its : Snd E k ts) (iel : Snd E k el) {c : C0} {X : Cx} {e : Expr} (G : Good E k c X)
    (h : ckLc (chk E.st it).i (chk E.st tg).g (chk E.st ts).ts (chk E.st el).e own (slots tg) c e = true) : PE X e (tD X.K (eLc own (sem E it).i (sem E tg).g (sem E ts).t (sem E el).e)) ∧ plainT e = true := by
  obtain ⟨elt, tg', iter, ifs, scope, pos, own', rfl, ho, hb, hi, hset, hg, hts, hel, his⟩ := lc_inv h
  have ok := blkOk_by hb
  refine ⟨peI (t := tLc (tDI X.K (sem E it).i) (tDG X.K (slots tg) (sem E tg).g) (tDT X.K (sem E ts).t) (tD X.K (sem E el).e) (own'.map (·.2))) (pe_lc (own := own') G.calm (by rw [G.hN]; exact G.nd) (iit.i G hi) (by rw [G.hN, G.sc]; exact ok) (fun s H C cl fp => ?_) (fun s H C cl fp => ?_) (fun s H C cl fp => ?_) (set_ok hset)) (fun σ H Q h => ?_), rfl⟩
  · exact itg.g (G.blk scope ok.kind s H C cl fp) hg
  · exact its.ts (G.blk scope ok.kind s H C cl fp) hts
  · exact iel.e (G.blk scope ok.kind s H C cl fp) hel
  · rw [ho]
    exact lc_r his h
theorem snd_lc {tg it ts el : T} {own : List Nat} (itg : Snd E k tg) (iit : Snd E k it) (its : Snd E k ts) (iel : Snd E k el) : Snd E k (.lc own tg it ts el) := by
  refine sndE rfl rfl (fun {c X e} G h => (lc_ok itg iit its iel G h).1) (fun {c X e} G h hp => ?_) rfl
  rw [(lc_ok itg iit its iel G h).2] at hp
  cases hp
theorem fst_inv {f : C0 → List Expr → Bool} {c : C0} {e : Expr} (h : (match e with | .JoinedStr (x :: y :: r) _ => f c (x :: y :: r) | _ => false) = true) : ∃ x y r p, e = .JoinedStr (x :: y :: r) p ∧ f c (x :: y :: r) = true := by
  split at h
  · exact ⟨_, _, _, _, rfl, h⟩
  · cases h
theorem snd_fst {as : T} (ia : Snd E k as) : Snd E k (.fst as) := by
  refine sndE rfl rfl (fun {c X e} G h => ?_) (fun {c X e} G h hp => ?_) rfl
  · obtain ⟨x, y, r, p, rfl, h⟩ := fst_inv (f := fun c es => (chk E.st as).j c es) h
    obtain ⟨ts, h1, h2⟩ := ia.j G h
    exact peI (pe_joined h1) fun σ H Q h => h2 _ _ _ _ h
  · obtain ⟨x, y, r, p, rfl, h⟩ := fst_inv (f := fun c es => (chk E.st as).j c es) h
    cases hp
theorem fmt_inv {f : C0 → Expr → Bool} {c : C0} {e : Expr} (h : (match e with | .FormattedValue x (-1) none _ => f c x | _ => false) = true) : ∃ x p, e = .FormattedValue x (-1) none p ∧ f c x = true := by
  split at h
  · exact ⟨_, _, rfl, h⟩
  · cases h
theorem snd_fmt {a : T} (ia : Snd E k a) : Snd E k (.fmt a) := by
  refine sndE rfl rfl (fun {c X e} G h => ?_) (fun {c X e} G h hp => ?_) rfl
  · obtain ⟨x, p, rfl, h⟩ := fmt_inv (f := fun c x => (chk E.st a).e c x) h
    exact me_fmt (ia.e G h)
  · obtain ⟨x, p, rfl, h⟩ := fmt_inv (f := fun c x => (chk E.st a).e c x) h
    cases hp
theorem isi_inv {f : C0 → Str → Expr → Str → Bool} {c : C0} {e : Expr} (h : (match e with | .Call (.Name x _) [y, .Name z _] [] _ => f c x y z | _ => false) = true) : ∃ x y z p1 p2 q, e = .Call (.Name x p1) [y, .Name z p2] [] q ∧ f c x y z = true := by
  split at h
  · exact ⟨_, _, _, _, _, _, rfl, h⟩
  · cases h
theorem isi_boot : ∀ p : Ity, bootBuiltins (p.nm : Str) = some (.type p.nm)
  | .int => by decide +kernel | .bool => by decide +kernel | .str => by decide +kernel | .tuple => by decide +kernel | .list => by decide +kernel
theorem isi_mem : ∀ p : Ity, (p.nm : Str) ∈ bltNames
  | .int => by decide +kernel | .bool => by decide +kernel | .str => by decide +kernel | .tuple => by decide +kernel | .list => by decide +kernel
theorem snd_isi {p : Ity} {a : T} (ia : Snd E k a) : Snd E k (.isi p a) := by
  have inv : ∀ {c : C0} {e : Expr}, (chk E.st (.isi p a)).e c e = true → ∃ y p1 p2 q, e = .Call (.Name "isinstance" p1) [y, .Name (p.nm : Str) p2] [] q ∧ glB c "isinstance" = true ∧ glB c (p.nm : Str) = true ∧ (chk E.st a).e c y = true ∧ noStar y = true := by
    intro c e h
    obtain ⟨x, y, z, p1, p2, q, rfl, h⟩ := isi_inv (f := fun c x y z => decide (x = ("isinstance" : Str)) && decide (z = (p.nm : Str)) && glB c x && glB c z && (chk E.st a).e c y && noStar y) h
    have h : (decide (x = ("isinstance" : Str)) && decide (z = (p.nm : Str)) && glB c x && glB c z && (chk E.st a).e c y && noStar y) = true := h
    obtain ⟨h, h5⟩ := and2 h
    obtain ⟨h, h4⟩ := and2 h
    obtain ⟨h, h3⟩ := and2 h
    obtain ⟨h, h2⟩ := and2 h
    obtain ⟨h0, h1⟩ := and2 h
    have h0 := of_decide_eq_true h0
    have h1 := of_decide_eq_true h1
    subst h0 h1
    exact ⟨y, p1, p2, q, rfl, h2, h3, h4, h5⟩
  refine sndE rfl rfl (fun {c X e} G h => ?_) (fun {c X e} G h hp => ?_) rfl
  · obtain ⟨y, p1, p2, q, rfl, h2, h3, h4, h5⟩ := inv h
    obtain ⟨g1, _, _⟩ := gl_of G h2
    obtain ⟨g4, g5, g6⟩ := gl_of G h3
    exact me_isi g1 (G.blt _ (by decide +kernel)) (ia.e G h4) (pe_bltn g4 (G.blt _ (isi_mem p)) (isi_boot p) rfl g6 g5) (star_ok _ h5)
  · obtain ⟨y, p1, p2, q, rfl, _⟩ := inv h
    cases hp
theorem mem_range : ("range" : Str) ∈ bltNames := by decide +kernel
theorem mem_enum : ("enumerate" : Str) ∈ bltNames := by decide +kernel
theorem mem_zip : ("zip" : Str) ∈ bltNames := by decide +kernel
theorem snd_irng {as : T} (ia : Snd E k as) : Snd E k (.irng as) := by
  refine sndI rfl rfl fun {c X tg e} G h => ?_
  obtain ⟨x, es, p, q, rfl, h⟩ := call_inv (f := fun c x es => decide (x = ("range" : Str)) && glB c x && (chk E.st as).a c es && es.all noStar && (es.length == 1 || es.length == 2)) h
  have h : (decide (x = ("range" : Str)) && glB c x && (chk E.st as).a c es && es.all noStar && (es.length == 1 || es.length == 2)) = true := h
  obtain ⟨h, h4⟩ := and2 h
  obtain ⟨h, h3⟩ := and2 h
  obtain ⟨h, h2⟩ := and2 h
  obtain ⟨h0, h1⟩ := and2 h
  have h0 := of_decide_eq_true h0
  subst h0
  obtain ⟨g1, g2, g3⟩ := gl_of G h1
  have hm := G.blt _ mem_range
  obtain ⟨pa, pl⟩ := ia.a G h2
  cases es with
  | nil => cases h4
  | cons a es =>
    rw [List.all_cons] at h3
    obtain ⟨n3, h5⟩ := and2 h3
    cases es with
    | nil => exact mi_rng1 g1 hm pa (star_ok [] n3) pl
    | cons b es =>
      rw [List.all_cons] at h5
      obtain ⟨n5, h6⟩ := and2 h5
      cases es with
      | nil => exact mi_rng2 g1 hm pa (by rw [star_ok _ n3, star_ok _ n5]; rfl) (star_ok [] n5) pl
      | cons d es => simp at h4
theorem snd_ienum {as : T} (ia : Snd E k as) : Snd E k (.ienum as) := by
  refine sndI rfl rfl fun {c X tg e} G h => ?_
  obtain ⟨x, es, p, q, rfl, h⟩ := call_inv (f := fun c x es => decide (x = ("enumerate" : Str)) && !(noTup tg) && glB c x && (chk E.st as).a c es && es.all noStar && es.length == 1) h
  have h : (decide (x = ("enumerate" : Str)) && !(noTup tg) && glB c x && (chk E.st as).a c es && es.all noStar && es.length == 1) = true := h
  obtain ⟨h, h4⟩ := and2 h
  obtain ⟨h, h3⟩ := and2 h
  obtain ⟨h, h2⟩ := and2 h
  obtain ⟨h, h1⟩ := and2 h
  obtain ⟨h0, ht⟩ := and2 h
  have h0 := of_decide_eq_true h0
  subst h0
  obtain ⟨g1, g2, g3⟩ := gl_of G h1
  have hm := G.blt _ mem_enum
  obtain ⟨pa, pl⟩ := ia.a G h2
  cases tg with
  | Tuple ts kk tp =>
    cases es with
    | nil => cases h4
    | cons a es =>
      rw [List.all_cons] at h3
      obtain ⟨n3, h5⟩ := and2 h3
      cases es with
      | nil => exact mi_enum g1 hm pa (star_ok [] n3)
      | cons b es => simp at h4
  | _ => cases ht
theorem snd_izip {as : T} (ia : Snd E k as) : Snd E k (.izip as) := by
  refine sndI rfl rfl fun {c X tg e} G h => ?_
  obtain ⟨x, es, p, q, rfl, h⟩ := call_inv (f := fun c x es => decide (x = ("zip" : Str)) && !(noTup tg) && glB c x && (chk E.st as).a c es && es.all noStar && es.length == 2) h
  have h : (decide (x = ("zip" : Str)) && !(noTup tg) && glB c x && (chk E.st as).a c es && es.all noStar && es.length == 2) = true := h
  obtain ⟨h, h4⟩ := and2 h
  obtain ⟨h, h3⟩ := and2 h
  obtain ⟨h, h2⟩ := and2 h
  obtain ⟨h, h1⟩ := and2 h
  obtain ⟨h0, ht⟩ := and2 h
  have h0 := of_decide_eq_true h0
  subst h0
  obtain ⟨g1, g2, g3⟩ := gl_of G h1
  have hm := G.blt _ mem_zip
  obtain ⟨pa, pl⟩ := ia.a G h2
  cases tg with
  | Tuple ts kk tp =>
    cases es with
    | nil => cases h4
    | cons a es =>
      rw [List.all_cons] at h3
      obtain ⟨n3, h5⟩ := and2 h3
      cases es with
      | nil => cases h4
      | cons b es =>
        rw [List.all_cons] at h5
        obtain ⟨n5, h6⟩ := and2 h5
        cases es with
        | nil => exact mi_zip (pi_zip g1 hm pa (star_ok _ n3) (star_any _ (by rw [List.all_cons, n5]; rfl)))
        | cons d es => simp at h4
  | _ => cases ht

/-! ### statements -/
theorem asg_inv {f : C0 → Str → Pos → Expr → Pos → Bool} {f' : C0 → Expr → Expr → Bool} {c : C0} {s : Stmt} (h : (match s with | .Assign [.Name x p] v q => f c x p v q | .Assign [t] v _ => f' c t v | _ => false) = true) :
    (∃ x p v q, s = .Assign [.Name x p] v q ∧ f c x p v q = true) ∨ ∃ t v q, s = .Assign [t] v q ∧ f' c t v = true := by
  split at h
  · exact .inl ⟨_, _, _, _, rfl, h⟩
  · exact .inr ⟨_, _, _, rfl, h⟩
  · cases h
theorem snd_asg {tg e : T} (itg : Snd E k tg) (ie : Snd E k e) : Snd E k (.asg tg e) := by
  refine sndS rfl rfl fun {c X st} G h => ?_
  rcases asg_inv (f := fun c x p v q => (chk E.st e).e c v && noComp v && (chk E.st tg).g c (.Name x p) && (match (generalizing := false) tg with | .var i => locB c x i | _ => false)) (f' := fun c t v => (chk E.st e).e c v && noComp v && noTup v && (chk E.st tg).g c t) h with ⟨x, p, v, q, rfl, hh⟩ | ⟨t, v, q, rfl, hh⟩
  · obtain ⟨h, h4⟩ := and2 hh
    obtain ⟨h, h3⟩ := and2 h
    obtain ⟨h1, h2⟩ := and2 h
    cases tg with
    | var i =>
      obtain ⟨l1, l2, l3, l4⟩ := loc_of G h4
      exact ms_set (ps_set l1 l2 l3 (ie.e G h1) (sw_ok h2) l4)
    | _ => cases h4
  · obtain ⟨h, h4⟩ := and2 hh
    obtain ⟨h, h3⟩ := and2 h
    obtain ⟨h1, h2⟩ := and2 h
    refine ms_asg (ps_asg (ie.e G h1) (itg.g G h4) (sw_ok h2) (stores_ok h3) ?_)
    cases t <;> first | rfl | skip
    -- a starred target has no rule
    cases tg <;> cases h4
theorem alc_inv {f : C0 → Str → Pos → Expr → Bool} {c : C0} {s : Stmt} (h : (match s with | .Assign [.Name y p] v q => f c y p v | _ => false) = true) : ∃ y p v q, s = .Assign [.Name y p] v q ∧ f c y p v = true := by
  split at h
  · exact ⟨_, _, _, _, rfl, h⟩
  · cases h
theorem snd_alc {i : Nat} {own : List Nat} {tg it ts el : T} (itg : Snd E k tg) (iit : Snd E k it) (its : Snd E k ts) (iel : Snd E k el) : Snd E k (.alc i own tg it ts el) := by
  refine sndS rfl rfl fun {c X st} G h => ?_
  obtain ⟨y, p, v, q, rfl, h⟩ := alc_inv (f := fun c y p v => ckLc (chk E.st it).i (chk E.st tg).g (chk E.st ts).ts (chk E.st el).e own (slots tg) c v && lclB c y i && swB c y p.line v) h
  obtain ⟨h, h3⟩ := and2 h
  obtain ⟨h1, h2⟩ := and2 h
  obtain ⟨l1, l2, l3⟩ := lcl_of G h2
  obtain ⟨elt, tg', iter, ifs, scope, pos, own', rfl, ho, hb, hi, hset, hg, hts, hel, his⟩ := lc_inv h1
  have ok := blkOk_by hb
  have h3 : ((match c.sc.names.lookup y with | some .local => true | _ => false) && (p.line == pos.line) && !(scope.names.any fun (n, k) => n == y && (k == .local || k == .cell))) = true := h3
  obtain ⟨h3, h6⟩ := and2 h3
  obtain ⟨h4, h5⟩ := and2 h3
  have hsw := sw_true (elt := elt) (gs := [⟨tg', iter, ifs, 0⟩]) (scope := scope) (pos := pos) (py := p) (y := y) (l := q.line) (env := X.env) (by rw [G.sc]; exact G.kd) l3 h5 (by simpa using h6)
  refine ms_set (psI (t := tAsg (tLc (tDI X.K (sem E it).i) (tDG X.K (slots tg) (sem E tg).g) (tDT X.K (sem E ts).t) (tD X.K (sem E el).e) (own'.map (·.2))) (gName i)) (ps_setLc (own := own') G.calm l1 l2 l3 hsw (iit.i G hi) (by rw [G.hN, G.sc]; exact ok) (fun s H C cl fp => ?_) (fun s H C cl fp => ?_) (fun s H C cl fp => ?_) (set_ok hset)) (fun D σ H h => ?_))
  · exact itg.g (G.blk scope ok.kind s H C cl fp) hg
  · exact its.ts (G.blk scope ok.kind s H C cl fp) hts
  · exact iel.e (G.blk scope ok.kind s H C cl fp) hel
  · rw [ho]
    exact lc_r his h
theorem snd_aug {i : Nat} {p : Bop} {e : T} (ie : Snd E k e) : Snd E k (.aug i p e) := by
  refine sndS rfl rfl fun {c X st} G h => ?_
  split at h
  · obtain ⟨h, h4⟩ := and2 h
    obtain ⟨h, h3⟩ := and2 h
    obtain ⟨h1, h2⟩ := and2 h
    have h1 := of_decide_eq_true h1
    subst h1
    obtain ⟨l1, l2, l3, l4⟩ := loc_of G h3
    refine ms_aug l1 l2 l3 l4 (ie.e G h4) ?_
    cases p <;> first | exact .inl rfl | exact .inr rfl | cases h2
  · cases h
theorem snd_ifs {t a b : T} (it : Snd E k t) (ia : Snd E k a) (ib : Snd E k b) : Snd E k (.ifs t a b) := by
  refine sndS rfl rfl fun {c X st} G h => ?_
  split at h
  · obtain ⟨h, h3⟩ := and2 h
    obtain ⟨h1, h2⟩ := and2 h
    exact ms_if (it.t G h1) (ia.b G h2) (ib.b G h3)
  · cases h
theorem snd_whl {n : Nat} {t b : T} (it : Snd E k t) (ib : Snd E k b) : Snd E k (.whl n t b) := by
  refine sndS rfl rfl fun {c X st} G h => ?_
  split at h
  · obtain ⟨h1, h2⟩ := and2 h
    exact ms_while n (never G) (it.t G h1) (ib.b G h2)
  · cases h
theorem snd_for {tg it b : T} (itg : Snd E k tg) (iit : Snd E k it) (ib : Snd E k b) : Snd E k (.for_ tg it b) := by
  refine sndS rfl rfl fun {c X st} G h => ?_
  split at h
  · obtain ⟨h, h4⟩ := and2 h
    obtain ⟨h, h3⟩ := and2 h
    obtain ⟨h1, h2⟩ := and2 h
    exact ms_for (never G) G.calm (iit.i G h1) (itg.g G h3) (ib.b G h4) (set_ok h2)
  · cases h
theorem snd_ret {e : T} (ie : Snd E k e) : Snd E k (.ret e) := by
  refine sndS rfl rfl fun {c X st} G h => ?_
  split at h
  · exact ms_ret (ie.e G h)
  · cases h
theorem snd_retN : Snd E k .retN := by
  refine sndS rfl rfl fun {c X st} G h => ?_
  split at h
  · exact ms_retN
  · cases h
theorem snd_ex {e : T} (ie : Snd E k e) : Snd E k (.ex e) := by
  refine sndS rfl rfl fun {c X st} G h => ?_
  split at h
  · obtain ⟨h1, h2⟩ := and2 h
    exact ms_ex (ps_expr (ie.e G h1) (sw_ok h2))
  · cases h
theorem snd_pas : Snd E k .pas := by
  refine sndS rfl rfl fun {c X st} G h => ?_
  split at h
  · exact ms_pass
  · cases h
theorem snd_brk : Snd E k .brk := by
  refine sndS rfl rfl fun {c X st} G h => ?_
  split at h
  · exact ms_brk
  · cases h
theorem snd_cnt : Snd E k .cnt := by
  refine sndS rfl rfl fun {c X st} G h => ?_
  split at h
  · exact ms_cnt
  · cases h
end
end Mz

end

section
set_option Elab.async false
set_option linter.all false
set_option maxRecDepth 100000
set_option maxHeartbeats 4000000
namespace Mz
open PySem PySem.Spec L2
section
variable {E : PEnv} {k : Nat} {c : C0} {X : Cx}
theorem par_ok {x y : Str} {p p' q1 q2 : Pos} {a b : Expr} {k1 k2 : Nat} {env : Env} (hk : env.scope.kind = .function) (hx : env.scope.names.lookup x = some .local) (hy : env.scope.names.lookup y = some .local) (hl : (p'.line == p.line) = true)
    (hst : [a, b].all noStar = true) (hd : [x, y].eraseDups.length = [x, y].length) (hf : [a, b].all (foldedForSure 8) = false) (hc : [a, b].all (constantsAlone 8) = false) :
    swappedStores [.Tuple [.Name x p, .Name y p'] k1 q1] (.Tuple [a, b] k2 q2) env = pure (some [x, y]) := by
  have bk : env.blockKind = .function := by unfold Env.blockKind; rw [hk]; rfl
  have kx : env.kindOf x = some .local := hx
  have ky : env.kindOf y = some .local := hy
  simp only [List.all_cons, List.all_nil, Bool.and_true, Bool.and_eq_true] at hst
  unfold swappedStores
  simp only [bk, hf, hc]
  simp [kx, ky, Expr.pos, eq_of_beq hl]
  rw [if_neg ?_]
  · rw [if_pos (by simpa using hd)]
  · intro h
    rcases h with h | h
    · cases a with
      | Starred _ _ => exact absurd hst.1 Bool.false_ne_true
      | _ => cases h
    · cases b with
      | Starred _ _ => exact absurd hst.2 Bool.false_ne_true
      | _ => cases h
theorem snd_par {i j : Nat} {as : T} (ia : Snd E k as) : Snd E k (.par i j as) := by
  refine sndS rfl rfl fun {c X st} G h => ?_
  split at h
  · rename_i x p y p' k1 q1 vs k2 q2 q
    obtain ⟨h, h6⟩ := and2 h
    obtain ⟨h, h5⟩ := and2 h
    obtain ⟨h, h4⟩ := and2 h
    obtain ⟨h, h3⟩ := and2 h
    obtain ⟨h1, h2⟩ := and2 h
    obtain ⟨l1, l2, l3⟩ := lcl_of G h1
    obtain ⟨_, l5, l6⟩ := lcl_of G h2
    obtain ⟨pa, pl⟩ := ia.a G h4
    unfold parB at h6
    obtain ⟨h6, e5⟩ := and2 h6
    obtain ⟨h6, e4⟩ := and2 h6
    obtain ⟨h6, e3⟩ := and2 h6
    obtain ⟨e1, e2⟩ := and2 h6
    cases vs with
    | nil => cases h5
    | cons a vs =>
      cases vs with
      | nil => cases h5
      | cons b vs =>
        cases vs with
        | cons _ _ => simp at h5
        | nil =>
          simp only [List.all_cons, List.all_nil, Bool.and_true, Bool.and_eq_true] at e2
          refine ms_par (ps_par G.calm l1 l2 l5 (of_decide_eq_true h3) l3 l6 pa (par_ok (by rw [G.sc]; exact G.kd) l3 l6 ?_ e1 (of_decide_eq_true e3) ?_ ?_) rfl)
          · exact e2.2.2
          · rw [Bool.not_eq_true'] at e4; exact e4
          · rw [Bool.not_eq_true'] at e5; exact e5
  · cases h
theorem snd_all : ∀ t : T, Snd E k t := by
  intro t
  induction t with
  | nil => exact snd_nil
  | cons a b ia ib => exact snd_cons ia ib
  | var i => exact snd_var
  | glb x => exact snd_glb
  | int i => exact snd_int
  | str i => exact snd_str
  | bl i => exact snd_bl
  | non => exact snd_non
  | bin p a b ia ib => exact snd_bin ia ib
  | cmp p a b ia ib => exact snd_cmp ia ib
  | chain p q a b c ia ib ic => exact snd_chain ia ib ic
  | neg a ia => exact snd_neg ia
  | nt a ia => exact snd_nt ia
  | and a b ia ib => exact snd_and ia ib
  | or a b ia ib => exact snd_or ia ib
  | ife t a b it ia ib => exact snd_ife it ia ib
  | tup a ia => exact snd_tup ia
  | lst a ia => exact snd_lst ia
  | sub a b ia ib => exact snd_sub ia ib
  | sli a b c ia ib ic => exact snd_sli ia ib ic
  | rev a ia => exact snd_rev ia
  | call f a ia => exact snd_call ia
  | blt f a ia => exact snd_blt ia
  | mth f o a io ia => exact snd_mth io ia
  | lc own tg it ts el itg iit its iel => exact snd_lc itg iit its iel
  | fst a ia => exact snd_fst ia
  | fmt a ia => exact snd_fmt ia
  | isi p a ia => exact snd_isi ia
  | irng a ia => exact snd_irng ia
  | ienum a ia => exact snd_ienum ia
  | izip a ia => exact snd_izip ia
  | asg a b ia ib => exact snd_asg ia ib
  | alc i own tg it ts el itg iit its iel => exact snd_alc itg iit its iel
  | aug i p e ie => exact snd_aug ie
  | par i j a ia => exact snd_par ia
  | par3 i j l a ia => exact sndS (p := fun _ _ => false) rfl rfl fun _ h => by cases h
  | ifs t a b it ia ib => exact snd_ifs it ia ib
  | whl n t b it ib => exact snd_whl it ib
  | for_ t i b it ii ib => exact snd_for it ii ib
  | ret e ie => exact snd_ret ie
  | retN => exact snd_retN
  | ex e ie => exact snd_ex ie
  | pas => exact snd_pas
  | brk => exact snd_brk
  | cnt => exact snd_cnt
end

/-! ### defs -/
structure Def0 where
  ar : Nat
  n : Nat
  body : T
def endR : R → O D
  | .rt d S => .ok d S
  | .nx _ S => .ok .non S
  | .ex x S => .ex x S
  | _ => .no
def startG (n : Nat) (ds : List D) : Sg := ds.map some ++ List.replicate (n - ds.length) none
def runBody (n : Nat) (b : SS) (ds : List D) (S : Store) : O D := endR (b (startG n ds) S)
theorem RVs.start {K : PySem.W.Frag} {m : List Addr} {H : Hp} {N : List Str} : ∀ {ds : List D} {vs : List V}, RVs K m H ds vs → RVo K m H (startG N.length ds) (L2.start N vs) := by
  intro ds vs r
  unfold startG L2.start
  refine ⟨by simp [r.length], fun i d h => ?_⟩
  by_cases hi : i < ds.length
  · rw [List.getElem?_append_left (by simpa using hi), List.getElem?_map] at h
    cases q : ds[i]? with
    | none => rw [q] at h; cases h
    | some d' =>
      rw [q] at h
      cases h
      obtain ⟨v, e, rv⟩ := r.get q
      refine ⟨v, ?_, rv⟩
      rw [List.getElem?_append_left (by rw [List.length_map, ← r.length]; exact hi), List.getElem?_map, e]
      rfl
  · rw [List.getElem?_append_right (by simpa using hi)] at h
    rw [List.getElem?_replicate] at h
    split at h <;> cases h
theorem fn_ok {P : Program} {w : World} {K : PySem.W.Frag} {mg : Str → Option Value} {base : Heap} {E : PEnv} {k : Nat} {x qual : Str} {st : Stmt} {f : Addr} {fd : FuncData} {N ps : List Str} {body : T} (F : Fun K x qual st f fd) (S : FnScope N ps (defScope st))
    (fns : ∀ f ∈ E.st.fns, ∃ a fd ps, ps.length = E.st.ar f ∧ mg f = some (.ref a) ∧ PySem.W.keepIn K (.ref a) = true ∧ Binds K fd ps [] ∧ FnOk P w K mg base CX0 k a fd ps (spD K (E.st.ar f) (E.F f)))
    (gls : ∀ x ∈ E.st.gls, ∃ d u v, E.G x = some d ∧ mg x = some u ∧ RelV v u ∧ ∀ m H, RV K m H d v) (blt : ∀ x ∈ bltNames, mg x = none)
    (ck : (chk E.st body).b ⟨N, defScope st, true⟩ (defBody st) = true) : FnOk P w K mg base CX0 (k + 1) f fd ps (spD K ps.length (fun ds S => runBody N.length (sem E body).b ds S)) := by
  refine F.ok S (fun vs H Q E' h => h.1) fun cdv A outer s H vs Q E' hr h => ?_
  have G : Good E k ⟨N, defScope st, true⟩ (cxOf CX0 P w K mg base N qual (defScope st) f cdv A outer s H E').nox :=
    ⟨rfl, S.nd, rfl, S.kind, rfl, fun _ _ => rfl, rfl, hr, fns, gls, blt⟩
  refine ⟨_, (snd_all body).b G ck, ?_⟩
  obtain ⟨_, m, S0, ds, hs, rs, hp⟩ := h
  refine ⟨m, S0, startG N.length ds, hs, rs.start, ?_⟩
  have hp : PostE K m H Q (endR ((sem E body).b (startG N.length ds) S0)) := hp
  show PostS K m H _ ((sem E body).b (startG N.length ds) S0)
  cases e : (sem E body).b (startG N.length ds) S0 with
  | nx g S1 => rw [e] at hp; exact fun σ m' H' x' s' _ => hp .non m' H' x' s' .non
  | rt d S1 => rw [e] at hp; exact hp
  | bk g S1 => rw [e] at hp; exact hp.elim
  | ct g S1 => rw [e] at hp; exact hp.elim
  | ex x S1 => rw [e] at hp; exact hp.elim
  | no => rw [e] at hp; exact hp.elim

/-! ### the whole program, by fuel -/
structure Prg where
  tab : List (Str × Def0)
  G : List (Str × D)
def Prg.st (p : Prg) : PSt := ⟨fun f => match p.tab.lookup f with | some d => d.ar | none => 0, p.tab.map (·.1), p.G.map (·.1)⟩
def Prg.env (p : Prg) (F : Str → List D → Store → O D) : PEnv := ⟨F, fun x => p.G.lookup x, p.st⟩
def Prg.run (p : Prg) : Nat → Str → List D → Store → O D
  | 0 => fun _ _ _ => .no
  | k + 1 => fun f ds S => match p.tab.lookup f with
    | some d => if ds.length = d.ar then runBody d.n (sem (p.env (p.run k)) d.body).b ds S else .no
    | none => .no
/-- a def of the table stands in the text -/
structure At (K : PySem.W.Frag) (mg : Str → Option Value) (x : Str) (d : Def0) (ps N : List Str) (st : Stmt) (a : Addr) (fd : FuncData) : Prop where
  fu : Fun K x x st a fd
  mg : mg x = some (.ref a)
  bi : Binds K fd ps []
  sc : FnScope N ps (defScope st)
  ar : ps.length = d.ar
  n : N.length = d.n
theorem spD_no {K : PySem.W.Frag} {n : Nat} {vs : List V} {H : Hp} {Q : VK} {E : XK} : ¬ spD K n (fun _ _ => .no) vs H Q E := fun h => by
  obtain ⟨_, m, S, ds, hs, rs, hp⟩ := h
  exact hp
theorem prg_ok {P : Program} {w : World} {K : PySem.W.Frag} {mg : Str → Option Value} {base : Heap} (p : Prg)
    (tab : ∀ x d, p.tab.lookup x = some d → ∃ ps N st a fd, At K mg x d ps N st a fd ∧ (chk p.st d.body).b ⟨N, defScope st, true⟩ (defBody st) = true)
    (gls : ∀ x ∈ p.G.map (·.1), ∃ d u v, p.G.lookup x = some d ∧ mg x = some u ∧ RelV v u ∧ ∀ m H, RV K m H d v) (blt : ∀ x ∈ bltNames, mg x = none) :
    ∀ k x d ps N st a fd, p.tab.lookup x = some d → At K mg x d ps N st a fd → (chk p.st d.body).b ⟨N, defScope st, true⟩ (defBody st) = true → FnOk P w K mg base CX0 k a fd ps (spD K d.ar (p.run k x)) := by
  intro k
  induction k with
  | zero =>
    intro x d ps N st a fd h at' ck
    exact ⟨fun vs H Q E h => absurd h spD_no, fun A outer s H args us vs Q E _ _ _ _ h => absurd h spD_no⟩
  | succ k ih =>
    intro x d ps N st a fd h at' ck
    have F := fn_ok (P := P) (w := w) (base := base) (E := p.env (p.run k)) (k := k) at'.fu at'.sc (fun f hf => ?_) gls blt ck
    · rw [at'.ar, at'.n] at F
      refine F.imp fun vs H Q E q => ⟨q.1, ?_⟩
      obtain ⟨hl, m, S, ds, hs, rs, hp⟩ := q
      refine ⟨m, S, ds, hs, rs, ?_⟩
      have e : p.run (k + 1) x ds S = runBody d.n (sem (p.env (p.run k)) d.body).b ds S := by
        show (match p.tab.lookup x with | some d => if ds.length = d.ar then runBody d.n (sem (p.env (p.run k)) d.body).b ds S else .no | none => .no) = _
        rw [h]
        show (if ds.length = d.ar then runBody d.n (sem (p.env (p.run k)) d.body).b ds S else .no) = _
        rw [if_pos (by rw [rs.length]; exact hl)]
      rw [e] at hp
      exact hp
    · have hf : f ∈ p.tab.map (·.1) := hf
      obtain ⟨⟨y, d'⟩, hm, rfl⟩ := List.mem_map.mp hf
      have hl : ∃ d', p.tab.lookup y = some d' := by
        cases q : p.tab.lookup y with
        | some z => exact ⟨z, rfl⟩
        | none =>
          have := List.lookup_eq_none_iff.mp q (y, d') hm
          simp at this
      obtain ⟨d', hl⟩ := hl
      obtain ⟨ps', N', st', a', fd', at2, ck2⟩ := tab y d' hl
      have ok := ih y d' ps' N' st' a' fd' hl at2 ck2
      have ea : (p.env (p.run k)).st.ar y = d'.ar := by
        show (match p.tab.lookup y with | some d => d.ar | none => 0) = _
        rw [hl]
      exact ⟨a', fd', ps', by rw [ea]; exact at2.ar, at2.mg, at2.fu.kp, at2.bi, by rw [ea]; exact ok⟩
theorem lk_cons {x y : Str} {d e : Def0} {r : List (Str × Def0)} (h : ((y, e) :: r).lookup x = some d) : (y = x ∧ e = d) ∨ r.lookup x = some d := by
  rw [List.lookup_cons] at h
  split at h
  · rename_i hb
    exact .inl ⟨(eq_of_beq hb).symm, Option.some.inj h⟩
  · exact .inr h
/-- the law's promise at its end -/
theorem law_end {K : PySem.W.Frag} {f : List D → Store → O D} (hf : ∀ ns : List Int, ns.length ≤ 63 → ∃ S, f [.cl (ns.map .int)] [] = .ok (.bl true) S) :
    ∀ (H : Hp) (a : Addr) (ns : List Int), ns.length ≤ 63 → Only H → SqL K H a (ns.map V.int) → spD K 1 f [.ref a] H (fun v _ => v = .bl true) fun _ _ _ => False := by
  intro H a ns hl ho hq
  have hc : SqC K H a (ns.map V.int) := by
    rcases hq with (h | ⟨o, h⟩) | h
    · rcases ho a with e | ⟨o, xs, e⟩
      · rw [e] at h; cases h
      · rw [e] at h; cases h
    · exact .inl ⟨o, h⟩
    · exact .inr h
  have rs : ∀ ns : List Int, RVs K [] H (ns.map D.int) (ns.map V.int) := by
    intro ns
    induction ns with
    | nil => exact .nil
    | cons n ns ih => exact .cons (.int n) ih
  refine ⟨rfl, [], [], [.cl (ns.map .int)], ⟨rfl, fun i j a h => by simp at h, fun n a c h => by simp at h⟩, .cons (.cl hc (rs ns)) .nil, ?_⟩
  obtain ⟨S, e⟩ := hf ns hl
  rw [e]
  intro v m' H' _ _ r
  cases r
  rfl
end Mz

end

section
set_option Elab.async false
set_option linter.all false
set_option maxRecDepth 100000
namespace Mz
open PySem PySem.Spec L2

/-! ### what an outcome is to be -/
def Sat {α : Type} (o : O α) (Q : α → Store → Prop) : Prop := match o with
  | .ok a S => Q a S
  | _ => False
def SatR (r : R) (N : Sg → Store → Prop) (Rt : D → Store → Prop) (B C : Sg → Store → Prop) : Prop := match r with
  | .nx g S => N g S
  | .rt d S => Rt d S
  | .bk g S => B g S
  | .ct g S => C g S
  | _ => False
section
variable {α β : Type} {a : α} {S : Store} {Q Q' : α → Store → Prop} {o : O α}
theorem Sat.mono (h : Sat o Q) (i : ∀ a S, Q a S → Q' a S) : Sat o Q' := by
  cases o with | ok a S => exact i a S h | ex _ _ => exact h | no => exact h
theorem Sat.ex (h : Sat o Q) : ∃ a S, o = .ok a S ∧ Q a S := by
  cases o with | ok a S => exact ⟨a, S, rfl, h⟩ | ex _ _ => exact h.elim | no => exact h.elim
theorem Sat.of {a : α} (h : o = .ok a S) (q : Q a S) : Sat o Q := by rw [h]; exact q
theorem sat_ok : Sat (.ok a S) Q ↔ Q a S := Iff.rfl
theorem sat_no : Sat (.no : O α) Q ↔ False := Iff.rfl
theorem sat_ex {x : Xc} : Sat (.ex x S : O α) Q ↔ False := Iff.rfl
theorem sat_bind {k : β → Store → O α} {o : O β} : Sat (o.bind k) Q ↔ Sat o fun a S => Sat (k a S) Q := by
  cases o <;> exact Iff.rfl
theorem sat_ite {c : Prop} [Decidable c] {o o' : O α} : Sat (if c then o else o') Q ↔ (c → Sat o Q) ∧ (¬ c → Sat o' Q) := by
  by_cases h : c
  · rw [if_pos h]; exact ⟨fun q => ⟨fun _ => q, fun n => absurd h n⟩, fun q => q.1 h⟩
  · rw [if_neg h]; exact ⟨fun q => ⟨fun n => absurd n h, fun _ => q⟩, fun q => q.2 h⟩
variable {r : R} {N N' B C : Sg → Store → Prop} {Rt : D → Store → Prop} {g : Sg}
theorem SatR.mono (h : SatR r N Rt B C) (i : ∀ g S, N g S → N' g S) : SatR r N' Rt B C := by
  cases r <;> first | exact i _ _ h | exact h
theorem satR_nx : SatR (.nx g S) N Rt B C ↔ N g S := Iff.rfl
theorem satR_rt {d : D} : SatR (.rt d S) N Rt B C ↔ Rt d S := Iff.rfl
theorem satR_bk : SatR (.bk g S) N Rt B C ↔ B g S := Iff.rfl
theorem satR_ct : SatR (.ct g S) N Rt B C ↔ C g S := Iff.rfl
theorem satR_no : SatR .no N Rt B C ↔ False := Iff.rfl
theorem satR_bindR {o : O α} {k : α → Store → R} : SatR (bindR o k) N Rt B C ↔ Sat o fun a S => SatR (k a S) N Rt B C := by
  cases o <;> exact Iff.rfl
theorem satR_ite {c : Prop} [Decidable c] {o o' : R} : SatR (if c then o else o') N Rt B C ↔ (c → SatR o N Rt B C) ∧ (¬ c → SatR o' N Rt B C) := by
  by_cases h : c
  · rw [if_pos h]; exact ⟨fun q => ⟨fun _ => q, fun n => absurd h n⟩, fun q => q.1 h⟩
  · rw [if_neg h]; exact ⟨fun q => ⟨fun n => absurd n h, fun _ => q⟩, fun q => q.2 h⟩
theorem satR_cons {a b : SS} : SatR (sCons a b g S) N Rt B C ↔ SatR (a g S) (fun g S => SatR (b g S) N Rt B C) Rt B C := by
  unfold sCons
  cases a g S <;> exact Iff.rfl
theorem sat_endR {Q : D → Store → Prop} : Sat (endR r) Q ↔ SatR r (fun _ S => Q .non S) Q (fun _ _ => False) (fun _ _ => False) := by
  cases r <;> exact Iff.rfl
theorem sat_runBody {n : Nat} {b : SS} {ds : List D} {Q : D → Store → Prop} : Sat (runBody n b ds S) Q ↔ SatR (b (startG n ds) S) (fun _ S => Q .non S) Q (fun _ _ => False) (fun _ _ => False) := sat_endR
end

theorem sat_guard {α : Type} {c : Prop} [Decidable c] {o : O α} {Q : α → Store → Prop} : Sat (if c then o else .no) Q ↔ c ∧ Sat o Q := by
  by_cases h : c
  · rw [if_pos h]; exact ⟨fun q => ⟨h, q⟩, fun q => q.2⟩
  · rw [if_neg h]; exact ⟨fun q => q.elim, fun q => absurd q.1 h⟩

/-! ### statements, one by one -/
section
variable {f : SE} {t : ST} {a b : SS} {g g' : Sg} {S S' S1 : Store} {d : D} {N B C : Sg → Store → Prop} {Rt : D → Store → Prop}
theorem q_cons (h : SatR (a g S) (fun g S => SatR (b g S) N Rt B C) Rt B C) : SatR (sCons a b g S) N Rt B C := satR_cons.mpr h
theorem q_nil (h : N g S) : SatR (sNil g S) N Rt B C := h
theorem q_asg {i : Nat} (h : f g S = .ok d S') (k : N (g.set i (some d)) S') : SatR (sAsg f (gVar i) g S) N Rt B C := by
  unfold sAsg
  rw [h]
  exact k
theorem q_asgS {i : Nat} (h : Sat (f g S) fun d S' => N (g.set i (some d)) S') : SatR (sAsg f (gVar i) g S) N Rt B C := by
  unfold sAsg
  rw [satR_bindR]
  exact h
theorem q_asgG {tg : SG} (h : f g S = .ok d S1) (h2 : tg d g S1 = .ok g' S') (k : N g' S') : SatR (sAsg f tg g S) N Rt B C := by
  unfold sAsg
  rw [h]
  show SatR (bindR (tg d g S1) _) N Rt B C
  rw [h2]
  exact k
theorem q_asgGS {tg : SG} (h : Sat (f g S) fun d S1 => Sat (tg d g S1) fun g' S' => N g' S') : SatR (sAsg f tg g S) N Rt B C := by
  unfold sAsg
  rw [satR_bindR]
  exact h.mono fun d S1 h => satR_bindR.mpr h
theorem q_if {c : Bool} (h : t g S = .ok c S') (ht : c = true → SatR (a g S') N Rt B C) (hf : c = false → SatR (b g S') N Rt B C) : SatR (sIf t a b g S) N Rt B C := by
  unfold sIf
  rw [h]
  cases c with
  | true => exact ht rfl
  | false => exact hf rfl
theorem q_ifS (h : Sat (t g S) fun c S' => (c = true → SatR (a g S') N Rt B C) ∧ (c = false → SatR (b g S') N Rt B C)) : SatR (sIf t a b g S) N Rt B C := by
  unfold sIf
  rw [satR_bindR]
  refine h.mono fun c S' h => ?_
  cases c with
  | true => exact h.1 rfl
  | false => exact h.2 rfl
theorem q_ret (h : f g S = .ok d S') (k : Rt d S') : SatR (sRet f g S) N Rt B C := by
  unfold sRet
  rw [h]
  exact k
theorem q_retS (h : Sat (f g S) Rt) : SatR (sRet f g S) N Rt B C := by
  unfold sRet
  rw [satR_bindR]
  exact h
theorem q_ex (h : f g S = .ok d S') (k : N g S') : SatR (sEx f g S) N Rt B C := by
  unfold sEx
  rw [h]
  exact k
theorem q_exS (h : Sat (f g S) fun _ S' => N g S') : SatR (sEx f g S) N Rt B C := by
  unfold sEx
  rw [satR_bindR]
  exact h
theorem q_for {it : SI} {tg : SG} {ik : IK} (h : it g S = .ok ik S') (k : SatR (floop ik tg b (ibound ik S') 0 g S') N Rt B C) : SatR (sFor it tg b g S) N Rt B C := by
  unfold sFor
  rw [h]
  exact k
theorem q_forS {it : SI} {tg : SG} (h : Sat (it g S) fun ik S' => SatR (floop ik tg b (ibound ik S') 0 g S') N Rt B C) : SatR (sFor it tg b g S) N Rt B C := by
  unfold sFor
  rw [satR_bindR]
  exact h
end

theorem atI_of0 {α : Type} {xs : List α} {i : Int} {x : α} (h0 : 0 ≤ i) (h : xs[i.toNat]? = some x) : L2.atI xs i = some x := by
  have := atI_nat h
  rwa [Int.toNat_of_nonneg h0] at this
/-! ### the same, by the small text -/
section
variable {E : PEnv} {t e x r a b tg it : T} {g g' : Sg} {S S' S1 : Store} {d : D} {N B C : Sg → Store → Prop} {Rt : D → Store → Prop}
theorem k_cons (h : SatR ((sem E x).s g S) (fun g S => SatR ((sem E r).b g S) N Rt B C) Rt B C) : SatR ((sem E (.cons x r)).b g S) N Rt B C := q_cons h
theorem k_nil (h : N g S) : SatR ((sem E .nil).b g S) N Rt B C := h
theorem k_asg {i : Nat} (h : (sem E e).e g S = .ok d S') (k : N (g.set i (some d)) S') : SatR ((sem E (.asg (.var i) e)).s g S) N Rt B C := q_asg h k
theorem k_asgS {i : Nat} (h : Sat ((sem E e).e g S) fun d S' => N (g.set i (some d)) S') : SatR ((sem E (.asg (.var i) e)).s g S) N Rt B C := q_asgS h
theorem k_asgG (h : (sem E e).e g S = .ok d S1) (h2 : (sem E tg).g d g S1 = .ok g' S') (k : N g' S') : SatR ((sem E (.asg tg e)).s g S) N Rt B C := q_asgG h h2 k
theorem k_asgGS (h : Sat ((sem E e).e g S) fun d S1 => Sat ((sem E tg).g d g S1) fun g' S' => N g' S') : SatR ((sem E (.asg tg e)).s g S) N Rt B C := q_asgGS h
theorem k_if {c : Bool} (h : (sem E t).t g S = .ok c S') (ht : c = true → SatR ((sem E a).b g S') N Rt B C) (hf : c = false → SatR ((sem E b).b g S') N Rt B C) : SatR ((sem E (.ifs t a b)).s g S) N Rt B C := q_if h ht hf
theorem k_ifS (h : Sat ((sem E t).t g S) fun c S' => (c = true → SatR ((sem E a).b g S') N Rt B C) ∧ (c = false → SatR ((sem E b).b g S') N Rt B C)) : SatR ((sem E (.ifs t a b)).s g S) N Rt B C := q_ifS h
theorem k_ret (h : (sem E e).e g S = .ok d S') (k : Rt d S') : SatR ((sem E (.ret e)).s g S) N Rt B C := q_ret h k
theorem k_retS (h : Sat ((sem E e).e g S) Rt) : SatR ((sem E (.ret e)).s g S) N Rt B C := q_retS h
theorem k_ex (h : (sem E e).e g S = .ok d S') (k : N g S') : SatR ((sem E (.ex e)).s g S) N Rt B C := q_ex h k
theorem k_exS (h : Sat ((sem E e).e g S) fun _ S' => N g S') : SatR ((sem E (.ex e)).s g S) N Rt B C := q_exS h
theorem k_for {ik : IK} (h : (sem E it).i g S = .ok ik S') (k : SatR (floop ik (sem E tg).g (sem E b).b (ibound ik S') 0 g S') N Rt B C) : SatR ((sem E (.for_ tg it b)).s g S) N Rt B C := q_for h k
theorem k_forS (h : Sat ((sem E it).i g S) fun ik S' => SatR (floop ik (sem E tg).g (sem E b).b (ibound ik S') 0 g S') N Rt B C) : SatR ((sem E (.for_ tg it b)).s g S) N Rt B C := q_forS h
end

/-! ### values that are read -/
section
variable {α : Type} {a b c d e f x : α} {r : List α}
theorem at0 : L2.atI (a :: r) 0 = some a := atI_of0 (by decide) rfl
theorem at1 : L2.atI (a :: b :: r) 1 = some b := atI_of0 (by decide) rfl
theorem at2 : L2.atI (a :: b :: c :: r) 2 = some c := atI_of0 (by decide) rfl
theorem at3 : L2.atI (a :: b :: c :: d :: r) 3 = some d := atI_of0 (by decide) rfl
theorem at4 : L2.atI (a :: b :: c :: d :: e :: r) 4 = some e := atI_of0 (by decide) rfl
theorem at5 : L2.atI (a :: b :: c :: d :: e :: f :: r) 5 = some f := atI_of0 (by decide) rfl
end

theorem atI_of {α : Type} {xs : List α} {i : Int} {x : α} (h0 : 0 ≤ i) (h : xs[i.toNat]? = some x) : L2.atI xs i = some x := by
  have := atI_nat h
  rwa [Int.toNat_of_nonneg h0] at this
section
variable {S : Store} {Q : D → Store → Prop}
theorem item_tup {xs : List D} {i : Int} {x : D} (h0 : 0 ≤ i) (h : xs[i.toNat]? = some x) : semItem (.tup xs) (.int i) S = .ok x S := by
  show (match L2.atI xs i with | some x => O.ok x S | none => .no) = _
  rw [atI_of h0 h]
theorem item_lst {l : Nat} {xs : List D} {i : Int} {x : D} (hS : S[l]? = some (.lst xs)) (h0 : 0 ≤ i) (h : xs[i.toNat]? = some x) : semItem (.loc l) (.int i) S = .ok x S := by
  have e : seqAt S (.loc l) = some xs := by
    show (match S[l]? with | some (.lst xs) => some xs | _ => none) = _
    rw [hS]
  unfold semItem
  simp only [e, atI_of h0 h]
theorem item_cl {xs : List D} {i : Int} {x : D} (h0 : 0 ≤ i) (h : xs[i.toNat]? = some x) : semItem (.cl xs) (.int i) S = .ok x S := by
  show (match L2.atI xs i with | some x => O.ok x S | none => .no) = _
  rw [atI_of h0 h]
theorem item_str {z : Str} {i : Int} {c : Nat} (hz : z.length ≤ sizeLine) (h0 : 0 ≤ i) (h : z.cps.toList[i.toNat]? = some c) : semItem (.str z) (.int i) S = .ok (.str ⟨#[c]⟩) S := by
  show (if z.length ≤ sizeLine then (match L2.atI z.cps.toList i with | some c => O.ok (D.str ⟨#[c]⟩) S | none => .no) else .no) = _
  rw [if_pos hz, atI_of h0 h]
end

/-! ### loops -/
section
variable {ik : IK} {t : SG} {b : SS} {Rt : D → Store → Prop} {B C N : Sg → Store → Prop}
/-- a loop over fixed values, by an invariant -/
theorem floop_vals {xs : List D} (P : Nat → Sg → Store → Prop)
    (turn : ∀ i d g S, xs[i]? = some d → P i g S → Sat (t d g S) fun g S => SatR (b g S) (P (i + 1)) Rt N (P (i + 1))) (done : ∀ g S, P xs.length g S → N g S) :
    ∀ n i g S, i + n = xs.length + 1 → i ≤ xs.length → P i g S → SatR (floop (.vals xs) t b n i g S) N Rt B C := by
  intro n
  induction n with
  | zero => intro i g S h1 h2; omega
  | succ n ih =>
    intro i g S h1 h2 p
    show SatR (match istep (.vals xs) i S with
      | some (some d) => bindR (t d g S) fun g S => match b g S with
        | .nx g S => floop (.vals xs) t b n (i + 1) g S
        | .ct g S => floop (.vals xs) t b n (i + 1) g S
        | .bk g S => .nx g S
        | r => r
      | some none => .nx g S
      | none => .no) N Rt B C
    have e : istep (.vals xs) i S = some xs[i]? := rfl
    rw [e]
    by_cases hi : i < xs.length
    · rw [List.getElem?_eq_getElem hi]
      show SatR (bindR (t xs[i] g S) _) N Rt B C
      rw [satR_bindR]
      refine (turn i xs[i] g S (List.getElem?_eq_getElem hi) p).mono fun g1 S1 h => ?_
      cases q : b g1 S1 with
      | nx g2 S2 => rw [q] at h; exact ih (i + 1) g2 S2 (by omega) (by omega) h
      | ct g2 S2 => rw [q] at h; exact ih (i + 1) g2 S2 (by omega) (by omega) h
      | bk g2 S2 => rw [q] at h; exact h
      | rt d S2 => rw [q] at h; exact h
      | ex x S2 => rw [q] at h; exact h
      | no => rw [q] at h; exact h
    · have e : i = xs.length := by omega
      subst e
      rw [List.getElem?_eq_none (Nat.le_refl _)]
      exact done g S p
/-- a comprehension over fixed values -/
theorem lcLoop_vals {xs : List D} {ts : ST} {el : SE} {g0 : Sg} {Q : List D → Store → Prop} (P : Nat → List D → Store → Prop)
    (turn : ∀ i d acc S, xs[i]? = some d → P i acc S → Sat (t d g0 S) fun g S => Sat (ts g S) fun c S => (c = true → Sat (el g S) fun y S => acc.length < sizeLine ∧ P (i + 1) (acc ++ [y]) S) ∧ (c = false → P (i + 1) acc S))
    (done : ∀ acc S, P xs.length acc S → Q acc S) : ∀ n i acc S, i + n = xs.length + 1 → i ≤ xs.length → P i acc S → Sat (lcLoop (.vals xs) t ts el g0 n i acc S) Q := by
  intro n
  induction n with
  | zero => intro i acc S h1 h2; omega
  | succ n ih =>
    intro i acc S h1 h2 p
    show Sat (match istep (.vals xs) i S with
      | some (some d) => (t d g0 S).bind fun g S => (ts g S).bind fun c S => if c = true then (el g S).bind fun y S => if acc.length < sizeLine then lcLoop (.vals xs) t ts el g0 n (i + 1) (acc ++ [y]) S else .no else lcLoop (.vals xs) t ts el g0 n (i + 1) acc S
      | some none => .ok acc S
      | none => .no) Q
    have e : istep (.vals xs) i S = some xs[i]? := rfl
    rw [e]
    by_cases hi : i < xs.length
    · rw [List.getElem?_eq_getElem hi]
      show Sat ((t xs[i] g0 S).bind _) Q
      rw [sat_bind]
      refine (turn i xs[i] acc S (List.getElem?_eq_getElem hi) p).mono fun g1 S1 h => ?_
      rw [sat_bind]
      refine h.mono fun c S2 h => ?_
      cases c with
      | true =>
        rw [if_pos rfl, sat_bind]
        refine (h.1 rfl).mono fun y S3 h => ?_
        rw [if_pos h.1]
        exact ih (i + 1) _ S3 (by omega) (by omega) h.2
      | false =>
        rw [if_neg Bool.false_ne_true]
        exact ih (i + 1) _ S2 (by omega) (by omega) (h.2 rfl)
    · have e : i = xs.length := by omega
      subst e
      rw [List.getElem?_eq_none (Nat.le_refl _)]
      exact done acc S p
/-- a while loop by an invariant and a measure -/
theorem wloop_inv {c : ST} (P : Nat → Sg → Store → Prop)
    (turn : ∀ m g S, P m g S → Sat (c g S) fun k S => (k = true → SatR (b g S) (fun g S => ∃ m', m' < m ∧ P m' g S) Rt N (fun g S => ∃ m', m' < m ∧ P m' g S)) ∧ (k = false → N g S)) :
    ∀ n m g S, m < n → P m g S → SatR (wloop c b n g S) N Rt B C := by
  intro n
  induction n with
  | zero => intro m g S h; omega
  | succ n ih =>
    intro m g S h p
    show SatR (bindR (c g S) fun k S => if k = true then (match b g S with
      | .nx g S => wloop c b n g S
      | .ct g S => wloop c b n g S
      | .bk g S => .nx g S
      | r => r) else .nx g S) N Rt B C
    rw [satR_bindR]
    refine (turn m g S p).mono fun k S1 h1 => ?_
    cases k with
    | true =>
      rw [if_pos rfl]
      have h1 := h1.1 rfl
      cases q : b g S1 with
      | nx g2 S2 => rw [q] at h1; obtain ⟨m', hm, p'⟩ := h1; exact ih m' g2 S2 (by omega) p'
      | ct g2 S2 => rw [q] at h1; obtain ⟨m', hm, p'⟩ := h1; exact ih m' g2 S2 (by omega) p'
      | bk g2 S2 => rw [q] at h1; exact h1
      | rt d S2 => rw [q] at h1; exact h1
      | ex x S2 => rw [q] at h1; exact h1
      | no => rw [q] at h1; exact h1
    | false =>
      rw [if_neg Bool.false_ne_true]
      exact h1.2 rfl
end
end Mz

end

section
set_option Elab.async false
set_option linter.all false
set_option maxRecDepth 100000
namespace Mz
open PySem PySem.Spec L2

/-! ### stores -/
def Keep (n : Nat) (S S' : Store) : Prop := S.length ≤ S'.length ∧ ∀ i : Nat, i < S.length → i ≠ n → S'[i]? = S[i]?
theorem Keep.refl (n : Nat) (S : Store) : Keep n S S := ⟨Nat.le_refl _, fun _ _ _ => rfl⟩
theorem Keep.trans {n : Nat} {S S1 S2 : Store} (a : Keep n S S1) (b : Keep n S1 S2) : Keep n S S2 := ⟨Nat.le_trans a.1 b.1, fun i h1 h2 => (b.2 i (by have := a.1; omega) h2).trans (a.2 i h1 h2)⟩
theorem Keep.set {n : Nat} {S : Store} {c : Cell} : Keep n S (S.set n c) := ⟨by simp, fun i h1 h2 => List.getElem?_set_ne (Ne.symm h2)⟩
theorem Keep.app {n : Nat} {S : Store} {c : List Cell} : Keep n S (S ++ c) := ⟨by simp, fun i h1 h2 => List.getElem?_append_left h1⟩
theorem lt_of {S : Store} {n : Nat} {c : Cell} (h : S[n]? = some c) : n < S.length := (List.getElem?_eq_some_iff.mp h).1
theorem Keep.at {n i : Nat} {S S' : Store} {c : Cell} (k : Keep n S S') (h : S[i]? = some c) (ne : i ≠ n) : S'[i]? = some c := (k.2 i (lt_of h) ne).trans h
theorem app_at {S : Store} {i : Nat} {c : Cell} {r : List Cell} (h : S[i]? = some c) : (S ++ r)[i]? = some c := by rw [List.getElem?_append_left (lt_of h)]; exact h
theorem new_at {S : Store} {c : Cell} : (S ++ [c])[S.length]? = some c := by rw [List.getElem?_append_right (Nat.le_refl _)]; simp
theorem set_at {S : Store} {n : Nat} {c c' : Cell} (h : S[n]? = some c') : (S.set n c)[n]? = some c := List.getElem?_set_self (lt_of h)
theorem lstAt_loc {S : Store} {n : Nat} {xs : List D} (h : S[n]? = some (.lst xs)) : lstAt S (.loc n) = some (n, xs) := by
  show (match S[n]? with | some (.lst xs) => some (n, xs) | _ => none) = _
  rw [h]
theorem listAt_loc {S : Store} {n : Nat} {xs : List D} (h : S[n]? = some (.lst xs)) : listAt S (.loc n) = some xs := by
  show (match S[n]? with | some (.lst xs) => some xs | _ => none) = _
  rw [h]
theorem seqAt_loc {S : Store} {n : Nat} {xs : List D} (h : S[n]? = some (.lst xs)) : seqAt S (.loc n) = some xs := listAt_loc h

/-! ### guards -/
theorem mulOk_l {i j : Int} (h1 : -(2 ^ 64) < i) (h2 : i < 2 ^ 64) : mulOk i j = true := by
  unfold mulOk
  rw [decide_eq_true h1, decide_eq_true h2]
  rfl
theorem mulOk_r {i j : Int} (h1 : -(2 ^ 64) < j) (h2 : j < 2 ^ 64) : mulOk i j = true := by
  unfold mulOk
  rw [decide_eq_true h1, decide_eq_true h2]
  simp
theorem divOk_of {j : Int} (h1 : 0 < j) (h2 : j < 2 ^ 64) : divOk j = true := by
  unfold divOk
  rw [decide_eq_true h1]
  have h3 : j.natAbs < 2 ^ 64 := by omega
  have h4 : j.natAbs.log2 < 64 := (Nat.log2_lt (by omega)).mpr h3
  rw [decide_eq_true (by omega)]
  rfl
theorem powOk_of {i j : Int} (h1 : 0 ≤ j) (h2 : j ≤ 1000000) (h3 : i.natAbs < 2 ^ 64) : powOk i j = true := by
  unfold powOk
  rw [decide_eq_true h1, decide_eq_true h2, decide_eq_true h3]
  rfl

/-! ### data of ints -/
theorem py_ints {S : Store} {n : Nat} : ∀ ns : List Int, (ns.map D.int).mapM (toPy S (n + 1)) = some (ns.map PyData.int)
  | [] => rfl
  | x :: ns => by
    rw [List.map_cons, List.mapM_cons, py_ints ns]
    rfl
theorem lay_ints : ∀ ns : List Int, PyData.canLayAll0 (ns.map PyData.int) = true
  | [] => rfl
  | x :: ns => by
    show (PyData.canLay0 (.int x) && PyData.canLayAll0 (ns.map PyData.int)) = true
    rw [lay_ints ns]; rfl
theorem depth_ints : ∀ ns : List Int, PyData.depthAll (ns.map PyData.int) = 0
  | [] => rfl
  | x :: ns => by
    show max (PyData.depth (.int x)) (PyData.depthAll (ns.map PyData.int)) = 0
    rw [depth_ints ns]; rfl
theorem shaped_ints (ns : List Int) : SeqAt.shaped (.list (ns.map PyData.int)) = true := by
  unfold SeqAt.shaped
  have h1 : PyData.canLay0 (.list (ns.map PyData.int)) = true := lay_ints ns
  have h2 : PyData.depth (.list (ns.map PyData.int)) = 1 := by
    show PyData.depthAll (ns.map PyData.int) + 1 = 1
    rw [depth_ints]
  rw [h1, h2]
  decide
theorem py_loc {S : Store} {n l : Nat} {xs : List D} (h : S[l]? = some (.lst xs)) : toPy S (n + 1) (.loc l) = (xs.mapM (toPy S n)).map PyData.list := by
  show (match S[l]? with | some (.lst xs) => (xs.mapM (toPy S n)).map PyData.list | _ => none) = _
  rw [h]
theorem eqv_nil (ps : List PyData) : PyData.eqv (.list ps) (.list []) = ps.isEmpty := by
  cases ps <;> rfl
/-- xs != [] of a list of ints -/
theorem ne_nil {S : Store} {l : Nat} {ns : List Int} (h : S[l]? = some (.lst (ns.map .int))) : semCop .ne (.loc l) (.loc S.length) (S ++ [.lst []]) = .ok (.bl (!ns.isEmpty)) (S ++ [.lst []]) := by
  have e : eqD (.loc l) (.loc S.length) (S ++ [.lst []]) = some ns.isEmpty := by
    unfold eqD
    simp only
    rw [py_loc (app_at h), py_ints, py_loc new_at]
    show (if (SeqAt.shaped (.list (ns.map PyData.int)) && SeqAt.shaped (.list [])) = true then some (PyData.eqv (.list (ns.map PyData.int)) (.list [])) else none) = _
    rw [shaped_ints, eqv_nil, if_pos (by decide)]
    cases ns <;> rfl
  unfold semCop
  simp only [e]

/-! ### the dice of pages and patches -/
structure Dice (S : Store) (n l : Nat) (ns : List Int) (a : Int) : Prop where
  c : ∃ b c, S[n]? = some (.lst [.loc l, .int a, .int b, .int c])
  hl : S[l]? = some (.lst (ns.map .int))
  ne : n ≠ l
theorem Dice.keep {S S' : Store} {n l : Nat} {ns : List Int} {a a' b c : Int} (h : Dice S n l ns a) (k : Keep n S S') (e : S'[n]? = some (.lst [.loc l, .int a', .int b, .int c])) : Dice S' n l ns a' :=
  ⟨⟨b, c, e⟩, k.at h.hl (Ne.symm h.ne), h.ne⟩
theorem Dice.app {S : Store} {n l : Nat} {ns : List Int} {a : Int} (h : Dice S n l ns a) (r : List Cell) : Dice (S ++ r) n l ns a :=
  let ⟨b, c, e⟩ := h.c
  ⟨⟨b, c, app_at e⟩, app_at h.hl, h.ne⟩
end Mz

end

section
set_option Elab.async false
set_option linter.all false
set_option maxRecDepth 100000
local macro_rules | `(tactic| walk_at "ev") => `(tactic| ((try simp only [Mz.sem, Mz.ofE, Mz.eBin, Mz.eUn, Mz.eVar, Mz.eCst, Mz.eNeg, Mz.eL, Mz.aCons, Mz.aNil, Mz.eTup, Mz.eTru, Mz.tOrS, Mz.tAndS, Mz.tNotS, Mz.O.bind_ok, Mz.startG, Mz.gVar, Mz.gSubD, List.map_cons, List.map_nil, List.length_cons, List.length_nil, List.cons_append, List.nil_append, List.getElem?_cons_zero, List.getElem?_cons_succ, List.set_cons_zero, List.set_cons_succ, List.replicate, Nat.zero_add, Nat.reduceAdd, Nat.reduceSub, Mz.semItem, Mz.seqAt, Mz.listAt, Mz.lstAt, Mz.at0, Mz.at1, Mz.at2, Mz.at3, Mz.semBop, Mz.semCop, Mz.eqD, Mz.ltD, Mz.truD, Mz.semBlt, Mz.setAt, if_true, if_false, *]); try rfl))
namespace Mz
open PySem PySem.Spec L2
def t_roll : T := (.cons (.ifs (.cmp .eq (.sub (.var 0) (.int 2)) (.int 0)) (.cons (.asg (.var 3) (.sub (.var 0) (.int 1))) (.cons (.asg (.sub (.var 0) (.int 1)) (.bin .add (.var 3) (.int 1))) (.cons (.asg (.var 4) (.int 0)) (.cons (.ifs (.cmp .ne (.sub (.var 0) (.int 0)) (.lst .nil)) (.cons (.asg (.var 4) (.sub (.sub (.var 0) (.int 0)) (.bin .mod (.var 3) (.blt .len (.cons (.sub (.var 0) (.int 0)) .nil))))) .nil) .nil) (.cons (.ifs (.or (.cmp .ge (.var 3) (.blt .len (.cons (.sub (.var 0) (.int 0)) .nil))) (.cmp .lt (.var 4) (.bin .pow (.int 10) (.int 18)))) (.cons (.asg (.var 5) (.bin .mod (.bin .mul (.bin .add (.bin .mod (.var 4) (.int 999953)) (.int 37)) (.bin .add (.bin .add (.bin .mul (.var 3) (.var 3)) (.bin .mul (.int 79) (.var 3))) (.int 4001))) (.int 1000003))) (.cons (.asg (.var 5) (.bin .mod (.bin .pow (.var 5) (.int 3)) (.int 998244353))) (.cons (.ret (.bin .mod (.bin .fdiv (.bin .mod (.bin .add (.var 5) (.bin .mul (.int 7109) (.var 3))) (.int 1000033)) (.int 2)) (.var 1))) .nil))) .nil) (.cons (.asg (.sub (.var 0) (.int 2)) (.int 30)) (.cons (.asg (.sub (.var 0) (.int 3)) (.bin .sub (.var 4) (.bin .pow (.int 10) (.int 18)))) .nil))))))) .nil) (.cons (.asg (.sub (.var 0) (.int 2)) (.bin .sub (.sub (.var 0) (.int 2)) (.int 1))) (.cons (.asg (.var 2) (.sub (.var 0) (.int 3))) (.cons (.asg (.sub (.var 0) (.int 3)) (.bin .fdiv (.var 2) (.var 1))) (.cons (.ret (.bin .mod (.var 2) (.var 1))) .nil)))))
/-- what a roll does -/
def RollTo (S : Store) (n l : Nat) (ns : List Int) (a size : Int) : D → Store → Prop := fun d S' => ∃ r a', d = .int r ∧ 0 ≤ r ∧ r < size ∧ a ≤ a' ∧ a' ≤ a + 1 ∧ Dice S' n l ns a' ∧ Keep n S S'
def t_rollEnd : T := (.cons (.asg (.sub (.var 0) (.int 2)) (.bin .sub (.sub (.var 0) (.int 2)) (.int 1))) (.cons (.asg (.var 2) (.sub (.var 0) (.int 3))) (.cons (.asg (.sub (.var 0) (.int 3)) (.bin .fdiv (.var 2) (.var 1))) (.cons (.ret (.bin .mod (.var 2) (.var 1))) .nil))))
/-- its last rows -/
theorem roll_end {E : PEnv} {S : Store} {n l : Nat} {ns : List Int} {a b c size : Int} {v2 v3 v4 v5 : Option D} {N B C : Sg → Store → Prop} (hc : S[n]? = some (.lst [.loc l, .int a, .int b, .int c])) (hs : 0 < size) (hv : divOk size = true) {Q : D → Store → Prop}
    (q : ∀ b c S', Keep n S S' → S'[n]? = some (.lst [.loc l, .int a, .int b, .int c]) → ∀ r, 0 ≤ r → r < size → Q (.int r) S') :
    SatR ((sem E t_rollEnd).b [some (.loc n), some (.int size), v2, v3, v4, v5] S) N Q B C := by
  refine k_cons (k_asgG (d := .int (b - 1)) (S1 := S) (g' := [some (.loc n), some (.int size), v2, v3, v4, v5]) (S' := S.set n (.lst [.loc l, .int a, .int (b - 1), .int c])) (by walk_at "ev") (by walk_at "ev") ?_)
  have k1 : Keep n S (S.set n (.lst [.loc l, .int a, .int (b - 1), .int c])) := Keep.set
  have h1 := set_at (c := .lst [.loc l, .int a, .int (b - 1), .int c]) hc
  generalize List.set S n (.lst [.loc l, .int a, .int (b - 1), .int c]) = S1 at k1 h1 ⊢
  refine k_cons (k_asg (d := .int c) (S' := S1) (by walk_at "ev") ?_)
  refine k_cons (k_asgG (d := .int (c / size)) (S1 := S1) (g' := [some (.loc n), some (.int size), some (.int c), v3, v4, v5]) (S' := S1.set n (.lst [.loc l, .int a, .int (b - 1), .int (c / size)])) (by walk_at "ev") (by walk_at "ev") ?_)
  have k2 : Keep n S1 (S1.set n (.lst [.loc l, .int a, .int (b - 1), .int (c / size)])) := Keep.set
  have h2 := set_at (c := .lst [.loc l, .int a, .int (b - 1), .int (c / size)]) h1
  generalize List.set S1 n (.lst [.loc l, .int a, .int (b - 1), .int (c / size)]) = S2 at k2 h2 ⊢
  refine k_cons (k_ret (d := .int (c % size)) (S' := S2) (by walk_at "ev") ?_)
  exact q _ _ S2 (k1.trans k2) h2 _ (Int.emod_nonneg _ (by omega)) (Int.emod_lt_of_pos _ hs)
theorem sp_roll {E : PEnv} {S : Store} {n l : Nat} {ns : List Int} {a size : Int} (hd : Dice S n l ns a) (h0 : 0 ≤ a) (ha : a < 2 ^ 60) (hs : 0 < size) (hv : divOk size = true) :
    Sat (runBody 6 (sem E t_roll).b [.loc n, .int size] S) (RollTo S n l ns a size) := by
  obtain ⟨b, c, hc⟩ := hd.c
  rw [sat_runBody]
  refine k_cons (k_if (c := decide (b = 0)) (S' := S) (by walk_at "ev") (fun hb => ?_) (fun hb => ?_))
  · refine k_cons (k_asg (d := .int a) (S' := S) (by walk_at "ev") ?_)
    refine k_cons (k_asgG (d := .int (a + 1)) (S1 := S) (g' := [some (.loc n), some (.int size), none, some (.int a), none, none]) (S' := S.set n (.lst [.loc l, .int (a + 1), .int b, .int c])) (by walk_at "ev") (by walk_at "ev") ?_)
    have k1 : Keep n S (S.set n (.lst [.loc l, .int (a + 1), .int b, .int c])) := Keep.set
    have h1 := set_at (c := .lst [.loc l, .int (a + 1), .int b, .int c]) hc
    have l1 := k1.at hd.hl (Ne.symm hd.ne)
    generalize List.set S n (.lst [.loc l, .int (a + 1), .int b, .int c]) = S1 at k1 h1 l1 ⊢
    refine k_cons (k_asg (d := .int 0) (S' := S1) (by walk_at "ev") ?_)
    have n0 := ne_nil l1
    have z0 : (0 : Nat) ≤ sizeLine := Nat.zero_le _
    have e0 : (sem E (.cmp .ne (.sub (.var 0) (.int 0)) (.lst .nil))).t [some (.loc n), some (.int size), none, some (.int a), some (.int 0), none] S1 = .ok (!ns.isEmpty) (S1 ++ [.lst []]) := by
      have i0 : semItem (.loc n) (.int 0) S1 = .ok (.loc l) S1 := item_lst h1 (by decide) rfl
      simp only [sem, ofE, eTru, eBin, eVar, eCst, eLst, aNil, List.getElem?_cons_zero, O.bind_ok, i0, List.length_nil, z0, if_true, alloc, n0, truD]
    have k2 : Keep n S1 (S1 ++ [.lst []]) := Keep.app
    have h2 : (S1 ++ [.lst []])[n]? = _ := app_at h1
    have l2 : (S1 ++ [.lst []])[l]? = _ := app_at l1
    -- the script's number here
    have key : ∀ v : Int, SatR ((sem E (.cons (.ifs (.or (.cmp .ge (.var 3) (.blt .len (.cons (.sub (.var 0) (.int 0)) .nil))) (.cmp .lt (.var 4) (.bin .pow (.int 10) (.int 18)))) (.cons (.asg (.var 5) (.bin .mod (.bin .mul (.bin .add (.bin .mod (.var 4) (.int 999953)) (.int 37)) (.bin .add (.bin .add (.bin .mul (.var 3) (.var 3)) (.bin .mul (.int 79) (.var 3))) (.int 4001))) (.int 1000003))) (.cons (.asg (.var 5) (.bin .mod (.bin .pow (.var 5) (.int 3)) (.int 998244353))) (.cons (.ret (.bin .mod (.bin .fdiv (.bin .mod (.bin .add (.var 5) (.bin .mul (.int 7109) (.var 3))) (.int 1000033)) (.int 2)) (.var 1))) .nil))) .nil) (.cons (.asg (.sub (.var 0) (.int 2)) (.int 30)) (.cons (.asg (.sub (.var 0) (.int 3)) (.bin .sub (.var 4) (.bin .pow (.int 10) (.int 18)))) .nil)))).b [some (.loc n), some (.int size), none, some (.int a), some (.int v), none] (S1 ++ [.lst []]))
        (fun g S' => SatR ((sem E t_rollEnd).b g S') (fun _ S' => RollTo S n l ns a size .non S') (RollTo S n l ns a size) (fun _ _ => False) (fun _ _ => False)) (RollTo S n l ns a size) (fun _ _ => False) (fun _ _ => False) := by
      intro v
      generalize S1 ++ [.lst []] = S2 at k2 h2 l2 ⊢
      have ln : (ns.map D.int).length = ns.length := List.length_map ..
      have p0 : powOk 10 18 = true := by decide
      have e1 : ∃ c, (sem E (.or (.cmp .ge (.var 3) (.blt .len (.cons (.sub (.var 0) (.int 0)) .nil))) (.cmp .lt (.var 4) (.bin .pow (.int 10) (.int 18))))).t [some (.loc n), some (.int size), none, some (.int a), some (.int v), none] S2 = .ok c S2 := by
        have i0 : semItem (.loc n) (.int 0) S2 = .ok (.loc l) S2 := item_lst h2 (by decide) rfl
        have s0 : seqAt S2 (.loc l) = some (ns.map .int) := seqAt_loc l2
        simp only [sem, ofE, eTru, eBin, eVar, eCst, eL, aCons, aNil, tOrS, List.getElem?_cons_zero, List.getElem?_cons_succ, O.bind_ok, i0, semBlt, s0, semCop, ltD, truD, semBop, p0, if_true]
        split
        · exact ⟨_, rfl⟩
        · exact ⟨_, rfl⟩
      obtain ⟨cc, e1⟩ := e1
      refine k_cons (k_if e1 (fun hb => ?_) (fun hb => ?_))
      · have r1 : 0 ≤ v % 999953 := Int.emod_nonneg _ (by decide)
        have r2 : v % 999953 < 999953 := Int.emod_lt_of_pos _ (by decide)
        have m1 : mulOk a a = true := mulOk_l (by omega) (by omega)
        have m2 : mulOk 79 a = true := mulOk_l (by decide) (by decide)
        have m3 : mulOk (v % 999953 + 37) (a * a + 79 * a + 4001) = true := mulOk_l (by omega) (by omega)
        have m4 : mulOk 7109 a = true := mulOk_l (by decide) (by decide)
        have q1 : (0 : Int) < 999953 := by decide
        have q2 : (0 : Int) < 1000003 := by decide
        have q3 : (0 : Int) < 998244353 := by decide
        have q4 : (0 : Int) < 1000033 := by decide
        have q5 : divOk 2 = true := by decide
        refine k_cons (k_asg (d := .int ((v % 999953 + 37) * (a * a + 79 * a + 4001) % 1000003)) (S' := S2) (by walk_at "ev") ?_)
        generalize hx : (v % 999953 + 37) * (a * a + 79 * a + 4001) % 1000003 = x
        have x1 : 0 ≤ x := by rw [← hx]; exact Int.emod_nonneg _ (by decide)
        have x2 : x < 1000003 := by rw [← hx]; exact Int.emod_lt_of_pos _ (by decide)
        have p1 : powOk x 3 = true := powOk_of (by decide) (by decide) (by omega)
        refine k_cons (k_asg (d := .int (x ^ 3 % 998244353)) (S' := S2) (by walk_at "ev") ?_)
        refine k_cons (k_ret (d := .int ((x ^ 3 % 998244353 + 7109 * a) % 1000033 / 2 % size)) (S' := S2) (by walk_at "ev") ?_)
        exact ⟨_, a + 1, rfl, Int.emod_nonneg _ (by omega), Int.emod_lt_of_pos _ hs, by omega, by omega, hd.keep (k1.trans k2) h2, k1.trans k2⟩
      · refine k_nil ?_
        refine k_cons (k_asgG (d := .int 30) (S1 := S2) (g' := [some (.loc n), some (.int size), none, some (.int a), some (.int v), none]) (S' := S2.set n (.lst [.loc l, .int (a + 1), .int 30, .int c])) (by walk_at "ev") (by walk_at "ev") ?_)
        have k3 : Keep n S2 (S2.set n (.lst [.loc l, .int (a + 1), .int 30, .int c])) := Keep.set
        have h3 := set_at (c := .lst [.loc l, .int (a + 1), .int 30, .int c]) h2
        generalize List.set S2 n (.lst [.loc l, .int (a + 1), .int 30, .int c]) = S3 at k3 h3 ⊢
        refine k_cons (k_asgG (d := .int (v - 10 ^ 18)) (S1 := S3) (g' := [some (.loc n), some (.int size), none, some (.int a), some (.int v), none]) (S' := S3.set n (.lst [.loc l, .int (a + 1), .int 30, .int (v - 10 ^ 18)])) (by walk_at "ev") (by walk_at "ev") ?_)
        have k4 : Keep n S3 (S3.set n (.lst [.loc l, .int (a + 1), .int 30, .int (v - 10 ^ 18)])) := Keep.set
        have h4 := set_at (c := .lst [.loc l, .int (a + 1), .int 30, .int (v - 10 ^ 18)]) h3
        generalize List.set S3 n (.lst [.loc l, .int (a + 1), .int 30, .int (v - 10 ^ 18)]) = S4 at k4 h4 ⊢
        refine k_nil (roll_end (ns := ns) h4 hs hv fun b' c' S' kk hh r r1 r2 => ?_)
        have kt := ((k1.trans k2).trans k3).trans (k4.trans kk)
        exact ⟨r, a + 1, rfl, r1, r2, by omega, by omega, hd.keep kt hh, kt⟩
    refine k_cons (k_if e0 (fun hb => ?_) (fun hb => ?_))
    · -- the script isn't empty
      have hne : ns ≠ [] := by intro z; subst z; cases hb
      have hpos : 0 < (ns.length : Int) := by
        have : ns.length ≠ 0 := fun z => hne (List.eq_nil_of_length_eq_zero z)
        omega
      have r1 : 0 ≤ a % (ns.length : Int) := Int.emod_nonneg _ (by omega)
      have r2 : a % (ns.length : Int) < (ns.length : Int) := Int.emod_lt_of_pos _ hpos
      have hv' : ∃ v, (ns.map D.int)[(a % (ns.length : Int)).toNat]? = some (.int v) := by
        rw [List.getElem?_map]
        have : (a % (ns.length : Int)).toNat < ns.length := by omega
        rw [List.getElem?_eq_getElem this]
        exact ⟨_, rfl⟩
      obtain ⟨v, hv'⟩ := hv'
      have e2 : (sem E (.sub (.sub (.var 0) (.int 0)) (.bin .mod (.var 3) (.blt .len (.cons (.sub (.var 0) (.int 0)) .nil))))).e [some (.loc n), some (.int size), none, some (.int a), some (.int 0), none] (S1 ++ [.lst []]) = .ok (.int v) (S1 ++ [.lst []]) := by
        have i0 : semItem (.loc n) (.int 0) (S1 ++ [.lst []]) = .ok (.loc l) (S1 ++ [.lst []]) := item_lst h2 (by decide) rfl
        have s0 : seqAt (S1 ++ [.lst []]) (.loc l) = some (ns.map .int) := seqAt_loc l2
        have ln : (ns.map D.int).length = ns.length := List.length_map ..
        have i1 : semItem (.loc l) (.int (a % (ns.length : Int))) (S1 ++ [.lst []]) = .ok (.int v) (S1 ++ [.lst []]) := item_lst l2 r1 hv'
        simp only [sem, ofE, eBin, eVar, eCst, eL, aCons, aNil, List.getElem?_cons_zero, List.getElem?_cons_succ, O.bind_ok, i0, semBlt, s0, semBop, ln, hpos, if_true, i1]
      refine k_cons (k_asg e2 ?_)
      refine k_nil ?_
      exact key v
    · refine k_nil ?_
      exact key 0
  · refine k_nil ?_
    refine roll_end (ns := ns) hc hs hv fun b' c' S' kk hh r r1 r2 => ?_
    exact ⟨r, a, rfl, r1, r2, by omega, by omega, hd.keep kk hh, kk⟩
end Mz

end

section
set_option Elab.async false
set_option linter.all false
set_option maxRecDepth 100000
namespace Mz
open PySem PySem.Spec L2
/-! ### expressions by what they are to give -/
section
variable {E : PEnv} {a b c t o as : T} {g : Sg} {S : Store} {Q : D → Store → Prop} {QT : Bool → Store → Prop} {QA : List D → Store → Prop}
theorem x_var {i : Nat} {d : D} (h : g[i]? = some (some d)) (q : Q d S) : Sat ((sem E (.var i)).e g S) Q := by
  show Sat (eVar i g S) Q
  unfold eVar
  rw [h]
  exact q
theorem x_int {i : Int} (q : Q (.int i) S) : Sat ((sem E (.int i)).e g S) Q := q
theorem x_str {i : Str} (q : Q (.str i) S) : Sat ((sem E (.str i)).e g S) Q := q
theorem x_bl {i : Bool} (q : Q (.bl i) S) : Sat ((sem E (.bl i)).e g S) Q := q
theorem x_non (q : Q .non S) : Sat ((sem E .non).e g S) Q := q
theorem x_glb {x : Str} {d : D} (h : E.G x = some d) (q : Q d S) : Sat ((sem E (.glb x)).e g S) Q := by
  show Sat (match E.G x with | some d => O.ok d S | none => .no) Q
  rw [h]
  exact q
theorem x_bin {p : Bop} (h : Sat ((sem E a).e g S) fun x S => Sat ((sem E b).e g S) fun y S => Sat (semBop p x y S) Q) : Sat ((sem E (.bin p a b)).e g S) Q :=
  sat_bind.mpr (h.mono fun _ _ h => sat_bind.mpr h)
theorem x_cmp {p : Cop} (h : Sat ((sem E a).e g S) fun x S => Sat ((sem E b).e g S) fun y S => Sat (semCop p x y S) Q) : Sat ((sem E (.cmp p a b)).e g S) Q :=
  sat_bind.mpr (h.mono fun _ _ h => sat_bind.mpr h)
theorem x_sub (h : Sat ((sem E a).e g S) fun x S => Sat ((sem E b).e g S) fun y S => Sat (semItem x y S) Q) : Sat ((sem E (.sub a b)).e g S) Q :=
  sat_bind.mpr (h.mono fun _ _ h => sat_bind.mpr h)
theorem x_call {f : Str} (h : Sat ((sem E as).a g S) fun ds S => Sat (E.F f ds S) Q) : Sat ((sem E (.call f as)).e g S) Q := sat_bind.mpr h
theorem x_blt {p : Blt} (h : Sat ((sem E as).a g S) fun ds S => Sat (semBlt p ds S) Q) : Sat ((sem E (.blt p as)).e g S) Q := sat_bind.mpr h
theorem x_nil (q : QA [] S) : Sat ((sem E .nil).a g S) QA := q
theorem x_cons (h : Sat ((sem E a).e g S) fun x S => Sat ((sem E as).a g S) fun xs S => QA (x :: xs) S) : Sat ((sem E (.cons a as)).a g S) QA :=
  sat_bind.mpr (h.mono fun _ _ h => sat_bind.mpr h)
theorem x_tup (h : Sat ((sem E as).a g S) fun xs S => xs.length ≤ sizeLine ∧ Q (.tup xs) S) : Sat ((sem E (.tup as)).e g S) Q :=
  sat_bind.mpr (h.mono fun _ _ h => sat_guard.mpr h)
theorem x_lst (h : Sat ((sem E as).a g S) fun xs S => xs.length ≤ sizeLine ∧ Q (.loc S.length) (S ++ [.lst xs])) : Sat ((sem E (.lst as)).e g S) Q :=
  sat_bind.mpr (h.mono fun _ _ h => sat_guard.mpr h)
theorem x_mth {p : Mth} (h : Sat ((sem E o).e g S) fun d S => tyOk p d S = true ∧ Sat ((sem E as).a g S) fun ds S => Sat (semMth p d ds S) Q) : Sat ((sem E (.mth p o as)).e g S) Q :=
  sat_bind.mpr (h.mono fun _ _ h => sat_guard.mpr ⟨h.1, sat_bind.mpr h.2⟩)
theorem x_if (h : Sat ((sem E t).t g S) fun c S => (c = true → Sat ((sem E a).e g S) Q) ∧ (c = false → Sat ((sem E b).e g S) Q)) : Sat ((sem E (.ife t a b)).e g S) Q := by
  refine sat_bind.mpr (h.mono fun c S h => ?_)
  cases c with
  | true => exact h.1 rfl
  | false => exact h.2 rfl
theorem x_neg (h : Sat ((sem E a).e g S) fun d S => ∃ i, d = .int i ∧ Q (.int (-i)) S) : Sat ((sem E (.neg a)).e g S) Q := by
  refine sat_bind.mpr (h.mono fun d S h => ?_)
  obtain ⟨i, rfl, q⟩ := h
  exact q
theorem x_lc {own : List Nat} {tg it ts el : T} (h : Sat ((sem E it).i g S) fun ik S => Sat (lcLoop ik (sem E tg).g (sem E ts).t (sem E el).e (wipeG g own) (ibound ik S) 0 [] S) fun acc S => Q (.loc S.length) (S ++ [.lst acc])) : Sat ((sem E (.lc own tg it ts el)).e g S) Q :=
  sat_bind.mpr (h.mono fun _ _ h => sat_bind.mpr h)
/-- tests -/
theorem y_of {f : SE} (h : Sat (f g S) fun d S => ∃ b, truD S d = some b ∧ QT b S) : Sat (eTru f g S) QT := by
  refine sat_bind.mpr (h.mono fun d S h => ?_)
  obtain ⟨b, e, q⟩ := h
  simp only [e]
  exact q
theorem y_cmp {p : Cop} (h : Sat ((sem E a).e g S) fun x S => Sat ((sem E b).e g S) fun y S => Sat (semCop p x y S) fun d S => ∃ b, d = .bl b ∧ QT b S) : Sat ((sem E (.cmp p a b)).t g S) QT := by
  refine y_of (x_cmp (E := E) (h.mono fun x S h => h.mono fun y S h => h.mono fun d S h => ?_))
  obtain ⟨b, rfl, q⟩ := h
  exact ⟨b, rfl, q⟩
theorem y_var {i : Nat} {b : Bool} (h : g[i]? = some (some (.bl b))) (q : QT b S) : Sat ((sem E (.var i)).t g S) QT := y_of (x_var (E := E) h ⟨b, rfl, q⟩)
theorem y_and (h : Sat ((sem E a).t g S) fun c S => (c = true → Sat ((sem E b).t g S) QT) ∧ (c = false → QT false S)) : Sat ((sem E (.and a b)).t g S) QT := by
  refine sat_bind.mpr (h.mono fun c S h => ?_)
  cases c with
  | true => exact h.1 rfl
  | false => exact h.2 rfl
theorem y_or (h : Sat ((sem E a).t g S) fun c S => (c = true → QT true S) ∧ (c = false → Sat ((sem E b).t g S) QT)) : Sat ((sem E (.or a b)).t g S) QT := by
  refine sat_bind.mpr (h.mono fun c S h => ?_)
  cases c with
  | true => exact h.1 rfl
  | false => exact h.2 rfl
theorem y_not (h : Sat ((sem E a).t g S) fun c S => QT (!c) S) : Sat ((sem E (.nt a)).t g S) QT := sat_bind.mpr h
theorem y_call {f : Str} (h : Sat ((sem E as).a g S) fun ds S => Sat (E.F f ds S) fun d S => ∃ b, truD S d = some b ∧ QT b S) : Sat ((sem E (.call f as)).t g S) QT := y_of (x_call (E := E) h)
/-- what a loop walks -/
theorem i_rng1 {QI : IK → Store → Prop} (h : Sat ((sem E a).e g S) fun d S => ∃ j, d = .int j ∧ rngOk j = true ∧ QI (.vals (intsFrom 0 j.toNat)) S) : Sat ((sem E (.irng (.cons a .nil))).i g S) QI := by
  refine sat_bind.mpr (x_cons (E := E) (h.mono fun d S h => ?_))
  obtain ⟨j, rfl, r, q⟩ := h
  refine x_nil (E := E) ?_
  show Sat (if rngOk j = true then O.ok (IK.vals (intsFrom 0 j.toNat)) S else .no) QI
  rw [if_pos r]
  exact q
theorem i_tup {QI : IK → Store → Prop} {xs : List D} {f : SE} (h : Sat (f g S) fun d S => d = .tup xs ∧ QI (.vals xs) S) : Sat (iVal f g S) QI := by
  refine sat_bind.mpr (h.mono fun d S h => ?_)
  obtain ⟨rfl, q⟩ := h
  exact q
theorem rngOk_of {j : Int} (h1 : -(2 ^ 62) ≤ j) (h2 : j < 2 ^ 62) : rngOk j = true := by
  unfold rngOk
  rw [decide_eq_true h1, decide_eq_true h2]
  rfl
end
/-! ### operations -/
section
variable {S : Store} {Q : D → Store → Prop}
theorem p_add {i j : Int} (q : Q (.int (i + j)) S) : Sat (semBop .add (.int i) (.int j) S) Q := q
theorem p_sub {i j : Int} (q : Q (.int (i - j)) S) : Sat (semBop .sub (.int i) (.int j) S) Q := q
theorem p_adds {x y : Str} (h : x.length + y.length ≤ sizeLine) (q : Q (.str (x ++ y)) S) : Sat (semBop .add (.str x) (.str y) S) Q := sat_guard.mpr ⟨h, q⟩
theorem p_mul {i j : Int} (h : mulOk i j = true) (q : Q (.int (i * j)) S) : Sat (semBop .mul (.int i) (.int j) S) Q := sat_guard.mpr ⟨h, q⟩
theorem p_fdiv {i j : Int} (h : divOk j = true) (q : Q (.int (i / j)) S) : Sat (semBop .fdiv (.int i) (.int j) S) Q := sat_guard.mpr ⟨h, q⟩
theorem p_mod {i j : Int} (h : 0 < j) (q : Q (.int (i % j)) S) : Sat (semBop .mod (.int i) (.int j) S) Q := sat_guard.mpr ⟨h, q⟩
theorem p_pow {i j : Int} (h : powOk i j = true) (q : Q (.int (i ^ j.toNat)) S) : Sat (semBop .pow (.int i) (.int j) S) Q := sat_guard.mpr ⟨h, q⟩
theorem p_eqI {i j : Int} (q : Q (.bl (decide (i = j))) S) : Sat (semCop .eq (.int i) (.int j) S) Q := q
theorem p_neI {i j : Int} (q : Q (.bl (!decide (i = j))) S) : Sat (semCop .ne (.int i) (.int j) S) Q := q
theorem p_eqS {i j : Str} (q : Q (.bl (decide (i = j))) S) : Sat (semCop .eq (.str i) (.str j) S) Q := q
theorem p_neS {i j : Str} (q : Q (.bl (!decide (i = j))) S) : Sat (semCop .ne (.str i) (.str j) S) Q := q
theorem p_lt {i j : Int} (q : Q (.bl (decide (i < j))) S) : Sat (semCop .lt (.int i) (.int j) S) Q := q
theorem p_le {i j : Int} (q : Q (.bl (!decide (j < i))) S) : Sat (semCop .le (.int i) (.int j) S) Q := q
theorem p_gt {i j : Int} (q : Q (.bl (decide (j < i))) S) : Sat (semCop .gt (.int i) (.int j) S) Q := q
theorem p_ge {i j : Int} (q : Q (.bl (!decide (i < j))) S) : Sat (semCop .ge (.int i) (.int j) S) Q := q
theorem p_itT {xs : List D} {i : Int} {x : D} (h0 : 0 ≤ i) (h : xs[i.toNat]? = some x) (q : Q x S) : Sat (semItem (.tup xs) (.int i) S) Q := by rw [item_tup h0 h]; exact q
theorem p_itL {l : Nat} {xs : List D} {i : Int} {x : D} (hS : S[l]? = some (.lst xs)) (h0 : 0 ≤ i) (h : xs[i.toNat]? = some x) (q : Q x S) : Sat (semItem (.loc l) (.int i) S) Q := by rw [item_lst hS h0 h]; exact q
theorem p_itS {z : Str} {i : Int} {c : Nat} (hz : z.length ≤ sizeLine) (h0 : 0 ≤ i) (h : z.cps.toList[i.toNat]? = some c) (q : Q (.str ⟨#[c]⟩) S) : Sat (semItem (.str z) (.int i) S) Q := by rw [item_str hz h0 h]; exact q
theorem p_lenL {l : Nat} {xs : List D} (hS : S[l]? = some (.lst xs)) (q : Q (.int xs.length) S) : Sat (semBlt .len [.loc l] S) Q := by
  unfold semBlt
  simp only [seqAt_loc hS]
  exact q
theorem p_lenT {xs : List D} (q : Q (.int xs.length) S) : Sat (semBlt .len [.tup xs] S) Q := q
theorem p_lenS {x : Str} (h : x.length ≤ sizeLine) (q : Q (.int x.length) S) : Sat (semBlt .len [.str x] S) Q := sat_guard.mpr ⟨h, q⟩
theorem p_str {i : Int} (h : i.natAbs.log2 < 1920) (q : Q (.str (toString i)) S) : Sat (semBlt .str1 [.int i] S) Q := sat_guard.mpr ⟨h, q⟩
theorem p_tuple {l : Nat} {xs : List D} (hS : S[l]? = some (.lst xs)) (q : Q (.tup xs) S) : Sat (semBlt .tuple1 [.loc l] S) Q := by
  unfold semBlt
  simp only [listAt_loc hS]
  exact q
theorem p_list {l : Nat} {xs : List D} (hS : S[l]? = some (.lst xs)) (q : Q (.loc S.length) (S ++ [.lst xs])) : Sat (semBlt .list1 [.loc l] S) Q := by
  unfold semBlt
  simp only [seqAt_loc hS]
  exact q
theorem p_join {a : Str} {l : Nat} {xs : List Str} (hS : S[l]? = some (.lst (xs.map .str))) (h : (xs.map (·.length)).sum + xs.length * a.length ≤ 16777216) (q : Q (.str (Txt.join a xs)) S) : Sat (semMth .join (.str a) [.loc l] S) Q := by
  have e : (xs.map D.str).mapM asStr = some xs := by
    clear hS h q
    induction xs with
    | nil => rfl
    | cons x xs ih => rw [List.map_cons, List.mapM_cons, ih]; rfl
  unfold semMth
  simp only [seqAt_loc hS, e]
  exact sat_guard.mpr ⟨h, q⟩
end
theorem lz {n : Nat} {α : Type} {xs : List α} (h : xs.length = n) (hn : n ≤ 1000) : xs.length ≤ sizeLine := by rw [sizeLine_eq]; omega
end Mz

end

section
set_option Elab.async false
set_option linter.all false
set_option maxRecDepth 100000
namespace Mz
open PySem PySem.Spec L2
/-! ### texts -/
theorem str_ext {x y : Str} (h : TL.tl x = TL.tl y) : x = y := by
  cases x with | mk a => cases y with | mk b =>
  have : a.toList = b.toList := h
  rw [Array.toList_inj] at this
  rw [this]
theorem str_assoc (x y z : Str) : x ++ y ++ z = x ++ (y ++ z) := str_ext (by simp only [TL.tl_append, List.append_assoc])
theorem str_empty (x : Str) : Str.empty ++ x = x := str_ext (by rw [TL.tl_append]; rfl)
theorem str_len (x y : Str) : (x ++ y).length = x.length + y.length := by
  rw [TL.len_tl, TL.tl_append, List.length_append, ← TL.len_tl, ← TL.len_tl]
theorem sz {m : Nat} (h : m ≤ 16000000) : m ≤ sizeLine := by rw [sizeLine_eq]; omega
section
variable {E : PEnv} {a b c t o as r : T} {g : Sg} {S : Store} {Q : D → Store → Prop} {QT : Bool → Store → Prop} {N B C : Sg → Store → Prop} {Rt : D → Store → Prop}
theorem x_fst (h : Sat ((sem E as).j Str.empty g S) Q) : Sat ((sem E (.fst as)).e g S) Q := h
theorem j_nil {acc : Str} (q : Q (.str acc) S) : Sat ((sem E .nil).j acc g S) Q := q
theorem j_cons {acc : Str} (h : Sat ((sem E a).e g S) fun d S => ∃ y : Str, d = .str y ∧ (acc ++ y).length ≤ sizeLine ∧ Sat ((sem E r).j (acc ++ y) g S) Q) : Sat ((sem E (.cons a r)).j acc g S) Q := by
  refine sat_bind.mpr (h.mono fun d S h => ?_)
  obtain ⟨y, rfl, l, q⟩ := h
  exact sat_ite.mpr ⟨fun _ => q, fun n => absurd l n⟩
theorem x_fmt (h : Sat ((sem E a).e g S) fun d S => Sat (fmtD d S) Q) : Sat ((sem E (.fmt a)).e g S) Q := sat_bind.mpr h
theorem p_fmtS {y : Str} (h : y.length ≤ sizeLine) (q : Q (.str y) S) : Sat (fmtD (.str y) S) Q := sat_guard.mpr ⟨h, q⟩
theorem p_fmtI {i : Int} (h : i.natAbs.log2 < 1920) (q : Q (.str (toString i)) S) : Sat (fmtD (.int i) S) Q := sat_guard.mpr ⟨h, q⟩
theorem x_cut0 {j : Int} (h : Sat ((sem E a).e g S) fun d S => Sat (semSlice d none (some j) S) Q) : Sat ((sem E (.sli a .nil (.int j))).e g S) Q :=
  sat_bind.mpr (h.mono fun _ _ h => h)
theorem p_cutT {xs ys : List D} {lo hi : Option Int} (e : cutD xs lo hi = ys) (q : Q (.tup ys) S) : Sat (semSlice (.tup xs) lo hi S) Q := by
  subst e; exact q
theorem k_asgT2 {i j : Nat} (h : Sat ((sem E a).e g S) fun d S => ∃ x y, d = .tup [x, y] ∧ N ((g.set i (some x)).set j (some y)) S) : SatR ((sem E (.asg (.tup (.cons (.var i) (.cons (.var j) .nil))) a)).s g S) N Rt B C := by
  refine k_asgGS (h.mono fun d S h => ?_)
  obtain ⟨x, y, rfl, q⟩ := h
  exact q
theorem k_asgT3 {i j k : Nat} (h : Sat ((sem E a).e g S) fun d S => ∃ x y z, d = .tup [x, y, z] ∧ N (((g.set i (some x)).set j (some y)).set k (some z)) S) : SatR ((sem E (.asg (.tup (.cons (.var i) (.cons (.var j) (.cons (.var k) .nil)))) a)).s g S) N Rt B C := by
  refine k_asgGS (h.mono fun d S h => ?_)
  obtain ⟨x, y, z, rfl, q⟩ := h
  exact q
theorem k_alc {i : Nat} {own : List Nat} {tg it ts el : T} (h : Sat ((sem E (.lc own tg it ts el)).e g S) fun d S' => N (g.set i (some d)) S') : SatR ((sem E (.alc i own tg it ts el)).s g S) N Rt B C := q_asgS h
theorem x_and (h : Sat ((sem E a).e g S) fun x S => ∃ c, truD S x = some c ∧ (c = true → Sat ((sem E b).e g S) Q) ∧ (c = false → Q x S)) : Sat ((sem E (.and a b)).e g S) Q := by
  refine sat_bind.mpr (h.mono fun x S h => ?_)
  obtain ⟨c, e, h1, h2⟩ := h
  simp only [e]
  cases c with
  | true => exact h1 rfl
  | false => exact h2 rfl
theorem x_or (h : Sat ((sem E a).e g S) fun x S => ∃ c, truD S x = some c ∧ (c = false → Sat ((sem E b).e g S) Q) ∧ (c = true → Q x S)) : Sat ((sem E (.or a b)).e g S) Q := by
  refine sat_bind.mpr (h.mono fun x S h => ?_)
  obtain ⟨c, e, h1, h2⟩ := h
  simp only [e]
  cases c with
  | true => exact h2 rfl
  | false => exact h1 rfl
theorem x_not (h : Sat ((sem E a).e g S) fun x S => ∃ c, truD S x = some c ∧ Q (.bl (!c)) S) : Sat ((sem E (.nt a)).e g S) Q := by
  refine sat_bind.mpr (h.mono fun x S h => ?_)
  obtain ⟨c, e, q⟩ := h
  simp only [e]
  exact q
theorem p_intB {b : Bool} (q : Q (.int (if b then 1 else 0)) S) : Sat (semBlt .int1 [.bl b] S) Q := q
theorem p_inT {x : Str} {ys : List D} (hy : ys.all flatD = true) (q : Q (.bl (ys.any fun y => eqF y (.str x))) S) : Sat (semCop .in_ (.str x) (.tup ys) S) Q := by
  have e : inD (.str x) (.tup ys) S = some (ys.any fun y => eqF y (.str x)) := by
    unfold inD
    show (if (flatD (.str x) && ys.all flatD) = true then _ else _) = _
    rw [hy]; rfl
  unfold semCop
  simp only [e]
  exact q
theorem i_vT {QI : IK → Store → Prop} {i : Nat} {xs : List D} (h : g[i]? = some (some (.tup xs))) (q : QI (.vals xs) S) : Sat ((sem E (.var i)).i g S) QI := i_tup (x_var (E := E) h ⟨rfl, q⟩)
theorem i_sT {QI : IK → Store → Prop} (h : Sat ((sem E (.sub a b)).e g S) fun d S => ∃ xs, d = .tup xs ∧ QI (.vals xs) S) : Sat ((sem E (.sub a b)).i g S) QI := by
  refine sat_bind.mpr (h.mono fun d S h => ?_)
  obtain ⟨xs, rfl, q⟩ := h
  exact q
theorem i_val {QI : IK → Store → Prop} {xs : List D} {f : SE} (h : Sat (f g S) fun d S => d = .tup xs ∧ QI (.vals xs) S) : Sat (iVal f g S) QI := i_tup h
end
/-! ### a store that only grows -/
def Grow (S S' : Store) : Prop := ∃ r, S' = S ++ r
theorem Grow.refl (S : Store) : Grow S S := ⟨[], by simp⟩
theorem Grow.trans {S S' S'' : Store} (a : Grow S S') (b : Grow S' S'') : Grow S S'' := by
  obtain ⟨r, rfl⟩ := a
  obtain ⟨q, rfl⟩ := b
  exact ⟨r ++ q, by rw [List.append_assoc]⟩
theorem Grow.one {S : Store} {c : List Cell} : Grow S (S ++ c) := ⟨c, rfl⟩
theorem Grow.keep {S S' : Store} {n : Nat} (a : Grow S S') : Keep n S S' := by
  obtain ⟨r, rfl⟩ := a
  exact Keep.app
theorem Grow.at {S S' : Store} {i : Nat} {c : Cell} (a : Grow S S') (h : S[i]? = some c) : S'[i]? = some c := by
  obtain ⟨r, rfl⟩ := a
  exact app_at h
/-- the length of a written int -/
theorem toString_len {i : Int} {n : Nat} (h : i.natAbs < 10 ^ n) (hn : 0 < n) : (Str.ofString (toString i)).length ≤ n + 1 := by
  have nat : ∀ m : Nat, m < 10 ^ n → (toString m).length ≤ n := by
    intro m hm
    rw [show toString m = Nat.repr m from rfl, Nat.repr, String.length_ofList]
    exact Nat.length_toDigits_le_iff (by decide) hn |>.mpr hm
  rw [show (Str.ofString (toString i)).length = (toString i).length by
    rw [TL.len_tl, TL.tl_ofString, List.length_map, String.length_toList]]
  cases i with
  | ofNat m =>
    rw [show toString (Int.ofNat m) = toString m from rfl]
    have := nat m h
    omega
  | negSucc m =>
    rw [show toString (Int.negSucc m) = "-" ++ toString (m + 1) from rfl, String.length_append]
    have := nat (m + 1) h
    rw [show "-".length = 1 from rfl]
    omega
end Mz

end

section
set_option Elab.async false
set_option linter.all false
set_option maxRecDepth 100000
namespace Mz
open PySem PySem.Spec L2
section
variable {E : PEnv} {a b c t o as r lo hi : T} {g : Sg} {S : Store} {Q : D → Store → Prop} {QT : Bool → Store → Prop} {QO : Option Int → Store → Prop} {QI : IK → Store → Prop} {N B C : Sg → Store → Prop} {Rt : D → Store → Prop}
theorem x_chain {p q : Cop} (h : Sat ((sem E a).e g S) fun x S => Sat ((sem E b).e g S) fun y S => Sat (semCop p x y S) fun z S => ∃ k, z = .bl k ∧ (k = true → Sat ((sem E c).e g S) fun w S => Sat (semCop q y w S) Q) ∧ (k = false → Q (.bl false) S)) : Sat ((sem E (.chain p q a b c)).e g S) Q := by
  refine sat_bind.mpr (h.mono fun x S h => sat_bind.mpr (h.mono fun y S h => sat_bind.mpr (h.mono fun z S h => ?_)))
  obtain ⟨k, rfl, h1, h2⟩ := h
  cases k with
  | true => exact sat_bind.mpr (h1 rfl)
  | false => exact h2 rfl
theorem y_chain {p q : Cop} (h : Sat ((sem E a).e g S) fun x S => Sat ((sem E b).e g S) fun y S => Sat (semCop p x y S) fun z S => ∃ k, z = .bl k ∧ (k = true → Sat ((sem E c).e g S) fun w S => Sat (semCop q y w S) fun d S => ∃ m, d = .bl m ∧ QT m S) ∧ (k = false → QT false S)) : Sat ((sem E (.chain p q a b c)).t g S) QT := by
  refine y_of (x_chain (E := E) (h.mono fun x S h => h.mono fun y S h => h.mono fun z S h => ?_))
  obtain ⟨k, rfl, h1, h2⟩ := h
  exact ⟨k, rfl, fun e => (h1 e).mono fun w S h => h.mono fun d S h => by obtain ⟨m, rfl, q⟩ := h; exact ⟨m, rfl, q⟩, fun e => ⟨false, rfl, h2 e⟩⟩
theorem y_blt {p : Blt} (h : Sat ((sem E as).a g S) fun ds S => Sat (semBlt p ds S) fun d S => ∃ k, d = .bl k ∧ QT k S) : Sat ((sem E (.blt p as)).t g S) QT :=
  y_of (x_blt (E := E) (h.mono fun ds S h => h.mono fun d S h => by obtain ⟨m, rfl, q⟩ := h; exact ⟨m, rfl, q⟩))
theorem y_callB {f : Str} (h : Sat ((sem E as).a g S) fun ds S => Sat (E.F f ds S) fun d S => ∃ k, d = .bl k ∧ QT k S) : Sat ((sem E (.call f as)).t g S) QT :=
  y_of (x_call (E := E) (h.mono fun ds S h => h.mono fun d S h => by obtain ⟨m, rfl, q⟩ := h; exact ⟨m, rfl, q⟩))
theorem o_some {f : SE} (h : Sat (f g S) fun d S => ∃ i, d = .int i ∧ QO (some i) S) : Sat (oSome f g S) QO := by
  refine sat_bind.mpr (h.mono fun d S h => ?_)
  obtain ⟨i, rfl, q⟩ := h
  exact q
/-- a[lo:hi] -/
theorem x_sli (h1 : (sem E lo).o = oSome (sem E lo).e) (h2 : (sem E hi).o = oSome (sem E hi).e) (h : Sat ((sem E a).e g S) fun d S => Sat ((sem E lo).e g S) fun x S => ∃ i, x = .int i ∧ Sat ((sem E hi).e g S) fun y S => ∃ j, y = .int j ∧ Sat (semSlice d (some i) (some j) S) Q) : Sat ((sem E (.sli a lo hi)).e g S) Q := by
  refine sat_bind.mpr (h.mono fun d S h => ?_)
  rw [h1, h2]
  refine sat_bind.mpr (o_some (h.mono fun x S h => ?_))
  obtain ⟨i, rfl, h⟩ := h
  refine ⟨i, rfl, sat_bind.mpr (o_some (h.mono fun y S h => ?_))⟩
  obtain ⟨j, rfl, h⟩ := h
  exact ⟨j, rfl, h⟩
/-- a[:hi] -/
theorem x_sliT (h2 : (sem E hi).o = oSome (sem E hi).e) (h : Sat ((sem E a).e g S) fun d S => Sat ((sem E hi).e g S) fun y S => ∃ j, y = .int j ∧ Sat (semSlice d none (some j) S) Q) : Sat ((sem E (.sli a .nil hi)).e g S) Q := by
  refine sat_bind.mpr (h.mono fun d S h => ?_)
  rw [h2]
  refine sat_bind.mpr (?_ : Sat (O.ok none S) _)
  refine sat_bind.mpr (o_some (h.mono fun x S h => ?_))
  obtain ⟨i, rfl, h⟩ := h
  exact ⟨i, rfl, h⟩
/-- a[lo:] -/
theorem x_sliD (h2 : (sem E lo).o = oSome (sem E lo).e) (h : Sat ((sem E a).e g S) fun d S => Sat ((sem E lo).e g S) fun y S => ∃ j, y = .int j ∧ Sat (semSlice d (some j) none S) Q) : Sat ((sem E (.sli a lo .nil)).e g S) Q := by
  refine sat_bind.mpr (h.mono fun d S h => ?_)
  rw [h2]
  refine sat_bind.mpr (o_some (h.mono fun x S h => ?_))
  obtain ⟨i, rfl, h⟩ := h
  refine ⟨i, rfl, ?_⟩
  exact sat_bind.mpr (show Sat (O.ok none S) _ from h)
theorem k_par {i j : Nat} (h : Sat ((sem E as).a g S) fun ds S => ∃ x y, ds = [x, y] ∧ N ((g.set i (some x)).set j (some y)) S) : SatR ((sem E (.par i j as)).s g S) N Rt B C := by
  show SatR (bindR ((sem E as).a g S) _) N Rt B C
  rw [satR_bindR]
  refine h.mono fun ds S h => ?_
  obtain ⟨x, y, rfl, q⟩ := h
  exact q
theorem k_whl {n : Nat} (h : SatR (wloop (sem E t).t (sem E b).b n g S) N Rt B C) : SatR ((sem E (.whl n t b)).s g S) N Rt B C := h
theorem i_vS {i : Nat} {x : Str} (h : g[i]? = some (some (.str x))) (q : QI (.vals (signs x)) S) : Sat ((sem E (.var i)).i g S) QI := by
  refine sat_bind.mpr (x_var (E := E) h ?_)
  exact q
theorem i_vL {i n : Nat} {xs : List D} (h : g[i]? = some (some (.loc n))) (hS : S[n]? = some (.lst xs)) (q : QI (.lst n) S) : Sat ((sem E (.var i)).i g S) QI := by
  refine sat_bind.mpr (x_var (E := E) h ?_)
  show Sat (match S[n]? with | some (.lst _) => O.ok (IK.lst n) S | _ => .no) QI
  rw [hS]
  exact q
theorem i_enum {n : Nat} {xs : List D} (h : Sat ((sem E a).e g S) fun d S => d = .loc n ∧ S[n]? = some (.lst xs) ∧ QI (.enum n) S) : Sat ((sem E (.ienum (.cons a .nil))).i g S) QI := by
  refine sat_bind.mpr (x_cons (E := E) (h.mono fun d S h => ?_))
  obtain ⟨rfl, hS, q⟩ := h
  refine x_nil (E := E) ?_
  show Sat (match S[n]? with | some (.lst _) => O.ok (IK.enum n) S | _ => .no) QI
  rw [hS]
  exact q
end
section
variable {S : Store} {Q : D → Store → Prop}
theorem p_inL {d : D} {l : Nat} {ys : List D} (hS : S[l]? = some (.lst ys)) (hd : flatD d = true) (hy : ys.all flatD = true) (hn : ∀ x, d ≠ .str x) (q : Q (.bl (ys.any fun y => eqF y d)) S) : Sat (semCop .in_ d (.loc l) S) Q := by
  have e : inD d (.loc l) S = some (ys.any fun y => eqF y d) := by
    have h : inD d (.loc l) S = (match seqAt S (.loc l) with
      | some ys => if (flatD d && ys.all flatD) = true then some (ys.any fun y => eqF y d) else match toPy S 70 d, toPy S 70 (.loc l) with
        | some p, some (.list qs) => if (SeqAt.shaped p && SeqAt.shaped (.list qs)) = true then some (qs.any fun z => PyData.eqv z p) else none
        | _, _ => none
      | none => none) := by
      cases d <;> first | rfl | exact absurd rfl (hn _)
    rw [h, seqAt_loc hS]
    simp only [hd, hy, Bool.and_self, if_true]
  unfold semCop
  simp only [e]
  exact q
theorem p_inS {c : Nat} {y : Str} (q : Q (.bl (decide (c ∈ TL.tl y))) S) : Sat (semCop .in_ (.str ⟨#[c]⟩) (.str y) S) Q := by
  have e : inD (.str ⟨#[c]⟩) (.str y) S = some (decide (c ∈ TL.tl y)) := by
    show some (!(Builtin.Str.occurrences y ⟨#[c]⟩ 0 y.length 1).isEmpty) = _
    rw [StrLaws.found_one]
  unfold semCop
  simp only [e]
  exact q
theorem p_ninS {c : Nat} {y : Str} (q : Q (.bl (!decide (c ∈ TL.tl y))) S) : Sat (semCop .notin (.str ⟨#[c]⟩) (.str y) S) Q := by
  have e : inD (.str ⟨#[c]⟩) (.str y) S = some (decide (c ∈ TL.tl y)) := by
    show some (!(Builtin.Str.occurrences y ⟨#[c]⟩ 0 y.length 1).isEmpty) = _
    rw [StrLaws.found_one]
  unfold semCop
  simp only [e]
  exact q
theorem mapM_bl : ∀ bs : List Bool, (bs.map D.bl).mapM asBl = some bs
  | [] => rfl
  | b :: bs => by rw [List.map_cons, List.mapM_cons, mapM_bl bs]; rfl
theorem p_all {l : Nat} {bs : List Bool} (hS : S[l]? = some (.lst (bs.map .bl))) (q : Q (.bl (bs.all id)) S) : Sat (semBlt .all1 [.loc l] S) Q := by
  unfold semBlt
  simp only [listAt_loc hS, mapM_bl]
  exact q
theorem p_intS {x : Str} {n : Int} (hl : x.length ≤ 640) (h : PySem.intText? x = some n) (q : Q (.int n) S) : Sat (semBlt .int1 [.str x] S) Q := by
  unfold semBlt
  simp only [hl, h, if_true]
  exact q
theorem p_ord {c : Nat} (q : Q (.int c) S) : Sat (semBlt .ord1 [.str ⟨#[c]⟩] S) Q := q
theorem p_abs {i : Int} (q : Q (.int (if i < 0 then -i else i)) S) : Sat (semBlt .abs [.int i] S) Q := q
theorem p_max {i j : Int} (q : Q (.int (if j > i then j else i)) S) : Sat (semBlt .max2 [.int i, .int j] S) Q := q
theorem p_min {i j : Int} (q : Q (.int (if j < i then j else i)) S) : Sat (semBlt .min2 [.int i, .int j] S) Q := q
theorem p_is {d : D} (q : Q (.bl (isNon d)) S) : Sat (semCop .is d .non S) Q := by
  cases d <;> exact q
theorem p_isnot {d : D} (q : Q (.bl (!isNon d)) S) : Sat (semCop .isnot d .non S) Q := by
  cases d <;> exact q
theorem p_cutS {z : Str} {lo hi : Option Int} (h : z.length ≤ sizeLine) (q : Q (.str (cutS z lo hi)) S) : Sat (semSlice (.str z) lo hi S) Q := sat_guard.mpr ⟨h, q⟩
theorem p_cutL {l : Nat} {xs : List D} {lo hi : Option Int} (hS : S[l]? = some (.lst xs)) (q : Q (.loc S.length) (S ++ [.lst (cutD xs lo hi)])) : Sat (semSlice (.loc l) lo hi S) Q := by
  unfold semSlice
  simp only [listAt_loc hS]
  exact q
theorem p_append {l : Nat} {xs : List D} {y : D} (hS : S[l]? = some (.lst xs)) (hl : xs.length < sizeLine) (q : Q .non (S.set l (.lst (xs ++ [y])))) : Sat (semMth .append (.loc l) [y] S) Q := by
  unfold semMth
  simp only [lstAt_loc hS]
  exact sat_guard.mpr ⟨hl, q⟩
theorem ty_lst {p : Mth} {l : Nat} {xs : List D} (hp : p.ty = "list") (hS : S[l]? = some (.lst xs)) : tyOk p (.loc l) S = true := by
  unfold tyOk
  simp only [listAt_loc hS, hp]
  rfl
theorem p_part {x y : Str} (h0 : y.length ≠ 0) (h : x.length ≤ sizeLine) (q : Q (.tup [.str (Txt.partition x y).1, .str (Txt.partition x y).2.1, .str (Txt.partition x y).2.2]) S) : Sat (semMth .partition (.str x) [.str y] S) Q := by
  unfold semMth
  refine sat_guard.mpr ⟨?_, q⟩
  rw [decide_eq_true h0, decide_eq_true h]; rfl
theorem p_split {x y : Str} (h0 : y.length ≠ 0) (h : x.length + 2 ≤ sizeLine) (q : Q (.loc S.length) (S ++ [.lst ((Txt.split x y).map .str)])) : Sat (semMth .split1 (.str x) [.str y] S) Q := by
  unfold semMth
  refine sat_guard.mpr ⟨?_, q⟩
  rw [decide_eq_true h0, decide_eq_true h]; rfl
theorem p_find2 {x y : Str} {i : Int} (q : Q (.int (Txt.find3 x y i)) S) : Sat (semMth .find2 (.str x) [.str y, .int i] S) Q := q
theorem p_find1 {x y : Str} (q : Q (.int (Txt.find x y)) S) : Sat (semMth .find1 (.str x) [.str y] S) Q := q
theorem p_leS {x y : Str} (q : Q (.bl (!decide (y.cps.toList < x.cps.toList))) S) : Sat (semCop .le (.str x) (.str y) S) Q := q
end
/-! ### loops over what stands still -/
section
variable {ik : IK} {t : SG} {b : SS} {Rt : D → Store → Prop} {B C N : Sg → Store → Prop}
theorem floop_at {xs : List D} (P : Nat → Sg → Store → Prop) (st : ∀ i g S, P i g S → istep ik i S = some xs[i]?)
    (turn : ∀ i d g S, xs[i]? = some d → P i g S → Sat (t d g S) fun g S => SatR (b g S) (P (i + 1)) Rt N (P (i + 1))) (done : ∀ g S, P xs.length g S → N g S) :
    ∀ n i g S, i + n = xs.length + 1 → i ≤ xs.length → P i g S → SatR (floop ik t b n i g S) N Rt B C := by
  intro n
  induction n with
  | zero => intro i g S h1 h2; omega
  | succ n ih =>
    intro i g S h1 h2 p
    show SatR (match istep ik i S with
      | some (some d) => bindR (t d g S) fun g S => match b g S with
        | .nx g S => floop ik t b n (i + 1) g S
        | .ct g S => floop ik t b n (i + 1) g S
        | .bk g S => .nx g S
        | r => r
      | some none => .nx g S
      | none => .no) N Rt B C
    rw [st i g S p]
    by_cases hi : i < xs.length
    · rw [List.getElem?_eq_getElem hi]
      show SatR (bindR (t xs[i] g S) _) N Rt B C
      rw [satR_bindR]
      refine (turn i xs[i] g S (List.getElem?_eq_getElem hi) p).mono fun g1 S1 h => ?_
      cases q : b g1 S1 with
      | nx g2 S2 => rw [q] at h; exact ih (i + 1) g2 S2 (by omega) (by omega) h
      | ct g2 S2 => rw [q] at h; exact ih (i + 1) g2 S2 (by omega) (by omega) h
      | bk g2 S2 => rw [q] at h; exact h
      | rt d S2 => rw [q] at h; exact h
      | ex x S2 => rw [q] at h; exact h
      | no => rw [q] at h; exact h
    · have e : i = xs.length := by omega
      subst e
      rw [List.getElem?_eq_none (Nat.le_refl _)]
      exact done g S p
theorem lcLoop_at {xs : List D} {ts : ST} {el : SE} {g0 : Sg} {Q : List D → Store → Prop} (P : Nat → List D → Store → Prop) (st : ∀ i acc S, P i acc S → istep ik i S = some xs[i]?)
    (turn : ∀ i d acc S, xs[i]? = some d → P i acc S → Sat (t d g0 S) fun g S => Sat (ts g S) fun c S => (c = true → Sat (el g S) fun y S => acc.length < sizeLine ∧ P (i + 1) (acc ++ [y]) S) ∧ (c = false → P (i + 1) acc S))
    (done : ∀ acc S, P xs.length acc S → Q acc S) : ∀ n i acc S, i + n = xs.length + 1 → i ≤ xs.length → P i acc S → Sat (lcLoop ik t ts el g0 n i acc S) Q := by
  intro n
  induction n with
  | zero => intro i acc S h1 h2; omega
  | succ n ih =>
    intro i acc S h1 h2 p
    show Sat (match istep ik i S with
      | some (some d) => (t d g0 S).bind fun g S => (ts g S).bind fun c S => if c = true then (el g S).bind fun y S => if acc.length < sizeLine then lcLoop ik t ts el g0 n (i + 1) (acc ++ [y]) S else .no else lcLoop ik t ts el g0 n (i + 1) acc S
      | some none => .ok acc S
      | none => .no) Q
    rw [st i acc S p]
    by_cases hi : i < xs.length
    · rw [List.getElem?_eq_getElem hi]
      show Sat ((t xs[i] g0 S).bind _) Q
      rw [sat_bind]
      refine (turn i xs[i] acc S (List.getElem?_eq_getElem hi) p).mono fun g1 S1 h => ?_
      rw [sat_bind]
      refine h.mono fun c S2 h => ?_
      cases c with
      | true =>
        rw [if_pos rfl, sat_bind]
        refine (h.1 rfl).mono fun y S3 h => ?_
        rw [if_pos h.1]
        exact ih (i + 1) _ S3 (by omega) (by omega) h.2
      | false =>
        rw [if_neg Bool.false_ne_true]
        exact ih (i + 1) _ S2 (by omega) (by omega) (h.2 rfl)
    · have e : i = xs.length := by omega
      subst e
      rw [List.getElem?_eq_none (Nat.le_refl _)]
      exact done acc S p
theorem ib_lst {n : Nat} {xs : List D} {S : Store} (h : S[n]? = some (.lst xs)) : ibound (.lst n) S = xs.length + 1 := by
  unfold ibound; simp only [h]
theorem ib_enum {n : Nat} {xs : List D} {S : Store} (h : S[n]? = some (.lst xs)) : ibound (.enum n) S = xs.length + 1 := by
  unfold ibound; simp only [h]
theorem is_lst {n i : Nat} {xs : List D} {S : Store} (h : S[n]? = some (.lst xs)) : istep (.lst n) i S = some xs[i]? := by
  unfold istep; simp only [h]
/-- what enumerate gives -/
def enumOf (xs : List D) : List D := (List.range xs.length).map fun i => .tup [.int (i : Nat), xs.getD i .non]
theorem enumOf_len (xs : List D) : (enumOf xs).length = xs.length := by simp [enumOf]
theorem enumOf_at {xs : List D} {i : Nat} : (enumOf xs)[i]? = xs[i]?.map fun x => .tup [.int (i : Nat), x] := by
  unfold enumOf
  rw [List.getElem?_map]
  by_cases h : i < xs.length
  · rw [List.getElem?_range h, List.getElem?_eq_getElem h]
    simp [List.getD, List.getElem?_eq_getElem h]
  · rw [List.getElem?_eq_none (by simpa using h), List.getElem?_eq_none (by omega)]
    rfl
theorem is_enum {n i : Nat} {xs : List D} {S : Store} (h : S[n]? = some (.lst xs)) : istep (.enum n) i S = some (enumOf xs)[i]? := by
  unfold istep; simp only [h, enumOf_at]
/-- a comprehension that only looks: one value for each -/
theorem lcLoop_map {xs : List D} {el : SE} {g0 : Sg} {Q : List D → Store → Prop} {S0 : Store} (f : Nat → D) (st : ∀ i S, Grow S0 S → istep ik i S = some xs[i]?)
    (turn : ∀ i d S, xs[i]? = some d → Grow S0 S → Sat (t d g0 S) fun g S' => Sat (el g S') fun y S'' => y = f i ∧ Grow S S'') (hx : xs.length ≤ sizeLine)
    (done : ∀ S, Grow S0 S → Q ((List.range xs.length).map f) S) : ∀ {n}, n = xs.length + 1 → Sat (lcLoop ik t tsNil el g0 n 0 [] S0) Q := by
  intro n hn
  refine lcLoop_at (fun i acc S => acc = (List.range i).map f ∧ Grow S0 S) (fun i acc S p => st i S p.2) (fun i d acc S hi p => ?_) (fun acc S p => ?_) _ 0 _ _ (by omega) (Nat.zero_le _) ⟨rfl, .refl _⟩
  · obtain ⟨rfl, gr⟩ := p
    have hl : i < xs.length := (List.getElem?_eq_some_iff.mp hi).1
    refine (turn i d S hi gr).mono fun g S1 h => sat_ok.mpr ⟨fun _ => h.mono fun y S2 h => ?_, fun h => by cases h⟩
    obtain ⟨rfl, g2⟩ := h
    refine ⟨by simp; omega, ?_, gr.trans g2⟩
    rw [List.range_succ, List.map_append]
    rfl
  · obtain ⟨rfl, gr⟩ := p
    exact done S gr
end
/-! ### a def of the table -/
theorem run_of {p : Prg} {f : Str} {n ar k : Nat} {b : T} {ds : List D} {S : Store} (h : p.tab.lookup f = some ⟨ar, n, b⟩) (hl : ds.length = ar) : p.run (k + 1) f ds S = runBody n (sem (p.env (p.run k)) b).b ds S := by
  show (match p.tab.lookup f with | some d => if ds.length = d.ar then runBody d.n (sem (p.env (p.run k)) d.body).b ds S else .no | none => .no) = _
  rw [h]
  show (if ds.length = ar then _ else _) = _
  rw [if_pos hl]
theorem set_grow {S S' : Store} {n : Nat} {c : Cell} (g : Grow S S') (h : S.length ≤ n) : Grow S (S'.set n c) := by
  obtain ⟨r, rfl⟩ := g
  exact ⟨r.set (n - S.length) c, by rw [List.set_append_right (h := h)]⟩
/-- slices of texts by plain numbers -/
theorem tl_cut {z : Str} {a b : Nat} : TL.tl (cutS z (some (a : Int)) (some (b : Int))) = ((TL.tl z).drop a).take (b - a) := by
  unfold cutS
  rw [HT.sIx_nat, HT.sIx_nat, TL.len_tl]
  show ((TL.tl z).drop _).take _ = _
  by_cases ha : a ≤ (TL.tl z).length
  · rw [Nat.min_eq_left ha]
    by_cases hb : b ≤ (TL.tl z).length
    · rw [Nat.min_eq_left hb]
    · rw [Nat.min_eq_right (by omega), List.take_of_length_le (by rw [List.length_drop]; omega), List.take_of_length_le (by rw [List.length_drop]; omega)]
  · rw [Nat.min_eq_right (a := a) (by omega), List.drop_length, List.drop_eq_nil_of_le (by omega), List.take_nil, List.take_nil]
theorem tl_cutT {z : Str} {b : Nat} : TL.tl (cutS z none (some (b : Int))) = (TL.tl z).take b := by
  unfold cutS
  rw [HT.sIx_nat, HT.sIx_none, TL.len_tl]
  show ((TL.tl z).drop 0).take _ = _
  rw [List.drop_zero, Nat.sub_zero]
  by_cases hb : b ≤ (TL.tl z).length
  · rw [Nat.min_eq_left hb]
  · rw [Nat.min_eq_right (by omega), List.take_of_length_le (by omega), List.take_of_length_le (by omega)]
theorem tl_cutD {z : Str} {a : Nat} : TL.tl (cutS z (some (a : Int)) none) = (TL.tl z).drop a := by
  unfold cutS
  rw [HT.sIx_nat, HT.sIx_none, TL.len_tl]
  show ((TL.tl z).drop _).take _ = _
  by_cases ha : a ≤ (TL.tl z).length
  · rw [Nat.min_eq_left ha, List.take_of_length_le (by rw [List.length_drop]; omega)]
  · rw [Nat.min_eq_right (by omega), List.drop_length, List.drop_eq_nil_of_le (by omega), List.take_nil]
end Mz

end

section
set_option Elab.async false
set_option linter.all false
set_option maxRecDepth 100000
set_option maxHeartbeats 4000000
namespace Mz
open PySem PySem.Spec L2
/-- xs[j] = v -/
theorem k_setL {E : PEnv} {a b e : T} {g : Sg} {S : Store} {N B C : Sg → Store → Prop} {Rt : D → Store → Prop} (h : Sat ((sem E e).e g S) fun d S => Sat ((sem E a).e g S) fun x S => Sat ((sem E b).e g S) fun y S => ∃ n j xs, x = .loc n ∧ y = .int (j : Nat) ∧ S[n]? = some (.lst xs) ∧ j < xs.length ∧ N g (S.set n (.lst (xs.set j d)))) : SatR ((sem E (.asg (.sub a b) e)).s g S) N Rt B C := by
  refine k_asgGS (h.mono fun d S h => ?_)
  refine sat_bind.mpr (h.mono fun x S h => sat_bind.mpr (h.mono fun y S h => sat_bind.mpr ?_))
  obtain ⟨n, j, xs, rfl, rfl, hS, hj, q⟩ := h
  unfold setAt
  have ix : ixN xs.length (j : Int) = some j := by
    unfold ixN
    rw [if_pos (by omega), if_pos (by omega)]
    rfl
  simp only [lstAt_loc hS, ix]
  exact q
section
variable {S : Store} {Q : D → Store → Prop}
theorem p_extend {l m : Nat} {xs ys : List D} (hS : S[l]? = some (.lst xs)) (hS' : S[m]? = some (.lst ys)) (hl : xs.length + ys.length ≤ 10000000) (q : Q .non (S.set l (.lst (xs ++ ys)))) : Sat (semMth .extend (.loc l) [.loc m] S) Q := by
  unfold semMth
  simp only [lstAt_loc hS, lstAt_loc hS']
  exact sat_guard.mpr ⟨by rw [sizeLine_eq]; omega, q⟩
theorem i_eL {E : PEnv} {t : T} {g : Sg} {QI : IK → Store → Prop} (h0 : (sem E t).i = iVal (sem E t).e) (h : Sat ((sem E t).e g S) fun d S => ∃ n xs, d = .loc n ∧ S[n]? = some (.lst xs) ∧ QI (.lst n) S) : Sat ((sem E t).i g S) QI := by
  rw [h0]
  refine sat_bind.mpr (h.mono fun d S h => ?_)
  obtain ⟨n, xs, rfl, hS, q⟩ := h
  show Sat (match S[n]? with | some (.lst _) => O.ok (IK.lst n) S | _ => .no) QI
  rw [hS]
  exact q
theorem i_eT {E : PEnv} {t : T} {g : Sg} {QI : IK → Store → Prop} (h0 : (sem E t).i = iVal (sem E t).e) (h : Sat ((sem E t).e g S) fun d S => ∃ xs, d = .tup xs ∧ QI (.vals xs) S) : Sat ((sem E t).i g S) QI := by
  rw [h0]
  refine sat_bind.mpr (h.mono fun d S h => ?_)
  obtain ⟨xs, rfl, q⟩ := h
  exact q
theorem x_isi {E : PEnv} {a : T} {g : Sg} {t : Ity} {Q : D → Store → Prop} (h : Sat ((sem E a).e g S) fun d S => Sat (semIsi t d S) Q) : Sat ((sem E (.isi t a)).e g S) Q := sat_bind.mpr h
theorem y_isi {E : PEnv} {a : T} {g : Sg} {t : Ity} {Q : Bool → Store → Prop} (h : Sat ((sem E a).e g S) fun d S => Sat (semIsi t d S) fun d S => ∃ b, d = .bl b ∧ Q b S) : Sat ((sem E (.isi t a)).t g S) Q :=
  y_of (x_isi (E := E) (h.mono fun d S h => h.mono fun d S h => by obtain ⟨b, rfl, q⟩ := h; exact ⟨b, rfl, q⟩))
theorem p_addLL {l m : Nat} {xs ys : List D} (h : S[l]? = some (.lst xs)) (h' : S[m]? = some (.lst ys)) (hl : xs.length + ys.length ≤ 1000000) (q : Q (.loc S.length) (S ++ [.lst (xs ++ ys)])) : Sat (semBop .add (.loc l) (.loc m) S) Q := by
  unfold semBop
  simp only [lstAt_loc h, lstAt_loc h']
  exact sat_guard.mpr ⟨by rw [sizeLine_eq]; omega, q⟩
theorem p_addTT {xs ys : List D} (hl : xs.length + ys.length ≤ 1000000) (q : Q (.tup (xs ++ ys)) S) : Sat (semBop .add (.tup xs) (.tup ys) S) Q := sat_guard.mpr ⟨by rw [sizeLine_eq]; omega, q⟩
end
/-- the tape of a law: its cell, its mixed number -/
def Tape (S : Store) (n : Nat) : Prop := ∃ a b : Int, S[n]? = some (.lst [.int a, .int b]) ∧ 0 ≤ a ∧ 0 ≤ b ∧ b < 2147483647
theorem Tape.lt {S : Store} {n : Nat} (h : Tape S n) : n < S.length := let ⟨_, _, e, _⟩ := h; lt_of e
theorem Tape.app {S : Store} {n : Nat} {c : List Cell} (h : Tape S n) : Tape (S ++ c) n := let ⟨a, b, e, r⟩ := h; ⟨a, b, app_at e, r⟩
theorem Tape.grow {S S' : Store} {n : Nat} (h : Tape S n) (g : Grow S S') : Tape S' n := let ⟨a, b, e, r⟩ := h; ⟨a, b, g.at e, r⟩
theorem Tape.keep {S S' : Store} {n m : Nat} (h : Tape S n) (k : Keep m S S') (ne : n ≠ m) : Tape S' n := let ⟨a, b, e, r⟩ := h; ⟨a, b, k.at e ne, r⟩
end Mz

end

section
set_option Elab.async false
set_option linter.all false
set_option maxRecDepth 100000
set_option maxHeartbeats 4000000
local macro_rules | `(tactic| walk_at "go") => `(tactic| repeat (first | with_reducible refine Mz.k_cons ?_ | with_reducible refine Mz.k_asgS ?_ | with_reducible refine Mz.k_retS ?_ | with_reducible refine Mz.k_exS ?_ | with_reducible refine Mz.x_bin ?_ | with_reducible refine Mz.x_cmp ?_ | with_reducible refine Mz.x_sub ?_ | with_reducible refine Mz.x_call ?_ | with_reducible refine Mz.x_blt ?_ | with_reducible refine Mz.x_cons ?_ | with_reducible refine Mz.x_nil ?_ | with_reducible refine Mz.x_tup ?_ | with_reducible refine Mz.x_lst ?_ | with_reducible refine Mz.x_int ?_ | with_reducible refine Mz.x_str ?_ | with_reducible refine Mz.x_bl ?_ | with_reducible refine Mz.x_non ?_ | with_reducible refine Mz.p_add ?_ | with_reducible refine Mz.p_sub ?_ | with_reducible refine Mz.p_eqI ?_ | with_reducible refine Mz.p_neI ?_ | with_reducible refine Mz.p_eqS ?_ | with_reducible refine Mz.p_neS ?_ | with_reducible refine Mz.p_lt ?_ | with_reducible refine Mz.p_le ?_ | with_reducible refine Mz.p_ge ?_ | with_reducible refine Mz.p_gt ?_ | with_reducible refine Mz.y_cmp ?_ | with_reducible refine Mz.x_fst ?_ | with_reducible refine Mz.j_cons ?_ | with_reducible refine Mz.j_nil ?_ | with_reducible refine Mz.x_fmt ?_ | with_reducible refine Mz.x_chain ?_ | with_reducible refine Mz.y_chain ?_ | with_reducible refine Mz.p_leS ?_ | with_reducible refine Mz.p_is ?_ | with_reducible refine Mz.p_isnot ?_ | with_reducible refine Mz.p_ord ?_ | with_reducible refine Mz.p_max ?_ | with_reducible refine Mz.p_min ?_ | with_reducible refine Mz.p_abs ?_ | with_reducible refine Mz.p_itT (by decide) rfl ?_ | ((with_reducible apply Mz.x_var); next => exact rfl) | with_reducible refine ⟨(by simp only [List.length_cons, List.length_nil, PySem.sizeLine_eq]; omega : (List.length _ ≤ PySem.sizeLine)), ?_⟩))
namespace Rc
open PySem PySem.Spec L2 Mz TL
/-! ### loops over the signs of a text, over a list -/
theorem range_getD {α : Type} {β : Type} (f : α → β) (z : α) : ∀ l : List α, (List.range l.length).map (fun i => f (l.getD i z)) = l.map f := by
  intro l
  apply List.ext_getElem?
  intro i
  rw [List.getElem?_map, List.getElem?_map]
  by_cases h : i < l.length
  · rw [List.getElem?_range h, List.getElem?_eq_getElem h]
    simp [List.getD, List.getElem?_eq_getElem h]
  · rw [List.getElem?_eq_none (by simpa using h), List.getElem?_eq_none (by omega)]
    rfl
theorem lc_signs {x : Str} {t : SG} {el : SE} {g0 : Sg} {Q : List D → Store → Prop} {S0 : Store} (f : Nat → D) (hx : x.length ≤ sizeLine)
    (turn : ∀ c S, c ∈ tl x → Grow S0 S → Sat (t (.str ⟨#[c]⟩) g0 S) fun g S' => Sat (el g S') fun y S'' => y = f c ∧ Grow S S'')
    (done : ∀ S, Grow S0 S → Q ((tl x).map f) S) : Sat (lcLoop (.vals (signs x)) t tsNil el g0 (ibound (.vals (signs x)) S0) 0 [] S0) Q := by
  have hl : (signs x).length = (tl x).length := by simp [signs]
  refine lcLoop_map (xs := signs x) (fun i => f ((tl x).getD i 0)) (fun i S _ => rfl) (fun i d S hi gr => ?_) (by rw [hl, ← len_tl]; exact hx) (fun S gr => ?_) rfl
  · unfold signs at hi
    rw [List.getElem?_map] at hi
    cases e : x.cps.toList[i]? with
    | none => rw [e] at hi; cases hi
    | some c =>
      rw [e] at hi
      cases hi
      have : (tl x).getD i 0 = c := by
        show (x.cps.toList[i]?).getD 0 = c
        rw [e]; rfl
      rw [this]
      exact turn c S (List.mem_of_getElem? e) gr
  · rw [hl, range_getD f 0]
    exact done S gr
theorem lc_cell {n : Nat} {xs : List D} {t : SG} {el : SE} {g0 : Sg} {Q : List D → Store → Prop} {S0 : Store} (f : D → D) (hS : S0[n]? = some (.lst xs)) (hx : xs.length ≤ sizeLine)
    (turn : ∀ d S, d ∈ xs → Grow S0 S → Sat (t d g0 S) fun g S' => Sat (el g S') fun y S'' => y = f d ∧ Grow S S'')
    (done : ∀ S, Grow S0 S → Q (xs.map f) S) : Sat (lcLoop (.lst n) t tsNil el g0 (ibound (.lst n) S0) 0 [] S0) Q := by
  refine lcLoop_map (xs := xs) (fun i => f (xs.getD i .non)) (fun i S gr => is_lst (gr.at hS)) (fun i d S hi gr => ?_) hx (fun S gr => ?_) (ib_lst hS)
  · have : xs.getD i .non = d := by
      show (xs[i]?).getD .non = d
      rw [hi]; rfl
    rw [this]
    exact turn d S (List.mem_of_getElem? hi) gr
  · rw [range_getD f .non]
    exact done S gr
/-! ### the texts of the defs -/
def t_check_of : T := (.cons (.asg (.var 1) (.int 7)) (.cons (.for_ (.var 2) (.var 0) (.cons (.asg (.var 1) (.bin .mod (.bin .add (.bin .mul (.var 1) (.int 33)) (.blt .ord1 (.cons (.var 2) .nil))) (.int 1000003))) .nil)) (.cons (.ret (.var 1)) .nil)))
def t_record : T := (.cons (.asg (.var 2) (.mth .join (.str "\n") (.cons (.var 1) .nil))) (.cons (.asg (.var 3) (.fst (.cons (.fmt (.var 0)) (.cons (.str " ") (.cons (.fmt (.blt .len (.cons (.var 2) .nil))) (.cons (.str ":") .nil)))))) (.cons (.ret (.fst (.cons (.fmt (.var 3)) (.cons (.fmt (.call "check_of" (.cons (.bin .add (.var 3) (.var 2)) .nil))) (.cons (.str "=") (.cons (.fmt (.var 2)) (.cons (.str "\n") .nil))))))) .nil)))
def t_figured : T := (.cons (.ifs (.or (.nt (.chain .le .le (.int 1) (.blt .len (.cons (.var 0) .nil)) (.glb "MOST_FIGURES"))) (.and (.cmp .eq (.sub (.var 0) (.int 0)) (.str "0")) (.cmp .gt (.blt .len (.cons (.var 0) .nil)) (.int 1)))) (.cons (.ret .non) .nil) .nil) (.cons (.ret (.ife (.blt .all1 (.cons (.lc [1] (.var 1) (.var 0) .nil (.cmp .in_ (.var 1) (.glb "FIGURES"))) .nil)) (.blt .int1 (.cons (.var 0) .nil)) .non)) .nil))
def t_is_row : T := (.cons (.ret (.and (.cmp .ne (.var 0) (.str "")) (.blt .all1 (.cons (.lc [1] (.var 1) (.var 0) .nil (.chain .le .le (.str " ") (.var 1) (.str "~"))) .nil)))) .nil)
def t_record_at : T := (.cons (.asg (.var 2) (.mth .find2 (.var 0) (.cons (.str "=") (.cons (.var 1) .nil)))) (.cons (.asg (.tup (.cons (.var 6) (.cons (.var 7) (.cons (.var 8) .nil)))) (.mth .partition (.sli (.var 0) (.var 1) (.blt .max2 (.cons (.var 1) (.cons (.var 2) .nil)))) (.cons (.str " ") .nil))) (.cons (.asg (.tup (.cons (.var 9) (.cons (.var 10) (.cons (.var 11) .nil)))) (.mth .partition (.var 8) (.cons (.str ":") .nil))) (.cons (.asg (.var 3) (.lst (.cons (.call "figured" (.cons (.var 6) .nil)) (.cons (.call "figured" (.cons (.var 9) .nil)) (.cons (.call "figured" (.cons (.var 11) .nil)) .nil))))) (.cons (.ifs (.cmp .in_ .non (.var 3)) (.cons (.ret .non) .nil) .nil) (.cons (.par 12 13 (.cons (.bin .add (.var 2) (.int 1)) (.cons (.bin .add (.bin .add (.var 2) (.int 1)) (.sub (.var 3) (.int 1))) .nil))) (.cons (.asg (.var 4) (.sli (.var 0) (.var 12) (.var 13))) (.cons (.asg (.var 5) (.mth .split1 (.var 4) (.cons (.str "\n") .nil))) (.cons (.ifs (.or (.cmp .ne (.sli (.var 0) (.var 13) (.bin .add (.var 13) (.int 1))) (.str "\n")) (.nt (.blt .all1 (.cons (.lc [14] (.var 14) (.var 5) .nil (.call "is_row" (.cons (.var 14) .nil))) .nil)))) (.cons (.ret .non) .nil) .nil) (.cons (.ifs (.cmp .ne (.call "check_of" (.cons (.fst (.cons (.fmt (.var 6)) (.cons (.str " ") (.cons (.fmt (.var 9)) (.cons (.str ":") (.cons (.fmt (.var 4)) .nil)))))) .nil)) (.sub (.var 3) (.int 2))) (.cons (.ret .non) .nil) .nil) (.cons (.ret (.tup (.cons (.sub (.var 3) (.int 0)) (.cons (.var 5) (.cons (.bin .add (.var 13) (.int 1)) .nil))))) .nil)))))))))))
def t_parsed : T := (.cons (.asg (.var 1) .non) (.cons (.asg (.var 2) (.lst .nil)) (.cons (.asg (.var 3) (.int 0)) (.cons (.asg (.var 4) (.call "record_at" (.cons (.var 0) (.cons (.var 3) .nil)))) (.cons (.whl 1000000 (.and (.cmp .isnot (.var 4) .non) (.or (.cmp .is (.var 1) .non) (.cmp .eq (.sub (.var 4) (.int 0)) (.bin .add (.var 1) (.blt .len (.cons (.var 2) .nil)))))) (.cons (.asg (.tup (.cons (.var 5) (.cons (.var 6) (.cons (.var 3) .nil)))) (.var 4)) (.cons (.asg (.var 1) (.ife (.cmp .is (.var 1) .non) (.var 5) (.var 1))) (.cons (.ex (.mth .append (.var 2) (.cons (.var 6) .nil))) (.cons (.asg (.var 4) (.call "record_at" (.cons (.var 0) (.cons (.var 3) .nil)))) .nil))))) (.cons (.ret (.tup (.cons (.var 1) (.cons (.var 2) (.cons (.var 3) .nil))))) .nil))))))
def t__law_feed : T := (.cons (.asg (.var 2) (.bin .add (.bin .mul (.int 67) (.var 1)) (.int 19))) (.cons (.ifs (.cmp .lt (.var 1) (.blt .len (.cons (.var 0) .nil))) (.cons (.asg (.var 2) (.sub (.var 0) (.var 1))) .nil) .nil) (.cons (.asg (.var 3) (.int 0)) (.cons (.ifs (.cmp .ge (.blt .abs (.cons (.var 2) .nil)) (.bin .pow (.int 10) (.int 18))) (.cons (.asg (.var 3) (.bin .sub (.blt .abs (.cons (.var 2) .nil)) (.bin .pow (.int 10) (.int 18)))) .nil) .nil) (.cons (.ret (.lst (.cons (.var 3) (.cons (.bin .mod (.bin .add (.bin .add (.bin .mul (.var 2) (.int 6364136223846793005)) (.bin .mul (.int 7919) (.var 1))) (.int 1442695040888963407)) (.int 2305843009213693951)) .nil)))) .nil)))))
def t__law_take : T := (.cons (.ifs (.cmp .gt (.sub (.var 0) (.int 0)) (.int 0)) (.cons (.asg (.var 2) (.bin .mod (.sub (.var 0) (.int 0)) (.var 1))) (.cons (.asg (.sub (.var 0) (.int 0)) (.bin .fdiv (.sub (.var 0) (.int 0)) (.var 1))) (.cons (.ret (.var 2)) .nil))) .nil) (.cons (.asg (.sub (.var 0) (.int 1)) (.bin .mod (.bin .add (.bin .mul (.sub (.var 0) (.int 1)) (.int 48271)) (.int 12345)) (.int 2305843009213693951))) (.cons (.ret (.bin .mod (.bin .fdiv (.sub (.var 0) (.int 1)) (.int 2097152)) (.var 1))) .nil)))
def t__law_pick : T := (.cons (.ret (.sub (.var 1) (.call "_law_take" (.cons (.var 0) (.cons (.blt .len (.cons (.var 1) .nil)) .nil))))) .nil)
def t__law_signs : T := (.cons (.ret (.str " !\"#$&'()*+,-./0123456789:;<=>?@ABCDEFGHIJKLMNOPQRSTUVWXYZ[\\]^_`abcdefghijklmnopqrstuvwxyz{|}~")) .nil)
def t__law_row : T := (.cons (.asg (.var 1) (.call "_law_signs" .nil)) (.cons (.asg (.var 2) (.call "_law_take" (.cons (.var 0) (.cons (.int 5) .nil)))) (.cons (.ifs (.cmp .eq (.var 2) (.int 0)) (.cons (.ret (.bin .add (.bin .add (.bin .add (.bin .add (.bin .add (.blt .str1 (.cons (.call "_law_take" (.cons (.var 0) (.cons (.int 12) .nil))) .nil)) (.str " ")) (.blt .str1 (.cons (.call "_law_take" (.cons (.var 0) (.cons (.int 9) .nil))) .nil))) (.str ":")) (.blt .str1 (.cons (.call "_law_take" (.cons (.var 0) (.cons (.int 1000003) .nil))) .nil))) (.str "=a"))) .nil) .nil) (.cons (.ifs (.cmp .eq (.var 2) (.int 1)) (.cons (.asg (.var 1) (.str " =:0123456789a")) .nil) .nil) (.cons (.asg (.var 3) (.bin .add (.int 1) (.call "_law_take" (.cons (.var 0) (.cons (.call "_law_pick" (.cons (.var 0) (.cons (.lst (.cons (.int 1) (.cons (.int 2) (.cons (.int 6) (.cons (.int 40) .nil))))) .nil))) .nil))))) (.cons (.ret (.mth .join (.str "") (.cons (.lc [4] (.var 4) (.irng (.cons (.var 3) .nil)) .nil (.sub (.var 1) (.call "_law_take" (.cons (.var 0) (.cons (.blt .len (.cons (.var 1) .nil)) .nil))))) .nil))) .nil))))))
def t__law_rows_drawn : T := (.cons (.ret (.lc [1] (.var 1) (.irng (.cons (.bin .add (.int 1) (.call "_law_take" (.cons (.var 0) (.cons (.call "_law_pick" (.cons (.var 0) (.cons (.lst (.cons (.int 1) (.cons (.int 2) (.cons (.int 5) .nil)))) .nil))) .nil)))) .nil)) .nil (.call "_law_row" (.cons (.var 0) .nil)))) .nil)
structure Has (p : Prg) : Prop where
  check_of : p.tab.lookup ("check_of" : Str) = some ⟨1, 3, t_check_of⟩
  figured : p.tab.lookup ("figured" : Str) = some ⟨1, 2, t_figured⟩
  is_row : p.tab.lookup ("is_row" : Str) = some ⟨1, 2, t_is_row⟩
  record_at : p.tab.lookup ("record_at" : Str) = some ⟨2, 15, t_record_at⟩
  parsed : p.tab.lookup ("parsed" : Str) = some ⟨1, 7, t_parsed⟩
  feed : p.tab.lookup ("_law_feed" : Str) = some ⟨2, 4, t__law_feed⟩
  take : p.tab.lookup ("_law_take" : Str) = some ⟨2, 3, t__law_take⟩
  pick : p.tab.lookup ("_law_pick" : Str) = some ⟨2, 2, t__law_pick⟩
  signs : p.tab.lookup ("_law_signs" : Str) = some ⟨0, 0, t__law_signs⟩
  row : p.tab.lookup ("_law_row" : Str) = some ⟨1, 5, t__law_row⟩
  rows_drawn : p.tab.lookup ("_law_rows_drawn" : Str) = some ⟨1, 2, t__law_rows_drawn⟩
  g1 : p.G.lookup ("FIGURES" : Str) = some (.str "0123456789")
  g2 : p.G.lookup ("MOST_FIGURES" : Str) = some (.int 60)
variable {p : Prg} (H : Has p) {k : Nat} {S : Store}
/-! ### check_of -/
def stepL (f : Int) (c : Nat) : Int := (f * 33 + c) % 1000003
def chkL (l : List Nat) : Int := l.foldl stepL 7
theorem stepL_lt (f : Int) (c : Nat) : 0 ≤ stepL f c ∧ stepL f c < 1000003 := ⟨Int.emod_nonneg _ (by decide), Int.emod_lt_of_pos _ (by decide)⟩
theorem foldL_lt : ∀ (l : List Nat) (f : Int), 0 ≤ f → f < 1000003 → 0 ≤ l.foldl stepL f ∧ l.foldl stepL f < 1000003
  | [], f, h1, h2 => ⟨h1, h2⟩
  | c :: l, f, h1, h2 => by
    have := stepL_lt f c
    exact foldL_lt l _ this.1 this.2
theorem chkL_lt (l : List Nat) : 0 ≤ chkL l ∧ chkL l < 1000003 := foldL_lt l 7 (by decide) (by decide)
include H in
theorem check_spec (x : Str) : Sat (p.run (k + 1) "check_of" [.str x] S) fun d S' => d = .int (chkL (tl x)) ∧ S' = S := by
  rw [run_of H.check_of rfl, sat_runBody]; unfold t_check_of
  walk_at "go"
  refine k_forS (i_vS rfl ?_)
  have hl : (Mz.signs x).length = (tl x).length := by simp [Mz.signs]
  refine floop_vals (fun i g S' => ∃ v, g = [some (.str x), some (.int (((tl x).take i).foldl stepL 7)), v] ∧ S' = S) (fun i d g S' hi q => ?_) (fun g S' q => ?_) _ 0 _ S (by simp [ibound]) (Nat.zero_le _) ⟨none, rfl, rfl⟩
  · obtain ⟨v, rfl, rfl⟩ := q
    have hc : ∃ c, (tl x)[i]? = some c ∧ d = .str ⟨#[c]⟩ := by
      unfold Mz.signs at hi
      rw [List.getElem?_map] at hi
      cases e : x.cps.toList[i]? with
      | none => rw [e] at hi; cases hi
      | some c => rw [e] at hi; cases hi; exact ⟨c, rfl, rfl⟩
    obtain ⟨c, hc, rfl⟩ := hc
    have b := foldL_lt ((tl x).take i) 7 (by decide) (by decide)
    refine sat_ok.mpr ?_
    walk_at "go"
    refine p_mul (mulOk_l (by omega) (by omega)) ?_
    walk_at "go"
    refine p_mod (by decide) (k_nil ⟨some (.str ⟨#[c]⟩), ?_, rfl⟩)
    rw [List.take_add_one, hc, List.foldl_append]
    rfl
  · obtain ⟨v, rfl, rfl⟩ := q
    rw [hl, List.take_length]
    walk_at "go"
    exact ⟨rfl, rfl⟩
/-! ### figured -/
def isDig (c : Nat) : Bool := decide (48 ≤ c) && decide (c ≤ 57)
def figL (l : List Nat) : Option Nat := if l.length < 1 ∨ 60 < l.length then none else if l.head? = some 48 ∧ 1 < l.length then none else if l.all isDig = true then some (NumText.digitsVal l) else none
def optD : Option Nat → D
  | none => .non
  | some n => .int (n : Int)
theorem mem_figures (c : Nat) : decide (c ∈ tl (Str.ofString "0123456789")) = isDig c := by
  have e : tl (Str.ofString "0123456789") = [48, 49, 50, 51, 52, 53, 54, 55, 56, 57] := by decide +kernel
  rw [e]
  unfold isDig
  rw [Bool.eq_iff_iff]
  simp only [List.mem_cons, List.not_mem_nil, or_false, decide_eq_true_eq, Bool.and_eq_true]
  omega
theorem digs {l : List Nat} (h : l.all isDig = true) : NumText.AllDigits l := by
  intro c hc
  have := List.all_eq_true.mp h c hc
  unfold isDig at this
  simpa using this
theorem one_eq {c d : Nat} : ((⟨#[c]⟩ : Str) = ⟨#[d]⟩) ↔ c = d := by
  constructor
  · intro h
    have := congrArg tl h
    simpa [tl] using this
  · rintro rfl; rfl
include H in
theorem figured_spec {x : Str} (hx : x.length ≤ 16000000) : Sat (p.run (k + 1) "figured" [.str x] S) fun d S' => d = optD (figL (tl x)) ∧ Grow S S' := by
  rw [run_of H.figured rfl, sat_runBody]; unfold t_figured
  have hl := len_tl x
  refine k_cons (k_ifS (y_or (y_not ?_)))
  walk_at "go"
  refine p_lenS (sz hx) ?_
  walk_at "go"
  refine ⟨_, rfl, fun h1 => ?_, fun h1 => ?_⟩
  · have h1 : ¬ (x.length : Int) < 1 := by simpa using h1
    refine x_glb H.g2 ?_
    walk_at "go"
    refine ⟨_, rfl, fun h2 => ⟨fun _ => ?_, fun h => by cases h⟩, fun h2 => ?_⟩
    · have h2 : (60 : Int) < x.length := by simpa using h2
      walk_at "go"
      refine ⟨?_, .refl _⟩
      unfold figL
      rw [if_pos (by omega)]
      rfl
    · have h2 : ¬ (60 : Int) < x.length := by simpa using h2
      obtain ⟨c, r, e⟩ : ∃ c r, tl x = c :: r := by
        cases h : tl x with
        | nil => rw [h] at hl; simp at hl; omega
        | cons c r => exact ⟨c, r, rfl⟩
      have fig0 : figL (tl x) = if (tl x).head? = some 48 ∧ 1 < (tl x).length then none else if (tl x).all isDig = true then some (NumText.digitsVal (tl x)) else none := by
        unfold figL
        rw [if_neg (by omega)]
      refine y_and ?_
      walk_at "go"
      refine p_itS (sz hx) (by decide) (show x.cps.toList[0]? = some c by rw [show x.cps.toList = c :: r from e]; rfl) ?_
      walk_at "go"
      have e0 : (Str.ofString "0") = (⟨#[48]⟩ : Str) := by decide +kernel
      have rest : ¬ ((tl x).head? = some 48 ∧ 1 < (tl x).length) → SatR ((sem (p.env (p.run k)) (.cons (.ret (.ife (.blt .all1 (.cons (.lc [1] (.var 1) (.var 0) .nil (.cmp .in_ (.var 1) (.glb "FIGURES"))) .nil)) (.blt .int1 (.cons (.var 0) .nil)) .non)) .nil)).b [some (.str x), none] S) (fun _ S' => D.non = optD (figL (tl x)) ∧ Grow S S') (fun d S' => d = optD (figL (tl x)) ∧ Grow S S') (fun _ _ => False) (fun _ _ => False) := by
        intro hn
        rw [fig0, if_neg hn]
        refine k_cons (k_retS (x_if (y_blt (x_cons (x_lc (i_vS rfl ?_))))))
        refine lc_signs (fun c => .bl (isDig c)) (sz hx) (fun c S1 hc g1 => sat_ok.mpr ?_) fun S1 g1 => ?_
        · walk_at "go"
          refine x_glb H.g1 (p_inS ⟨?_, .refl _⟩)
          rw [mem_figures]
        · walk_at "go"
          refine p_all (bs := (tl x).map isDig) (by rw [List.map_map]; exact new_at) ⟨_, rfl, fun hb => ?_, fun hb => ?_⟩
          · have hb : (tl x).all isDig = true := by simpa using hb
            rw [if_pos hb]
            walk_at "go"
            exact p_intS (by omega) (intText_digits (digs hb) (by rw [show x.cps.toList = c :: r from e]; simp) (by omega)) ⟨rfl, g1.trans .one⟩
          · have hb : ¬ (tl x).all isDig = true := by
              intro h
              have : ((tl x).map isDig).all id = true := by simpa using h
              rw [this] at hb; cases hb
            rw [if_neg hb]
            exact x_non ⟨rfl, g1.trans .one⟩
      refine ⟨_, rfl, fun h3 => ?_, fun h3 => ⟨fun h => (by cases h), fun _ => k_nil (rest ?_)⟩⟩
      · rw [e0, decide_eq_true_eq, one_eq] at h3
        walk_at "go"
        refine p_lenS (sz hx) ?_
        walk_at "go"
        refine ⟨_, rfl, fun h4 => ?_, fun h4 => k_nil (rest ?_)⟩
        · have h4 : (1 : Int) < x.length := by simpa using h4
          walk_at "go"
          refine ⟨?_, .refl _⟩
          rw [fig0, if_pos ⟨by rw [e, h3]; rfl, by omega⟩]
          rfl
        · have h4 : ¬ (1 : Int) < x.length := by simpa using h4
          intro h
          omega
      · intro h
        rw [e] at h
        have := h.1
        simp only [List.head?_cons, Option.some.injEq] at this
        rw [e0, this] at h3
        simp at h3
  · have h1 : (x.length : Int) < 1 := by simpa using h1
    refine ⟨fun _ => ⟨fun _ => ?_, fun h => by cases h⟩, fun h => by cases h⟩
    walk_at "go"
    refine ⟨?_, .refl _⟩
    unfold figL
    rw [if_pos (by omega)]
    rfl
end Rc

end

section
set_option Elab.async false
set_option linter.all false
set_option maxRecDepth 100000
set_option maxHeartbeats 4000000
local macro_rules | `(tactic| walk_at "go") => `(tactic| repeat (first | with_reducible refine Mz.k_cons ?_ | with_reducible refine Mz.k_asgS ?_ | with_reducible refine Mz.k_retS ?_ | with_reducible refine Mz.k_exS ?_ | with_reducible refine Mz.x_bin ?_ | with_reducible refine Mz.x_cmp ?_ | with_reducible refine Mz.x_sub ?_ | with_reducible refine Mz.x_call ?_ | with_reducible refine Mz.x_blt ?_ | with_reducible refine Mz.x_cons ?_ | with_reducible refine Mz.x_nil ?_ | with_reducible refine Mz.x_tup ?_ | with_reducible refine Mz.x_lst ?_ | with_reducible refine Mz.x_int ?_ | with_reducible refine Mz.x_str ?_ | with_reducible refine Mz.x_bl ?_ | with_reducible refine Mz.x_non ?_ | with_reducible refine Mz.p_add ?_ | with_reducible refine Mz.p_sub ?_ | with_reducible refine Mz.p_eqI ?_ | with_reducible refine Mz.p_neI ?_ | with_reducible refine Mz.p_eqS ?_ | with_reducible refine Mz.p_neS ?_ | with_reducible refine Mz.p_lt ?_ | with_reducible refine Mz.p_le ?_ | with_reducible refine Mz.p_ge ?_ | with_reducible refine Mz.p_gt ?_ | with_reducible refine Mz.y_cmp ?_ | with_reducible refine Mz.x_fst ?_ | with_reducible refine Mz.j_cons ?_ | with_reducible refine Mz.j_nil ?_ | with_reducible refine Mz.x_fmt ?_ | with_reducible refine Mz.x_chain ?_ | with_reducible refine Mz.y_chain ?_ | with_reducible refine Mz.p_leS ?_ | with_reducible refine Mz.p_is ?_ | with_reducible refine Mz.p_isnot ?_ | with_reducible refine Mz.p_ord ?_ | with_reducible refine Mz.p_max ?_ | with_reducible refine Mz.p_min ?_ | with_reducible refine Mz.p_abs ?_ | with_reducible refine Mz.p_itT (by decide) rfl ?_ | ((with_reducible apply Mz.x_var); next => exact rfl) | with_reducible refine ⟨(by simp only [List.length_cons, List.length_nil, PySem.sizeLine_eq]; omega : (List.length _ ≤ PySem.sizeLine)), ?_⟩))
namespace Rc
open PySem PySem.Spec L2 Mz TL
variable {p : Prg} (H : Has p) {k : Nat} {S : Store}
/-! ### is_row -/
def isSgn (c : Nat) : Bool := decide (32 ≤ c) && decide (c ≤ 126)
def rowL (l : List Nat) : Bool := !l.isEmpty && l.all isSgn
theorem tl_nil {x : Str} : x = "" ↔ tl x = [] := by
  constructor
  · rintro rfl; rfl
  · intro h; exact ext_tl h
theorem lt1 {c d : Nat} : ([c] < [d]) ↔ c < d := by
  constructor
  · intro h
    cases h with
    | rel h => exact h
    | cons h => cases h
  · intro h; exact .rel h
include H in
theorem is_row_spec {x : Str} (hx : x.length ≤ 16000000) : Sat (p.run (k + 1) "is_row" [.str x] S) fun d S' => d = .bl (rowL (tl x)) ∧ Grow S S' := by
  rw [run_of H.is_row rfl, sat_runBody]; unfold t_is_row
  refine k_cons (k_retS (x_and ?_))
  walk_at "go"
  refine ⟨_, rfl, fun h => ?_, fun h => ?_⟩
  · have h : ¬ tl x = [] := by
      intro z
      rw [decide_eq_true (tl_nil.mpr z)] at h
      cases h
    refine x_blt (x_cons (x_lc (i_vS rfl ?_)))
    refine lc_signs (fun c => .bl (isSgn c)) (sz hx) (fun c S1 hc g1 => sat_ok.mpr ?_) fun S1 g1 => ?_
    · have e1 : (Str.ofString " ").cps.toList = [32] := by decide +kernel
      have e2 : (Str.ofString "~").cps.toList = [126] := by decide +kernel
      have e3 : (⟨#[c]⟩ : Str).cps.toList = [c] := rfl
      walk_at "go"
      refine ⟨_, rfl, fun h => ?_, fun h => ?_⟩
      · rw [e1, e3] at h
        have h : ¬ c < 32 := by simpa [lt1] using h
        walk_at "go"
        refine ⟨?_, .refl _⟩
        rw [e2, e3]
        unfold isSgn
        congr 1
        rw [Bool.eq_iff_iff]
        simp only [Bool.not_eq_true', decide_eq_false_iff_not, lt1, Bool.and_eq_true, decide_eq_true_eq]
        omega
      · rw [e1, e3] at h
        have h : c < 32 := by simpa [lt1] using h
        refine ⟨?_, .refl _⟩
        unfold isSgn
        rw [decide_eq_false (by omega : ¬ 32 ≤ c)]
        rfl
    · walk_at "go"
      refine p_all (bs := (tl x).map isSgn) (by rw [List.map_map]; exact new_at) ⟨?_, g1.trans .one⟩
      unfold rowL
      cases e : tl x with
      | nil => exact absurd e h
      | cons c r => simp
  · have h : tl x = [] := by
      cases e : decide (x = Str.ofString "") with
      | true => exact tl_nil.mp (of_decide_eq_true e)
      | false => rw [e] at h; cases h
    refine ⟨?_, .refl _⟩
    rw [h]
    have : decide (x = Str.ofString "") = true := decide_eq_true (tl_nil.mpr h)
    rw [this]
    rfl
/-! ### record_at -/
def cut1 (s : Nat) (l : List Nat) : List Nat × List Nat := match par [s] [] l with | some (a, b) => (a, b) | none => (l, [])
theorem tl_part {x : Str} {s : Nat} : tl (Txt.partition x ⟨#[s]⟩).1 = (cut1 s (tl x)).1 ∧ tl (Txt.partition x ⟨#[s]⟩).2.2 = (cut1 s (tl x)).2 := by
  rw [partition_par x ⟨#[s]⟩ (by simp [tl])]
  unfold cut1
  show tl (match par [s] [] (tl x) with | some (a, b) => ((⟨a.toArray⟩ : Str), (⟨#[s]⟩ : Str), (⟨b.toArray⟩ : Str)) | none => (x, Str.empty, Str.empty)).1 = _ ∧ _
  cases par [s] [] (tl x) with
  | none => exact ⟨rfl, rfl⟩
  | some ab => exact ⟨rfl, rfl⟩
theorem par_len {s : Nat} : ∀ (l acc a b : List Nat), par [s] acc l = some (a, b) → a.length + b.length + 1 = acc.length + l.length
  | [], acc, a, b, h => by cases h
  | c :: r, acc, a, b, h => by
    have h : (if pre [s] (c :: r) = true then some (acc, (c :: r).drop [s].length) else par [s] (acc ++ [c]) r) = some (a, b) := h
    split at h
    · cases h
      simp
      omega
    · have := par_len r _ _ _ h
      rw [List.length_append] at this
      simp at this ⊢
      omega
theorem cut1_len {s : Nat} {l : List Nat} : (cut1 s l).1.length ≤ l.length ∧ (cut1 s l).2.length ≤ l.length := by
  unfold cut1
  cases e : par [s] [] l with
  | none => exact ⟨Nat.le_refl _, Nat.zero_le _⟩
  | some ab =>
    obtain ⟨a, b⟩ := ab
    have := par_len l [] a b e
    simp only [List.length_nil] at this
    exact ⟨by show a.length ≤ _; omega, by show b.length ≤ _; omega⟩
def idx (t : List Nat) : Option Nat := t.findIdx? (· == 61)
def recP (t : List Nat) : Option (Nat × List (List Nat) × Nat) :=
  match idx t with
  | none => none
  | some e => match figL (cut1 32 (t.take e)).1, figL (cut1 58 (cut1 32 (t.take e)).2).1, figL (cut1 58 (cut1 32 (t.take e)).2).2 with
    | some n, some L, some c =>
      if (t.drop (e + 1 + L)).take 1 ≠ [10] then none
      else if (spl [10] 0 [] ((t.drop (e + 1)).take L)).all rowL = false then none
      else if chkL ((cut1 32 (t.take e)).1 ++ [32] ++ (cut1 58 (cut1 32 (t.take e)).2).1 ++ [58] ++ (t.drop (e + 1)).take L) ≠ c then none
      else some (n, spl [10] 0 [] ((t.drop (e + 1)).take L), e + 1 + L + 1)
    | _, _, _ => none
def endI (a : Nat) (t : List Nat) : Int := match idx t with | some e => ((a + e : Nat) : Int) | none => -1
theorem find_idx {x : Str} {a : Nat} (ha : a ≤ x.length) : Txt.find3 x ⟨#[61]⟩ (a : Int) = endI a ((tl x).drop a) := by
  unfold endI
  have hl := len_tl x
  have fi : fromIndex x.length (a : Int) = a := by
    unfold fromIndex
    rw [if_neg (by omega)]
    omega
  have gd : ∀ v, v < x.length → x.cps.getD v 0 = (tl x)[v]! := by
    intro v hv
    rw [getElem!_pos (tl x) v (by omega)]
    have hv2 : v < x.cps.size := hv
    rw [Array.getD_eq_getD_getElem?, Array.getElem?_eq_getElem hv2]
    simp [tl]
  rcases StrLaws.find3_spec x 61 (a : Int) with ⟨h1, h2⟩ | ⟨k, h1, h2, h3, h4, h5⟩
  · rw [h1]
    rw [fi] at h2
    have : idx ((tl x).drop a) = none := by
      unfold idx
      rw [List.findIdx?_eq_none_iff]
      intro c hc
      obtain ⟨i, hi, rfl⟩ := List.getElem_of_mem hc
      rw [List.length_drop] at hi
      rw [List.getElem_drop]
      have := h2 (a + i) (by omega) (by omega)
      rw [gd _ (by omega), getElem!_pos (tl x) _ (by omega)] at this
      simpa using this
    rw [this]
  · rw [h1]
    rw [fi] at h2 h5
    have : idx ((tl x).drop a) = some (k - a) := by
      unfold idx
      rw [List.findIdx?_eq_some_iff_getElem]
      refine ⟨by rw [List.length_drop]; omega, ?_, fun j hj => ?_⟩
      · rw [List.getElem_drop]
        rw [gd _ h3, getElem!_pos (tl x) _ (by omega)] at h4
        have e : a + (k - a) = k := by omega
        simp only [e, h4]
        rfl
      · rw [List.getElem_drop]
        have := h5 (a + j) (by omega) (by omega)
        rw [gd _ (by omega), getElem!_pos (tl x) _ (by omega)] at this
        simpa using this
    rw [this]
    show (k : Int) = ((a + (k - a) : Nat) : Int)
    omega
end Rc

end

section
set_option Elab.async false
set_option linter.all false
set_option maxRecDepth 100000
set_option maxHeartbeats 4000000
local macro_rules | `(tactic| walk_at "go") => `(tactic| repeat (first | with_reducible refine Mz.k_cons ?_ | with_reducible refine Mz.k_asgS ?_ | with_reducible refine Mz.k_retS ?_ | with_reducible refine Mz.k_exS ?_ | with_reducible refine Mz.x_bin ?_ | with_reducible refine Mz.x_cmp ?_ | with_reducible refine Mz.x_sub ?_ | with_reducible refine Mz.x_call ?_ | with_reducible refine Mz.x_blt ?_ | with_reducible refine Mz.x_cons ?_ | with_reducible refine Mz.x_nil ?_ | with_reducible refine Mz.x_tup ?_ | with_reducible refine Mz.x_lst ?_ | with_reducible refine Mz.x_int ?_ | with_reducible refine Mz.x_str ?_ | with_reducible refine Mz.x_bl ?_ | with_reducible refine Mz.x_non ?_ | with_reducible refine Mz.p_add ?_ | with_reducible refine Mz.p_sub ?_ | with_reducible refine Mz.p_eqI ?_ | with_reducible refine Mz.p_neI ?_ | with_reducible refine Mz.p_eqS ?_ | with_reducible refine Mz.p_neS ?_ | with_reducible refine Mz.p_lt ?_ | with_reducible refine Mz.p_le ?_ | with_reducible refine Mz.p_ge ?_ | with_reducible refine Mz.p_gt ?_ | with_reducible refine Mz.y_cmp ?_ | with_reducible refine Mz.x_fst ?_ | with_reducible refine Mz.j_cons ?_ | with_reducible refine Mz.j_nil ?_ | with_reducible refine Mz.x_fmt ?_ | with_reducible refine Mz.x_chain ?_ | with_reducible refine Mz.y_chain ?_ | with_reducible refine Mz.p_leS ?_ | with_reducible refine Mz.p_is ?_ | with_reducible refine Mz.p_isnot ?_ | with_reducible refine Mz.p_ord ?_ | with_reducible refine Mz.p_max ?_ | with_reducible refine Mz.p_min ?_ | with_reducible refine Mz.p_abs ?_ | with_reducible refine Mz.p_itT (by decide) rfl ?_ | simp only [List.set_cons_zero, List.set_cons_succ] | ((with_reducible apply Mz.x_var); next => exact rfl) | with_reducible refine ⟨(by simp only [List.length_cons, List.length_nil, PySem.sizeLine_eq]; omega : (List.length _ ≤ PySem.sizeLine)), ?_⟩))
local macro_rules | `(tactic| walk_at "st") => `(tactic| simp only [Mz.startG, List.map_cons, List.map_nil, List.length_cons, List.length_nil, Nat.reduceAdd, Nat.reduceSub, List.replicate, List.cons_append, List.nil_append, Nat.zero_add])
namespace Rc
open PySem PySem.Spec L2 Mz TL
variable {p : Prg} (H : Has p) {k : Nat} {S : Store}
theorem spl_sum (Z : List Nat) : ∀ (l : List Nat) (k : Nat) (acc : List Nat), ((spl Z k acc l).map List.length).sum ≤ acc.length + l.length
  | [], k, acc => by rw [spl_nil]; simp
  | c :: r, 0, acc => by
    show ((if pre Z (c :: r) = true then acc :: spl Z (Z.length - 1) [] r else spl Z 0 (acc ++ [c]) r).map List.length).sum ≤ _
    split
    · have := spl_sum Z r (Z.length - 1) []
      simp at this ⊢
      omega
    · have := spl_sum Z r 0 (acc ++ [c])
      simp at this ⊢
      omega
  | c :: r, k + 1, acc => by
    have := spl_sum Z r k acc
    show ((spl Z k acc r).map List.length).sum ≤ _
    simp at this ⊢
    omega
theorem spl_cnt (Z : List Nat) : ∀ (l : List Nat) (k : Nat) (acc : List Nat), (spl Z k acc l).length ≤ l.length + 1
  | [], k, acc => by rw [spl_nil]; simp
  | c :: r, 0, acc => by
    show (if pre Z (c :: r) = true then acc :: spl Z (Z.length - 1) [] r else spl Z 0 (acc ++ [c]) r).length ≤ _
    split
    · have := spl_cnt Z r (Z.length - 1) []
      simp at this ⊢
      omega
    · have := spl_cnt Z r 0 (acc ++ [c])
      simp at this ⊢
      omega
  | c :: r, k + 1, acc => by
    have := spl_cnt Z r k acc
    show (spl Z k acc r).length ≤ _
    simp at this ⊢
    omega
theorem mem_sum : ∀ {xs : List (List Nat)} {x : List Nat}, x ∈ xs → x.length ≤ (xs.map List.length).sum
  | y :: ys, x, h => by
    rcases List.mem_cons.mp h with rfl | h
    · simp
    · have := mem_sum h
      simp
      omega
theorem grow_le {S S' : Store} (g : Grow S S') : S.length ≤ S'.length := by
  obtain ⟨r, rfl⟩ := g
  simp
/-- what a reading is as a value -/
def recD (lo a : Nat) (d : D) (S : Store) : Option (Nat × List (List Nat) × Nat) → Prop
  | none => d = .non
  | some (n, rows, len) => ∃ (r : Nat) (ys : List Str), d = .tup [.int (n : Int), .loc r, .int ((a + len : Nat) : Int)] ∧ lo ≤ r ∧ S[r]? = some (.lst (ys.map .str)) ∧ ys.map tl = rows
def rowD : D → D
  | .str r => .bl (rowL (tl r))
  | _ => .non
theorem optD_flat (o : Option Nat) : flatD (optD o) = true := by cases o <;> rfl
theorem optD_non (o : Option Nat) : eqF (optD o) .non = o.isNone := by cases o <;> rfl
include H in
theorem record_at_spec {x : Str} (hx : x.length ≤ 1000000) {a : Nat} (ha : a ≤ x.length) : Sat (p.run (k + 2) "record_at" [.str x, .int (a : Int)] S) fun d S' => Grow S S' ∧ recD S.length a d S' (recP ((tl x).drop a)) := by
  rw [run_of H.record_at rfl, sat_runBody]; unfold t_record_at
  walk_at "st"
  have hl := len_tl x
  have e61 : Str.ofString "=" = (⟨#[61]⟩ : Str) := by decide +kernel
  have e32 : Str.ofString " " = (⟨#[32]⟩ : Str) := by decide +kernel
  have e58 : Str.ofString ":" = (⟨#[58]⟩ : Str) := by decide +kernel
  have e10 : Str.ofString "\n" = (⟨#[10]⟩ : Str) := by decide +kernel
  generalize ht : (tl x).drop a = t
  have tl_le : t.length ≤ 1000000 := by rw [← ht, List.length_drop]; omega
  walk_at "go"
  refine x_mth ?_
  walk_at "go"
  refine ⟨rfl, ?_⟩
  walk_at "go"
  refine p_find2 ?_
  rw [e61, find_idx ha, ht]
  -- where the head ends
  obtain ⟨en, m, he, hm, hi⟩ : ∃ (en : Int) (m : Nat), endI a t = en ∧ (if en > (a : Int) then en else (a : Int)) = ((a + m : Nat) : Int) ∧ ((∃ e, idx t = some e ∧ m = e ∧ en = ((a + e : Nat) : Int)) ∨ (idx t = none ∧ m = 0)) := by
    unfold endI
    cases h0 : idx t with
    | none => exact ⟨-1, 0, rfl, by rw [if_neg (by omega)]; rfl, .inr ⟨rfl, rfl⟩⟩
    | some e => exact ⟨((a + e : Nat) : Int), e, rfl, by split <;> omega, .inl ⟨e, rfl, rfl, rfl⟩⟩
  rw [he]
  refine k_cons (k_asgT3 (x_mth (x_sli rfl rfl ?_)))
  walk_at "go"
  refine ⟨_, rfl, ?_⟩
  walk_at "go"
  rw [hm]
  refine ⟨_, rfl, p_cutS (sz (by omega)) ⟨rfl, ?_⟩⟩
  have th : tl (cutS x (some (a : Int)) (some ((a + m : Nat) : Int))) = t.take m := by
    rw [tl_cut, ht]
    congr 1
    omega
  generalize cutS x (some (a : Int)) (some ((a + m : Nat) : Int)) = h at th
  have hh : h.length ≤ 1000000 := by rw [len_tl, th, List.length_take]; omega
  walk_at "go"
  rw [e32]
  refine p_part (by decide) (sz (by omega)) ⟨_, _, _, rfl, ?_⟩
  obtain ⟨n1, n2⟩ := tl_part (x := h) (s := 32)
  have b1 : (Txt.partition h ⟨#[32]⟩).1.length ≤ h.length := by rw [len_tl, n1, len_tl h]; exact cut1_len.1
  have b2 : (Txt.partition h ⟨#[32]⟩).2.2.length ≤ h.length := by rw [len_tl, n2, len_tl h]; exact cut1_len.2
  generalize (Txt.partition h ⟨#[32]⟩).1 = num at *
  generalize (Txt.partition h ⟨#[32]⟩).2.1 = bl at *
  generalize (Txt.partition h ⟨#[32]⟩).2.2 = rest at *
  refine k_cons (k_asgT3 (x_mth ?_))
  walk_at "go"
  refine ⟨rfl, ?_⟩
  walk_at "go"
  rw [e58]
  refine p_part (by decide) (sz (by omega)) ⟨_, _, _, rfl, ?_⟩
  obtain ⟨n3, n4⟩ := tl_part (x := rest) (s := 58)
  have b3 : (Txt.partition rest ⟨#[58]⟩).1.length ≤ rest.length := by rw [len_tl, n3, len_tl rest]; exact cut1_len.1
  have b4 : (Txt.partition rest ⟨#[58]⟩).2.2.length ≤ rest.length := by rw [len_tl, n4, len_tl rest]; exact cut1_len.2
  generalize (Txt.partition rest ⟨#[58]⟩).1 = len at *
  generalize (Txt.partition rest ⟨#[58]⟩).2.1 = col at *
  generalize (Txt.partition rest ⟨#[58]⟩).2.2 = chk at *
  walk_at "go"
  refine (figured_spec H (by omega)).mono fun d1 S1 h1 => ?_
  obtain ⟨rfl, g1⟩ := h1
  walk_at "go"
  refine (figured_spec H (by omega)).mono fun d2 S2 h2 => ?_
  obtain ⟨rfl, g2⟩ := h2
  walk_at "go"
  refine (figured_spec H (by omega)).mono fun d3 S3 h3 => ?_
  obtain ⟨rfl, g3⟩ := h3
  walk_at "go"
  have gr := ((g1.trans g2).trans g3).trans (Grow.one (c := [Cell.lst [optD (figL (tl num)), optD (figL (tl len)), optD (figL (tl chk))]]))
  refine k_ifS ?_
  walk_at "go"
  refine p_inL new_at rfl (by simp [optD_flat]) (fun x h => by cases h) ⟨_, rfl, fun hb => ?_, fun hb => k_nil ?_⟩
  · -- one is no number
    walk_at "go"
    refine ⟨gr, ?_⟩
    have hb : ((figL (tl num)).isNone || ((figL (tl len)).isNone || ((figL (tl chk)).isNone || false))) = true := by simpa [optD_non] using hb
    have none3 : recP t = none := by
      unfold recP
      rcases hi with ⟨e, he1, rfl, he2⟩ | ⟨he1, rfl⟩
      · rw [he1]
        show (match figL (cut1 32 (t.take m)).1, figL (cut1 58 (cut1 32 (t.take m)).2).1, figL (cut1 58 (cut1 32 (t.take m)).2).2 with | some n, some L, some c => _ | _, _, _ => none) = none
        rw [← th, ← n1, ← n2, ← n3, ← n4]
        cases h1 : figL (tl num) with
        | none => rfl
        | some n =>
          cases h2 : figL (tl len) with
          | none => rfl
          | some L =>
            cases h3 : figL (tl chk) with
            | none => rfl
            | some c => rw [h1, h2, h3] at hb; cases hb
      · rw [he1]
    rw [none3]
    rfl
  have hb : ((figL (tl num)).isNone || ((figL (tl len)).isNone || ((figL (tl chk)).isNone || false))) = false := by simpa [optD_non] using hb
  -- all three are numbers
  obtain ⟨e, he1, rfl, rfl⟩ : ∃ e, idx t = some e ∧ m = e ∧ en = ((a + e : Nat) : Int) := by
    rcases hi with h | ⟨he1, rfl⟩
    · exact h
    · exfalso
      have z : tl num = [] := by rw [n1, th, List.take_zero]; rfl
      rw [z] at hb
      cases hb
  obtain ⟨n, f1⟩ : ∃ n, figL (tl num) = some n := by
    cases h1 : figL (tl num) with
    | none => rw [h1] at hb; cases hb
    | some n => exact ⟨n, rfl⟩
  obtain ⟨L, f2⟩ : ∃ n, figL (tl len) = some n := by
    cases h1 : figL (tl len) with
    | none => rw [h1, f1] at hb; cases hb
    | some n => exact ⟨n, rfl⟩
  obtain ⟨c, f3⟩ : ∃ n, figL (tl chk) = some n := by
    cases h1 : figL (tl chk) with
    | none => rw [h1, f1, f2] at hb; cases hb
    | some n => exact ⟨n, rfl⟩
  have rp : recP t = if (t.drop (m + 1 + L)).take 1 ≠ [10] then none
      else if (spl [10] 0 [] ((t.drop (m + 1)).take L)).all rowL = false then none
      else if chkL (tl num ++ [32] ++ tl len ++ [58] ++ (t.drop (m + 1)).take L) ≠ c then none
      else some (n, spl [10] 0 [] ((t.drop (m + 1)).take L), m + 1 + L + 1) := by
    unfold recP
    rw [he1]
    show (match figL (cut1 32 (t.take m)).1, figL (cut1 58 (cut1 32 (t.take m)).2).1, figL (cut1 58 (cut1 32 (t.take m)).2).2 with | some n, some L, some c => _ | _, _, _ => none) = _
    rw [← th, ← n1, ← n2, ← n3, ← n4, f1, f2, f3]
  rw [f1, f2, f3] at gr ⊢
  refine k_cons (k_par ?_)
  walk_at "go"
  refine p_itL new_at (by decide) rfl ?_
  walk_at "go"
  refine ⟨_, _, rfl, ?_⟩
  have c1 : ((a + m : Nat) : Int) + 1 = ((a + m + 1 : Nat) : Int) := by omega
  rw [show optD (some L) = .int (L : Int) from rfl]
  have c2 : ((a + m : Nat) : Int) + 1 + (L : Int) = ((a + m + 1 + L : Nat) : Int) := by omega
  rw [c2, c1]
  refine k_cons (k_asgS (x_sli rfl rfl ?_))
  walk_at "go"
  refine ⟨_, rfl, ?_⟩
  walk_at "go"
  refine ⟨_, rfl, p_cutS (sz (by omega)) ?_⟩
  have tb : tl (cutS x (some ((a + m + 1 : Nat) : Int)) (some ((a + m + 1 + L : Nat) : Int))) = (t.drop (m + 1)).take L := by
    rw [tl_cut, ← ht, List.drop_drop]
    congr 1
    omega
  generalize cutS x (some ((a + m + 1 : Nat) : Int)) (some ((a + m + 1 + L : Nat) : Int)) = body at tb
  have hbody : body.length ≤ 1000000 := by rw [len_tl, tb, List.length_take, List.length_drop]; omega
  refine k_cons (k_asgS (x_mth ?_))
  walk_at "go"
  refine ⟨rfl, ?_⟩
  walk_at "go"
  refine p_split (by decide +kernel) (sz (by omega)) ?_
  have ty : tl (Str.ofString "\n") = [10] := by decide +kernel
  have sp := split_spl body "\n" (by rw [ty]; simp) (kind_ok (by decide +kernel))
  rw [ty, tb] at sp
  generalize Txt.split body (Str.ofString "\n") = ys at sp
  generalize hS4 : S3 ++ [Cell.lst [optD (some n), D.int (L : Int), optD (some c)]] = S4
  have at3 : S4[S3.length]? = some (Cell.lst [optD (some n), D.int (L : Int), optD (some c)]) := by rw [← hS4]; exact new_at
  have gr : Grow S S4 := by rw [← hS4]; exact gr
  have yl : ∀ y ∈ ys, y.length ≤ 1000000 := by
    intro y hy
    have h1 := spl_sum [10] ((t.drop (m + 1)).take L) 0 []
    rw [← sp] at h1
    have h2 := mem_sum (List.mem_map_of_mem (f := tl) hy)
    rw [len_tl]
    rw [List.length_take, List.length_drop, List.length_nil] at h1
    omega
  have yn : ys.length ≤ 1000001 := by
    have h1 := spl_cnt [10] ((t.drop (m + 1)).take L) 0 []
    rw [← sp, List.length_map, List.length_take, List.length_drop] at h1
    omega
  refine k_cons (k_ifS (y_or ?_))
  refine y_cmp (x_sli rfl rfl ?_)
  walk_at "go"
  refine ⟨_, rfl, ?_⟩
  walk_at "go"
  have c3 : ((a + m + 1 + L : Nat) : Int) + 1 = ((a + m + 1 + L + 1 : Nat) : Int) := by omega
  rw [c3]
  refine ⟨_, rfl, p_cutS (sz (by omega)) ?_⟩
  have tf : tl (cutS x (some ((a + m + 1 + L : Nat) : Int)) (some ((a + m + 1 + L + 1 : Nat) : Int))) = (t.drop (m + 1 + L)).take 1 := by
    rw [tl_cut, ← ht, List.drop_drop]
    congr 1
    · omega
    · congr 1
      omega
  generalize cutS x (some ((a + m + 1 + L : Nat) : Int)) (some ((a + m + 1 + L + 1 : Nat) : Int)) = nl at tf
  walk_at "go"
  refine ⟨_, rfl, fun h1 => ⟨fun _ => ?_, fun h => by cases h⟩, fun h1 => ?_⟩
  · -- no line feed behind
    walk_at "go"
    refine ⟨gr.trans .one, ?_⟩
    have z : (t.drop (m + 1 + L)).take 1 ≠ [10] := by
      intro z
      rw [← tf, ← ty] at z
      rw [decide_eq_true (ext_tl z)] at h1
      cases h1
    rw [rp, if_pos z]
    rfl
  have z1 : ¬ (t.drop (m + 1 + L)).take 1 ≠ [10] := by
    intro z
    have : ¬ nl = Str.ofString "\n" := fun e => z (by rw [← tf, e, ty])
    rw [decide_eq_false this] at h1
    cases h1
  rw [if_neg z1] at rp
  refine y_not (y_blt (x_cons (x_lc (i_vL rfl new_at ?_))))
  refine lc_cell (xs := ys.map D.str) rowD new_at (by rw [List.length_map]; exact sz (by omega)) (fun d S5 hd g5 => sat_ok.mpr ?_) fun S5 g5 => ?_
  · have hd := List.mem_map.mp hd
    obtain ⟨y, hy, rfl⟩ := hd
    have := yl y hy
    walk_at "go"
    exact is_row_spec H (by omega)
  walk_at "go"
  refine p_all (bs := ys.map fun y => rowL (tl y)) (by rw [List.map_map, List.map_map]; exact new_at) ⟨_, rfl, ?_⟩
  have ea : ((ys.map fun y => rowL (tl y)).all id) = (spl [10] 0 [] ((t.drop (m + 1)).take L)).all rowL := by
    rw [← sp, List.all_map, List.all_map]
    rfl
  rw [ea]
  have gr5 : Grow S (S5 ++ [Cell.lst (List.map rowD (List.map D.str ys))]) := ((gr.trans .one).trans g5).trans .one
  have aty : (S5 ++ [Cell.lst (List.map rowD (List.map D.str ys))])[S4.length]? = some (Cell.lst (List.map D.str ys)) := app_at (g5.at new_at)
  have atf : (S5 ++ [Cell.lst (List.map rowD (List.map D.str ys))])[S3.length]? = some (Cell.lst [optD (some n), D.int (L : Int), optD (some c)]) := app_at (g5.at (app_at at3))
  generalize S5 ++ [Cell.lst (List.map rowD (List.map D.str ys))] = S6 at gr5 aty atf ⊢
  refine ⟨fun h2 => ?_, fun h2 => k_nil ?_⟩
  · walk_at "go"
    refine ⟨gr5, ?_⟩
    have h2 : (spl [10] 0 [] ((t.drop (m + 1)).take L)).all rowL = false := by simpa using h2
    rw [rp, if_pos h2]
    rfl
  have h2 : ¬ (spl [10] 0 [] ((t.drop (m + 1)).take L)).all rowL = false := by
    intro z
    rw [z] at h2
    cases h2
  rw [if_neg h2] at rp
  have nl1 : num.length ≤ 1000000 := by omega
  have l32 : (⟨#[32]⟩ : Str).length = 1 := rfl
  have l58 : (⟨#[58]⟩ : Str).length = 1 := rfl
  walk_at "go"
  refine k_ifS ?_
  walk_at "go"
  refine p_fmtS (sz (by omega)) ⟨_, rfl, sz (by rw [str_empty]; omega), ?_⟩
  walk_at "go"
  refine ⟨_, rfl, sz (by rw [str_empty, str_len]; omega), ?_⟩
  walk_at "go"
  refine p_fmtS (sz (by omega)) ⟨_, rfl, sz (by rw [str_empty, str_len, str_len]; omega), ?_⟩
  walk_at "go"
  refine ⟨_, rfl, sz (by rw [str_empty, str_len, str_len, str_len]; omega), ?_⟩
  walk_at "go"
  refine p_fmtS (sz (by omega)) ⟨_, rfl, sz (by rw [str_empty, str_len, str_len, str_len, str_len]; omega), ?_⟩
  walk_at "go"
  refine (check_spec H _).mono fun d7 S7 h7 => ?_
  obtain ⟨rfl, rfl⟩ := h7
  have et : tl (Str.empty ++ num ++ ⟨#[32]⟩ ++ len ++ ⟨#[58]⟩ ++ body) = tl num ++ [32] ++ tl len ++ [58] ++ (t.drop (m + 1)).take L := by
    rw [str_empty, tl_append, tl_append, tl_append, tl_append, tb]
  rw [et]
  walk_at "go"
  refine p_itL atf (by decide) rfl ?_
  rw [show optD (some c) = .int (c : Int) from rfl]
  walk_at "go"
  refine ⟨_, rfl, fun h3 => ?_, fun h3 => k_nil ?_⟩
  · walk_at "go"
    refine ⟨gr5, ?_⟩
    have h3 : chkL (tl num ++ [32] ++ tl len ++ [58] ++ (t.drop (m + 1)).take L) ≠ c := by simpa using h3
    rw [rp, if_pos h3]
    rfl
  have h3 : ¬ chkL (tl num ++ [32] ++ tl len ++ [58] ++ (t.drop (m + 1)).take L) ≠ c := by
    intro z
    rw [decide_eq_false z] at h3
    cases h3
  rw [if_neg h3] at rp
  walk_at "go"
  refine p_itL atf (by decide) rfl ?_
  walk_at "go"
  refine ⟨gr5, ?_⟩
  rw [rp]
  exact ⟨S4.length, ys, by rw [c3, show a + (m + 1 + L + 1) = a + m + 1 + L + 1 by omega]; rfl, grow_le gr, aty, sp⟩
end Rc

end

section
set_option Elab.async false
set_option linter.all false
set_option maxRecDepth 100000
set_option maxHeartbeats 4000000
local macro_rules | `(tactic| walk_at "go") => `(tactic| repeat (first | with_reducible refine Mz.k_cons ?_ | with_reducible refine Mz.k_asgS ?_ | with_reducible refine Mz.k_retS ?_ | with_reducible refine Mz.k_exS ?_ | with_reducible refine Mz.x_bin ?_ | with_reducible refine Mz.x_cmp ?_ | with_reducible refine Mz.x_sub ?_ | with_reducible refine Mz.x_call ?_ | with_reducible refine Mz.x_blt ?_ | with_reducible refine Mz.x_cons ?_ | with_reducible refine Mz.x_nil ?_ | with_reducible refine Mz.x_tup ?_ | with_reducible refine Mz.x_lst ?_ | with_reducible refine Mz.x_int ?_ | with_reducible refine Mz.x_str ?_ | with_reducible refine Mz.x_bl ?_ | with_reducible refine Mz.x_non ?_ | with_reducible refine Mz.p_add ?_ | with_reducible refine Mz.p_sub ?_ | with_reducible refine Mz.p_eqI ?_ | with_reducible refine Mz.p_neI ?_ | with_reducible refine Mz.p_eqS ?_ | with_reducible refine Mz.p_neS ?_ | with_reducible refine Mz.p_lt ?_ | with_reducible refine Mz.p_le ?_ | with_reducible refine Mz.p_ge ?_ | with_reducible refine Mz.p_gt ?_ | with_reducible refine Mz.y_cmp ?_ | with_reducible refine Mz.x_fst ?_ | with_reducible refine Mz.j_cons ?_ | with_reducible refine Mz.j_nil ?_ | with_reducible refine Mz.x_fmt ?_ | with_reducible refine Mz.x_chain ?_ | with_reducible refine Mz.y_chain ?_ | with_reducible refine Mz.p_leS ?_ | with_reducible refine Mz.p_is ?_ | with_reducible refine Mz.p_isnot ?_ | with_reducible refine Mz.p_ord ?_ | with_reducible refine Mz.p_max ?_ | with_reducible refine Mz.p_min ?_ | with_reducible refine Mz.p_abs ?_ | with_reducible refine Mz.p_itT (by decide) rfl ?_ | simp only [List.set_cons_zero, List.set_cons_succ] | ((with_reducible apply Mz.x_var); next => exact rfl) | with_reducible refine ⟨(by simp only [List.length_cons, List.length_nil, PySem.sizeLine_eq]; omega : (List.length _ ≤ PySem.sizeLine)), ?_⟩))
local macro_rules | `(tactic| walk_at "st") => `(tactic| simp only [Mz.startG, List.map_cons, List.map_nil, List.length_cons, List.length_nil, Nat.reduceAdd, Nat.reduceSub, List.replicate, List.cons_append, List.nil_append, Nat.zero_add])
namespace Rc
open PySem PySem.Spec L2 Mz TL
variable {p : Prg} (H : Has p) {k : Nat} {S : Store}
theorem nb {r : R} {N B C : Sg → Store → Prop} {Rt : D → Store → Prop} (h : SatR r N Rt (fun _ _ => False) C) : SatR r N Rt B C := by
  cases r <;> first | exact h | exact h.elim
theorem recP_len {t : List Nat} {n len : Nat} {rows : List (List Nat)} (h : recP t = some (n, rows, len)) : 2 ≤ len ∧ len ≤ t.length := by
  unfold recP at h
  split at h
  · cases h
  · rename_i e he
    split at h
    · rename_i n' L c _ _ _
      split at h
      · cases h
      · rename_i h1
        split at h
        · cases h
        · split at h
          · cases h
          · cases h
            have h1 : (t.drop (e + 1 + L)).take 1 = [10] := Decidable.not_not.mp h1
            have := congrArg List.length h1
            rw [List.length_take, List.length_drop] at this
            simp at this
            omega
    · cases h
/-- on from a number: what is read -/
inductive Reads : List Nat → Nat → List (List (List Nat)) → Nat → Prop
  | stop (t : List Nat) (e : Nat) : (∀ n rows len, recP t = some (n, rows, len) → n ≠ e) → Reads t e [] 0
  | step {t : List Nat} {e len l : Nat} {rows : List (List Nat)} {rs : List (List (List Nat))} : recP t = some (e, rows, len) → Reads (t.drop len) (e + 1) rs l → Reads t e (rows :: rs) (len + l)
inductive ParP (t : List Nat) : Option Nat → List (List (List Nat)) → Nat → Prop
  | none : recP t = none → ParP t none [] 0
  | some {n len l : Nat} {rows : List (List Nat)} {rs : List (List (List Nat))} : recP t = some (n, rows, len) → Reads (t.drop len) (n + 1) rs l → ParP t (some n) (rows :: rs) (len + l)
theorem Reads.det {t : List Nat} {e : Nat} {rs : List (List (List Nat))} {l : Nat} (h : Reads t e rs l) : ∀ {rs' l'}, Reads t e rs' l' → rs = rs' ∧ l = l' := by
  induction h with
  | stop t e h =>
    intro rs' l' h'
    cases h' with
    | stop => exact ⟨rfl, rfl⟩
    | step h1 _ => exact absurd rfl (h _ _ _ h1)
  | step h1 h2 ih =>
    intro rs' l' h'
    cases h' with
    | stop _ _ h => exact absurd rfl (h _ _ _ h1)
    | step h3 h4 =>
      rw [h1] at h3
      cases h3
      obtain ⟨rfl, rfl⟩ := ih h4
      exact ⟨rfl, rfl⟩
theorem ParP.det {t : List Nat} {o o' : Option Nat} {rs rs' : List (List (List Nat))} {l l' : Nat} (h : ParP t o rs l) (h' : ParP t o' rs' l') : o = o' ∧ rs = rs' ∧ l = l' := by
  cases h with
  | none h1 =>
    cases h' with
    | none => exact ⟨rfl, rfl, rfl⟩
    | some h2 _ => rw [h1] at h2; cases h2
  | some h1 h2 =>
    cases h' with
    | none h3 => rw [h1] at h3; cases h3
    | some h3 h4 =>
      rw [h1] at h3
      cases h3
      obtain ⟨rfl, rfl⟩ := h2.det h4
      exact ⟨rfl, rfl, rfl⟩
/-- pairwise -/
inductive All2 {α β : Type} (R : α → β → Prop) : List α → List β → Prop
  | nil : All2 R [] []
  | cons {a : α} {b : β} {as : List α} {bs : List β} : R a b → All2 R as bs → All2 R (a :: as) (b :: bs)
theorem All2.imp {α β : Type} {R R' : α → β → Prop} {as : List α} {bs : List β} (h : All2 R as bs) (i : ∀ a b, R a b → R' a b) : All2 R' as bs := by
  induction h with
  | nil => exact .nil
  | cons h _ ih => exact .cons (i _ _ h) ih
theorem All2.len {α β : Type} {R : α → β → Prop} {as : List α} {bs : List β} (h : All2 R as bs) : as.length = bs.length := by
  induction h with
  | nil => rfl
  | cons _ _ ih => simp [ih]
theorem All2.snoc {α β : Type} {R : α → β → Prop} {as : List α} {bs : List β} {a : α} {b : β} (h : All2 R as bs) (h2 : R a b) : All2 R (as ++ [a]) (bs ++ [b]) := by
  induction h with
  | nil => exact .cons h2 .nil
  | cons h _ ih => exact .cons h ih
def RowsAt (S : Store) (a : Nat) (rows : List (List Nat)) : Prop := ∃ ys : List Str, S[a]? = some (.lst (ys.map .str)) ∧ ys.map tl = rows
structure Cells (S : Store) (lo r : Nat) (recs : List (List (List Nat))) : Prop where
  ge : lo ≤ r
  at_ : ∃ as : List Nat, S[r]? = some (.lst (as.map .loc)) ∧ All2 (fun a rows => lo ≤ a ∧ a ≠ r ∧ RowsAt S a rows) as recs
theorem Cells.grow {S S' : Store} {lo r : Nat} {recs : List (List (List Nat))} (h : Cells S lo r recs) (g : Grow S S') : Cells S' lo r recs := by
  obtain ⟨as, e, a⟩ := h.at_
  refine ⟨h.ge, as, g.at e, a.imp fun b rows q => ⟨q.1, q.2.1, ?_⟩⟩
  obtain ⟨ys, e, z⟩ := q.2.2
  exact ⟨ys, g.at e, z⟩
include H in
theorem parsed_spec {x : Str} (hx : x.length ≤ 900000) : Sat (p.run (k + 3) "parsed" [.str x] S) fun d S' => Grow S S' ∧ ∃ (r l : Nat) (o : Option Nat) (rs : List (List (List Nat))), d = .tup [optD o, .loc r, .int (l : Int)] ∧ ParP (tl x) o rs l ∧ Cells S' S.length r rs := by
  rw [run_of H.parsed rfl, sat_runBody]; unfold t_parsed
  walk_at "st"
  have hl := len_tl x
  walk_at "go"
  refine (record_at_spec H (a := 0) (by omega) (Nat.zero_le _)).mono fun d1 S1 h1 => ?_
  obtain ⟨g1, r1⟩ := h1
  rw [List.length_append] at r1
  walk_at "go"
  refine k_whl (wloop_inv (P := fun m g S' => ∃ (a : Nat) (d : D) (o : Option Nat) (rs : List (List (List Nat))) (v5 v6 : Option D), m = x.length - a ∧ a ≤ x.length ∧ rs.length ≤ a ∧ g = [some (.str x), some (optD o), some (.loc S.length), some (.int (a : Int)), some d, v5, v6] ∧ Grow S S' ∧ Cells S' S.length S.length rs ∧ recD (S.length + 1) a d S' (recP ((tl x).drop a)) ∧ ((o = none ∧ rs = [] ∧ a = 0) ∨ (∃ n0, o = some n0 ∧ ∀ rs' l, Reads ((tl x).drop a) (n0 + rs.length) rs' l → ParP (tl x) (some n0) (rs ++ rs') (a + l)))) (fun m g S' q => ?_) _ (x.length - 0) _ _ (by omega) ?_)
  · obtain ⟨a, d, o, rs, v5, v6, rfl, ha, hr, rfl, gr, ce, rc, hist⟩ := q
    have hle : ((tl x).drop a).length ≤ x.length - a := by rw [List.length_drop]; omega
    obtain ⟨as, eas, all⟩ := ce.at_
    -- the loop ends
    have ends : (∀ n rows len, recP ((tl x).drop a) = some (n, rows, len) → o ≠ none ∧ ∀ n0, o = some n0 → n ≠ n0 + rs.length) → SatR ((sem (p.env (p.run (k + 2))) (.cons (.ret (.tup (.cons (.var 1) (.cons (.var 2) (.cons (.var 3) .nil))))) .nil)).b [some (.str x), some (optD o), some (.loc S.length), some (.int (a : Int)), some d, v5, v6] S') (fun _ S' => Grow S S' ∧ ∃ (r l : Nat) (o : Option Nat) (rs : List (List (List Nat))), D.non = .tup [optD o, .loc r, .int (l : Int)] ∧ ParP (tl x) o rs l ∧ Cells S' S.length r rs) (fun d S' => Grow S S' ∧ ∃ (r l : Nat) (o : Option Nat) (rs : List (List (List Nat))), d = .tup [optD o, .loc r, .int (l : Int)] ∧ ParP (tl x) o rs l ∧ Cells S' S.length r rs) (fun _ _ => False) (fun _ _ => False) := by
      intro h
      walk_at "go"
      refine ⟨gr, S.length, a, o, rs, rfl, ?_, ce⟩
      rcases hist with ⟨rfl, rfl, rfl⟩ | ⟨n0, rfl, hist⟩
      · refine .none ?_
        cases e : recP ((tl x).drop 0) with
        | none => exact e
        | some q => exact absurd rfl (h q.1 q.2.1 q.2.2 e).1
      · have := hist [] 0 (.stop _ _ fun n rows len e => (h n rows len e).2 n0 rfl)
        rwa [List.append_nil, Nat.add_zero] at this
    have lt0 : S.length < S'.length := lt_of eas
    have body : ∀ n rows len, recP ((tl x).drop a) = some (n, rows, len) → (o = none ∨ ∃ n0, o = some n0 ∧ n = n0 + rs.length) → SatR ((sem (p.env (p.run (k + 2))) (.cons (.asg (.tup (.cons (.var 5) (.cons (.var 6) (.cons (.var 3) .nil)))) (.var 4)) (.cons (.asg (.var 1) (.ife (.cmp .is (.var 1) .non) (.var 5) (.var 1))) (.cons (.ex (.mth .append (.var 2) (.cons (.var 6) .nil))) (.cons (.asg (.var 4) (.call "record_at" (.cons (.var 0) (.cons (.var 3) .nil)))) .nil))))).b [some (.str x), some (optD o), some (.loc S.length), some (.int (a : Int)), some d, v5, v6] S') (fun g S' => ∃ m', m' < x.length - a ∧ ∃ (a : Nat) (d : D) (o : Option Nat) (rs : List (List (List Nat))) (v5 v6 : Option D), m' = x.length - a ∧ a ≤ x.length ∧ rs.length ≤ a ∧ g = [some (.str x), some (optD o), some (.loc S.length), some (.int (a : Int)), some d, v5, v6] ∧ Grow S S' ∧ Cells S' S.length S.length rs ∧ recD (S.length + 1) a d S' (recP ((tl x).drop a)) ∧ ((o = none ∧ rs = [] ∧ a = 0) ∨ (∃ n0, o = some n0 ∧ ∀ rs' l, Reads ((tl x).drop a) (n0 + rs.length) rs' l → ParP (tl x) (some n0) (rs ++ rs') (a + l)))) (fun d S' => Grow S S' ∧ ∃ (r l : Nat) (o : Option Nat) (rs : List (List (List Nat))), d = .tup [optD o, .loc r, .int (l : Int)] ∧ ParP (tl x) o rs l ∧ Cells S' S.length r rs) (fun _ _ => False) (fun g S' => ∃ m', m' < x.length - a ∧ ∃ (a : Nat) (d : D) (o : Option Nat) (rs : List (List (List Nat))) (v5 v6 : Option D), m' = x.length - a ∧ a ≤ x.length ∧ rs.length ≤ a ∧ g = [some (.str x), some (optD o), some (.loc S.length), some (.int (a : Int)), some d, v5, v6] ∧ Grow S S' ∧ Cells S' S.length S.length rs ∧ recD (S.length + 1) a d S' (recP ((tl x).drop a)) ∧ ((o = none ∧ rs = [] ∧ a = 0) ∨ (∃ n0, o = some n0 ∧ ∀ rs' l, Reads ((tl x).drop a) (n0 + rs.length) rs' l → ParP (tl x) (some n0) (rs ++ rs') (a + l)))) := by
      intro n rows len e ho
      rw [e] at rc
      obtain ⟨r, ys, rfl, hrl, hy, hrows⟩ := rc
      obtain ⟨l2, l3⟩ := recP_len e
      refine k_cons (k_asgT3 (x_var rfl ⟨_, _, _, rfl, ?_⟩))
      simp only [List.set_cons_zero, List.set_cons_succ]
      refine k_cons (k_asgS (x_if ?_))
      walk_at "go"
      have nx : ∀ n1 : Nat, ((o = none ∧ n1 = n) ∨ (o = some n1 ∧ n = n1 + rs.length)) → SatR ((sem (p.env (p.run (k + 2))) (.cons (.ex (.mth .append (.var 2) (.cons (.var 6) .nil))) (.cons (.asg (.var 4) (.call "record_at" (.cons (.var 0) (.cons (.var 3) .nil)))) .nil))).b [some (.str x), some (.int (n1 : Int)), some (.loc S.length), some (.int ((a + len : Nat) : Int)), some (.tup [.int (n : Int), .loc r, .int ((a + len : Nat) : Int)]), some (.int (n : Int)), some (.loc r)] S') (fun g S' => ∃ m', m' < x.length - a ∧ ∃ (a : Nat) (d : D) (o : Option Nat) (rs : List (List (List Nat))) (v5 v6 : Option D), m' = x.length - a ∧ a ≤ x.length ∧ rs.length ≤ a ∧ g = [some (.str x), some (optD o), some (.loc S.length), some (.int (a : Int)), some d, v5, v6] ∧ Grow S S' ∧ Cells S' S.length S.length rs ∧ recD (S.length + 1) a d S' (recP ((tl x).drop a)) ∧ ((o = none ∧ rs = [] ∧ a = 0) ∨ (∃ n0, o = some n0 ∧ ∀ rs' l, Reads ((tl x).drop a) (n0 + rs.length) rs' l → ParP (tl x) (some n0) (rs ++ rs') (a + l)))) (fun d S' => Grow S S' ∧ ∃ (r l : Nat) (o : Option Nat) (rs : List (List (List Nat))), d = .tup [optD o, .loc r, .int (l : Int)] ∧ ParP (tl x) o rs l ∧ Cells S' S.length r rs) (fun _ _ => False) (fun g S' => ∃ m', m' < x.length - a ∧ ∃ (a : Nat) (d : D) (o : Option Nat) (rs : List (List (List Nat))) (v5 v6 : Option D), m' = x.length - a ∧ a ≤ x.length ∧ rs.length ≤ a ∧ g = [some (.str x), some (optD o), some (.loc S.length), some (.int (a : Int)), some d, v5, v6] ∧ Grow S S' ∧ Cells S' S.length S.length rs ∧ recD (S.length + 1) a d S' (recP ((tl x).drop a)) ∧ ((o = none ∧ rs = [] ∧ a = 0) ∨ (∃ n0, o = some n0 ∧ ∀ rs' l, Reads ((tl x).drop a) (n0 + rs.length) rs' l → ParP (tl x) (some n0) (rs ++ rs') (a + l)))) := by
        intro n1 hn
        refine k_cons (k_exS (x_mth ?_))
        walk_at "go"
        refine ⟨ty_lst rfl eas, ?_⟩
        walk_at "go"
        have asl : as.length ≤ 900000 := by have := all.len; omega
        refine p_append eas (by rw [List.length_map, sizeLine_eq]; omega) ?_
        have gs : Grow S (S'.set S.length (.lst (as.map .loc ++ [.loc r]))) := set_grow gr (Nat.le_refl _)
        have ls : (S'.set S.length (.lst (as.map .loc ++ [.loc r]))).length = S'.length := List.length_set ..
        have keep : ∀ b c, b ≠ S.length → S'[b]? = some c → (S'.set S.length (.lst (as.map .loc ++ [.loc r])))[b]? = some c := by
          intro b c hb hc
          rw [List.getElem?_set_ne (Ne.symm hb)]
          exact hc
        have ce2 : Cells (S'.set S.length (.lst (as.map .loc ++ [.loc r]))) S.length S.length (rs ++ [rows]) := by
          refine ⟨Nat.le_refl _, as ++ [r], ?_, All2.snoc (all.imp fun b rows q => ⟨q.1, q.2.1, ?_⟩) ⟨by omega, by omega, ys, keep r _ (by omega) hy, hrows⟩⟩
          · rw [set_at eas, List.map_append]
            rfl
          · obtain ⟨ys, e, z⟩ := q.2.2
            exact ⟨ys, keep _ _ q.2.1 e, z⟩
        generalize S'.set S.length (.lst (as.map .loc ++ [.loc r])) = S2 at gs ls ce2
        walk_at "go"
        refine (record_at_spec H (k := k) (S := S2) (a := a + len) (by omega) (by omega)).mono fun d3 S3 h3 => ?_
        obtain ⟨g3, r3⟩ := h3
        refine k_nil ⟨x.length - (a + len), by omega, a + len, d3, some n1, rs ++ [rows], _, _, rfl, by omega, by rw [List.length_append]; simp; omega, rfl, gs.trans g3, ce2.grow g3, ?_, .inr ⟨n1, rfl, fun rs' l hrd => ?_⟩⟩
        · cases e2 : recP ((tl x).drop (a + len)) with
          | none => rw [e2] at r3; exact r3
          | some q =>
            rw [e2] at r3
            obtain ⟨q1, q2, q3⟩ := q
            obtain ⟨r', ys', z1, z2, z3, z4⟩ := r3
            exact ⟨r', ys', z1, by omega, z3, z4⟩
        · rw [List.append_assoc]
          rw [← List.drop_drop] at hrd
          rcases hn with ⟨rfl, rfl⟩ | ⟨rfl, rfl⟩
          · rcases hist with ⟨_, rfl, rfl⟩ | ⟨n0, h, _⟩
            · have := ParP.some (t := tl x) (by simpa using e) (by simpa using hrd)
              simpa using this
            · cases h
          · rcases hist with ⟨h, _, _⟩ | ⟨n0, h, hist⟩
            · cases h
            · cases h
              have := hist ([rows] ++ rs') (len + l) (Reads.step e (by rw [List.length_append] at hrd; simpa [Nat.add_assoc] using hrd))
              rw [Nat.add_assoc]
              exact this
      refine ⟨_, rfl, fun h => ?_, fun h => ?_⟩
      · cases o with
        | some _ => cases h
        | none =>
          refine x_var rfl ?_
          exact nx n (.inl ⟨rfl, rfl⟩)
      · cases o with
        | none => cases h
        | some n0 =>
          refine x_var rfl ?_
          rcases ho with ho | ⟨n1, ho, hn⟩
          · cases ho
          · cases ho
            exact nx n0 (.inr ⟨rfl, hn⟩)
    refine y_and ?_
    walk_at "go"
    refine ⟨_, rfl, fun h => ?_, fun h => ?_⟩
    · cases e : recP ((tl x).drop a) with
      | none =>
        have rc' := rc
        rw [e] at rc'
        cases rc'
        cases h
      | some q =>
        obtain ⟨n, rows, len⟩ := q
        have rc' := rc
        rw [e] at rc'
        obtain ⟨r, ys, rfl, hrl, hy, hrows⟩ := rc'
        refine y_or ?_
        walk_at "go"
        refine ⟨_, rfl, fun h1 => ?_, fun h1 => ?_⟩
        · refine ⟨fun _ => nb (body n rows len e ?_), fun h => by cases h⟩
          cases o with
          | none => exact .inl rfl
          | some _ => cases h1
        · cases o with
          | none => cases h1
          | some n0 =>
            walk_at "go"
            rw [show optD (some n0) = .int (n0 : Int) from rfl]
            refine p_lenL eas ?_
            walk_at "go"
            have hlen := all.len
            refine ⟨_, rfl, fun h2 => nb (body n rows len e (.inr ⟨n0, rfl, ?_⟩)), fun h2 => ends fun n' rows' len' e' => ?_⟩
            · have h2 := of_decide_eq_true h2
              rw [List.length_map] at h2
              omega
            · rw [e] at e'
              cases e'
              refine ⟨fun h => by (cases h), fun n1 h => ?_⟩
              cases h
              have h2 := of_decide_eq_false h2
              rw [List.length_map] at h2
              intro z
              exact h2 (by omega)
    · refine ⟨fun h => by (cases h), fun _ => ends fun n rows len e => ?_⟩
      rw [e] at rc
      obtain ⟨r, ys, rfl, _⟩ := rc
      cases h
  · exact ⟨0, d1, none, [], none, none, rfl, Nat.zero_le _, Nat.zero_le _, rfl, (Grow.one (c := [Cell.lst []])).trans g1, ⟨Nat.le_refl _, [], g1.at new_at, .nil⟩, r1, .inl ⟨rfl, rfl, rfl⟩⟩
end Rc

end

section
set_option Elab.async false
set_option linter.all false
set_option maxRecDepth 100000
set_option maxHeartbeats 4000000
local macro_rules | `(tactic| walk_at "go") => `(tactic| repeat (first | with_reducible refine Mz.k_cons ?_ | with_reducible refine Mz.k_asgS ?_ | with_reducible refine Mz.k_retS ?_ | with_reducible refine Mz.k_exS ?_ | with_reducible refine Mz.x_bin ?_ | with_reducible refine Mz.x_cmp ?_ | with_reducible refine Mz.x_sub ?_ | with_reducible refine Mz.x_call ?_ | with_reducible refine Mz.x_blt ?_ | with_reducible refine Mz.x_cons ?_ | with_reducible refine Mz.x_nil ?_ | with_reducible refine Mz.x_tup ?_ | with_reducible refine Mz.x_lst ?_ | with_reducible refine Mz.x_int ?_ | with_reducible refine Mz.x_str ?_ | with_reducible refine Mz.x_bl ?_ | with_reducible refine Mz.x_non ?_ | with_reducible refine Mz.p_add ?_ | with_reducible refine Mz.p_sub ?_ | with_reducible refine Mz.p_eqI ?_ | with_reducible refine Mz.p_neI ?_ | with_reducible refine Mz.p_eqS ?_ | with_reducible refine Mz.p_neS ?_ | with_reducible refine Mz.p_lt ?_ | with_reducible refine Mz.p_le ?_ | with_reducible refine Mz.p_ge ?_ | with_reducible refine Mz.p_gt ?_ | with_reducible refine Mz.y_cmp ?_ | with_reducible refine Mz.x_fst ?_ | with_reducible refine Mz.j_cons ?_ | with_reducible refine Mz.j_nil ?_ | with_reducible refine Mz.x_fmt ?_ | with_reducible refine Mz.x_chain ?_ | with_reducible refine Mz.y_chain ?_ | with_reducible refine Mz.p_leS ?_ | with_reducible refine Mz.p_is ?_ | with_reducible refine Mz.p_isnot ?_ | with_reducible refine Mz.p_ord ?_ | with_reducible refine Mz.p_max ?_ | with_reducible refine Mz.p_min ?_ | with_reducible refine Mz.p_abs ?_ | with_reducible refine Mz.p_itT (by decide) rfl ?_ | simp only [List.set_cons_zero, List.set_cons_succ] | ((with_reducible apply Mz.x_var); next => exact rfl) | with_reducible refine ⟨(by simp only [List.length_cons, List.length_nil, PySem.sizeLine_eq]; omega : (List.length _ ≤ PySem.sizeLine)), ?_⟩))
local macro_rules | `(tactic| walk_at "st") => `(tactic| simp only [Mz.startG, List.map_cons, List.map_nil, List.length_cons, List.length_nil, Nat.reduceAdd, Nat.reduceSub, List.replicate, List.cons_append, List.nil_append, Nat.zero_add])
namespace Rc
open PySem PySem.Spec L2 Mz TL
/-! ### a written record, read -/
def bodyL (rows : List (List Nat)) : List Nat := joinL [10] rows
def headL (n : Nat) (body : List Nat) : List Nat := numL n ++ [32] ++ numL body.length ++ [58]
def chkN (n : Nat) (body : List Nat) : Nat := (chkL (headL n body ++ body)).toNat
def recL (n : Nat) (rows : List (List Nat)) : List Nat := headL n (bodyL rows) ++ numL (chkN n (bodyL rows)) ++ [61] ++ bodyL rows ++ [10]
structure Good (rows : List (List Nat)) : Prop where
  ne : rows ≠ []
  ok : ∀ r ∈ rows, rowL r = true
  sz : (bodyL rows).length < 10 ^ 6
theorem idx_app : ∀ {a r : List Nat}, 61 ∉ a → idx (a ++ 61 :: r) = some a.length
  | [], r, _ => rfl
  | c :: a, r, h => by
    have hc : c ≠ 61 := fun e => h (by rw [e]; exact List.mem_cons_self ..)
    have ih := idx_app (a := a) (r := r) fun e => h (List.mem_cons_of_mem _ e)
    unfold idx at ih ⊢
    rw [List.cons_append, List.findIdx?_cons, ih]
    simp [hc]
theorem idx_none {a : List Nat} (h : 61 ∉ a) : idx a = none := by
  unfold idx
  rw [List.findIdx?_eq_none_iff]
  intro c hc
  simp only [beq_eq_false_iff_ne]
  rintro rfl
  exact h hc
theorem cut1_app {s : Nat} {a b : List Nat} (h : s ∉ a) : cut1 s (a ++ s :: b) = (a, b) := by
  unfold cut1
  have := par_part1 (s := s) (S := []) (p := a) (rest := b) (acc := []) h
  rw [show a ++ s :: b = a ++ ([s] ++ b) from rfl, this]
  rfl
theorem cut1_none {s : Nat} {a : List Nat} (h : s ∉ a) : cut1 s a = (a, []) := by
  unfold cut1
  rw [par_none1 (S := []) h]
theorem numL_head : ∀ n : Nat, 10 ≤ n → (numL n).head? ≠ some 48 := by
  intro n
  induction n using Nat.strongRecOn with
  | _ n ih =>
    intro h
    rw [numL_step h]
    by_cases h2 : 10 ≤ n / 10
    · have := ih (n / 10) (by omega) h2
      cases e : numL (n / 10) with
      | nil => exact absurd e (numL_ne _)
      | cons c r => rw [e] at this; exact this
    · rw [numL_lt (by omega)]
      simp
      omega
theorem all_dig {l : List Nat} (h : NumText.AllDigits l) : l.all isDig = true := by
  rw [List.all_eq_true]
  intro c hc
  have := h c hc
  unfold isDig
  simp
  omega
theorem fig_num {n : Nat} (h : n < 10 ^ 60) : figL (numL n) = some n := by
  have h1 := numL_len (k := 60) (by decide) h
  have h2 : 0 < (numL n).length := List.length_pos_iff.mpr (numL_ne n)
  unfold figL
  rw [if_neg (by omega), if_neg, if_pos (all_dig (numL_digits n)), numL_val]
  rintro ⟨h3, h4⟩
  by_cases hn : n < 10
  · rw [numL_lt hn] at h4
    simp at h4
  · exact numL_head n (by omega) h3
theorem row_free {r : List Nat} (h : rowL r = true) : 10 ∉ r := by
  unfold rowL at h
  intro hm
  simp only [Bool.and_eq_true, List.all_eq_true] at h
  have := h.2 10 hm
  cases this
theorem chkN_lt (n : Nat) (b : List Nat) : chkN n b < 10 ^ 6 + 3 ∧ (chkN n b : Int) = chkL (headL n b ++ b) := by
  have := chkL_lt (headL n b ++ b)
  unfold chkN
  omega
theorem head_free {n c : Nat} {b : List Nat} : 61 ∉ headL n b ++ numL c := by
  unfold headL
  simp only [List.mem_append, List.mem_cons, List.not_mem_nil, or_false]
  rintro ((((h | h) | h) | h) | h)
  · exact numL_free (by omega) h
  · omega
  · exact numL_free (by omega) h
  · omega
  · exact numL_free (by omega) h
/-- the head of any text that begins like a record -/
theorem recP_head {n L c : Nat} {t : List Nat} (hn : n < 10 ^ 60) (hL : L < 10 ^ 60) (hc : c < 10 ^ 60) :
    recP (numL n ++ [32] ++ numL L ++ [58] ++ numL c ++ [61] ++ t) =
      if (t.drop L).take 1 ≠ [10] then none
      else if (spl [10] 0 [] (t.take L)).all rowL = false then none
      else if chkL (numL n ++ [32] ++ numL L ++ [58] ++ t.take L) ≠ c then none
      else some (n, spl [10] 0 [] (t.take L), (numL n ++ [32] ++ numL L ++ [58] ++ numL c).length + 1 + L + 1) := by
  generalize hh : numL n ++ [32] ++ numL L ++ [58] ++ numL c = h
  have free : 61 ∉ h := by
    rw [← hh]
    simp only [List.mem_append, List.mem_cons, List.not_mem_nil, or_false]
    rintro ((((h | h) | h) | h) | h)
    · exact numL_free (by omega) h
    · omega
    · exact numL_free (by omega) h
    · omega
    · exact numL_free (by omega) h
  have e1 : h ++ [61] ++ t = h ++ 61 :: t := by rw [List.append_assoc]; rfl
  rw [e1]
  unfold recP
  rw [idx_app free]
  have e2 : (h ++ 61 :: t).take h.length = h := List.take_left
  have e3 : (h ++ 61 :: t).drop (h.length + 1) = t := by
    rw [← List.drop_drop, List.drop_left]
    rfl
  have e4 : (h ++ 61 :: t).drop (h.length + 1 + L) = t.drop L := by
    rw [← List.drop_drop, e3]
  have e5 : cut1 32 h = (numL n, numL L ++ [58] ++ numL c) := by
    rw [← hh]
    have : numL n ++ [32] ++ numL L ++ [58] ++ numL c = numL n ++ 32 :: (numL L ++ [58] ++ numL c) := by simp
    rw [this]
    exact cut1_app (numL_free (by omega))
  have e6 : cut1 58 (numL L ++ [58] ++ numL c) = (numL L, numL c) := by
    have : numL L ++ [58] ++ numL c = numL L ++ 58 :: numL c := by simp
    rw [this]
    exact cut1_app (numL_free (by omega))
  simp only [e2, e3, e4, e5, e6, fig_num hn, fig_num hL, fig_num hc]
theorem bodyL_len {rows : List (List Nat)} (g : Good rows) : (bodyL rows).length < 10 ^ 60 := by
  have := g.sz
  have h : (10 : Nat) ^ 6 ≤ 10 ^ 60 := Nat.pow_le_pow_right (by decide) (by decide)
  omega
theorem recP_rec {n : Nat} {rows : List (List Nat)} {t : List Nat} (hn : n < 10 ^ 60) (g : Good rows) : recP (recL n rows ++ t) = some (n, rows, (recL n rows).length) := by
  have hc : chkN n (bodyL rows) < 10 ^ 60 := by
    have := (chkN_lt n (bodyL rows)).1
    have h : (10 : Nat) ^ 7 ≤ 10 ^ 60 := Nat.pow_le_pow_right (by decide) (by decide)
    omega
  have hb := bodyL_len g
  have e : recL n rows ++ t = numL n ++ [32] ++ numL (bodyL rows).length ++ [58] ++ numL (chkN n (bodyL rows)) ++ [61] ++ (bodyL rows ++ 10 :: t) := by
    unfold recL headL
    simp
  rw [e, recP_head hn hb hc]
  have e1 : (bodyL rows ++ 10 :: t).take (bodyL rows).length = bodyL rows := List.take_left
  have e2 : (bodyL rows ++ 10 :: t).drop (bodyL rows).length = 10 :: t := List.drop_left
  have e3 : spl [10] 0 [] (bodyL rows) = rows := spl_join g.ne fun p hp => row_free (g.ok p hp)
  have e4 : rows.all rowL = true := List.all_eq_true.mpr g.ok
  rw [e1, e2, e3, if_neg (by simp), if_neg (by rw [e4]; simp), if_neg]
  · congr 3
    unfold recL headL
    simp
    omega
  · have := (chkN_lt n (bodyL rows)).2
    unfold headL at this
    omega
/-- some records behind one another -/
def logL : Nat → List (List (List Nat)) → List Nat
  | _, [] => []
  | n, rows :: rs => recL n rows ++ logL (n + 1) rs
theorem reads_log : ∀ (recs : List (List (List Nat))) (n : Nat) (t : List Nat) (rs : List (List (List Nat))) (l : Nat), (∀ r ∈ recs, Good r) → n + recs.length ≤ 10 ^ 60 → Reads t (n + recs.length) rs l → Reads (logL n recs ++ t) n (recs ++ rs) ((logL n recs).length + l)
  | [], n, t, rs, l, _, _, h => by simpa [logL] using h
  | rows :: recs, n, t, rs, l, hg, hn, h => by
    have ih := reads_log recs (n + 1) t rs l (fun r hr => hg r (List.mem_cons_of_mem _ hr)) (by simp at hn; omega) (by simp at h; rwa [show n + 1 + recs.length = n + (recs.length + 1) by omega])
    have e : logL n (rows :: recs) ++ t = recL n rows ++ (logL (n + 1) recs ++ t) := by
      show recL n rows ++ logL (n + 1) recs ++ t = _
      rw [List.append_assoc]
    have st := Reads.step (recP_rec (n := n) (t := logL (n + 1) recs ++ t) (by simp at hn; omega) (hg rows (List.mem_cons_self ..))) (by rw [List.drop_left]; exact ih)
    rw [← e] at st
    have el : (logL n (rows :: recs)).length + l = (recL n rows).length + ((logL (n + 1) recs).length + l) := by
      show (recL n rows ++ logL (n + 1) recs).length + l = _
      rw [List.length_append]
      omega
    rw [el]
    exact st
theorem par_log {recs : List (List (List Nat))} {n : Nat} {t : List Nat} {rs : List (List (List Nat))} {l : Nat} (hne : recs ≠ []) (hg : ∀ r ∈ recs, Good r) (hn : n + recs.length ≤ 10 ^ 60) (h : Reads t (n + recs.length) rs l) : ParP (logL n recs ++ t) (some n) (recs ++ rs) ((logL n recs).length + l) := by
  have := reads_log recs n t rs l hg hn h
  cases recs with
  | nil => exact absurd rfl hne
  | cons rows recs =>
    generalize (logL n (rows :: recs)).length + l = q at this
    cases this with
    | step h1 h2 => exact .some h1 h2
/-- of ParP, as Reads -/
theorem par_reads {t : List Nat} {o : Option Nat} {rs : List (List (List Nat))} {l : Nat} (h : ParP t o rs l) : ∀ e, (o = some e → Reads t e rs l) ∧ (o ≠ some e → Reads t e [] 0) := by
  intro e
  cases h with
  | none h => exact ⟨fun z => (by cases z), fun _ => .stop _ _ fun n rows len z => by rw [h] at z; cases z⟩
  | some h1 h2 => exact ⟨fun z => by cases z; exact .step h1 h2, fun z => .stop _ _ fun n rows len q => by rw [h1] at q; cases q; intro w; exact z (by rw [w])⟩
end Rc

end

section
set_option Elab.async false
set_option linter.all false
set_option maxRecDepth 100000
set_option maxHeartbeats 4000000
local macro_rules | `(tactic| walk_at "go") => `(tactic| repeat (first | with_reducible refine Mz.k_cons ?_ | with_reducible refine Mz.k_asgS ?_ | with_reducible refine Mz.k_retS ?_ | with_reducible refine Mz.k_exS ?_ | with_reducible refine Mz.x_bin ?_ | with_reducible refine Mz.x_cmp ?_ | with_reducible refine Mz.x_sub ?_ | with_reducible refine Mz.x_call ?_ | with_reducible refine Mz.x_blt ?_ | with_reducible refine Mz.x_cons ?_ | with_reducible refine Mz.x_nil ?_ | with_reducible refine Mz.x_tup ?_ | with_reducible refine Mz.x_lst ?_ | with_reducible refine Mz.x_int ?_ | with_reducible refine Mz.x_str ?_ | with_reducible refine Mz.x_bl ?_ | with_reducible refine Mz.x_non ?_ | with_reducible refine Mz.p_add ?_ | with_reducible refine Mz.p_sub ?_ | with_reducible refine Mz.p_eqI ?_ | with_reducible refine Mz.p_neI ?_ | with_reducible refine Mz.p_eqS ?_ | with_reducible refine Mz.p_neS ?_ | with_reducible refine Mz.p_lt ?_ | with_reducible refine Mz.p_le ?_ | with_reducible refine Mz.p_ge ?_ | with_reducible refine Mz.p_gt ?_ | with_reducible refine Mz.y_cmp ?_ | with_reducible refine Mz.x_fst ?_ | with_reducible refine Mz.j_cons ?_ | with_reducible refine Mz.j_nil ?_ | with_reducible refine Mz.x_fmt ?_ | with_reducible refine Mz.x_chain ?_ | with_reducible refine Mz.y_chain ?_ | with_reducible refine Mz.p_leS ?_ | with_reducible refine Mz.p_is ?_ | with_reducible refine Mz.p_isnot ?_ | with_reducible refine Mz.p_ord ?_ | with_reducible refine Mz.p_max ?_ | with_reducible refine Mz.p_min ?_ | with_reducible refine Mz.p_abs ?_ | with_reducible refine Mz.p_itT (by decide) rfl ?_ | (with_reducible refine (?_ : Mz.Sat _ _); simp only [List.set_cons_zero, List.set_cons_succ]) | ((with_reducible apply Mz.x_var); next => exact rfl) | with_reducible refine ⟨(by simp only [List.length_cons, List.length_nil, PySem.sizeLine_eq]; omega : (List.length _ ≤ PySem.sizeLine)), ?_⟩))
local macro_rules | `(tactic| walk_at "st") => `(tactic| simp only [Mz.startG, List.map_cons, List.map_nil, List.length_cons, List.length_nil, Nat.reduceAdd, Nat.reduceSub, List.replicate, List.cons_append, List.nil_append, Nat.zero_add])
namespace Rc
open PySem PySem.Spec L2 Mz TL
/-- xs[j] = v -/
theorem k_setL {E : PEnv} {a b e : T} {g : Sg} {S : Store} {N B C : Sg → Store → Prop} {Rt : D → Store → Prop} (h : Sat ((sem E e).e g S) fun d S => Sat ((sem E a).e g S) fun x S => Sat ((sem E b).e g S) fun y S => ∃ n j xs, x = .loc n ∧ y = .int (j : Nat) ∧ S[n]? = some (.lst xs) ∧ j < xs.length ∧ N g (S.set n (.lst (xs.set j d)))) : SatR ((sem E (.asg (.sub a b) e)).s g S) N Rt B C := by
  refine k_asgGS (h.mono fun d S h => ?_)
  refine sat_bind.mpr (h.mono fun x S h => sat_bind.mpr (h.mono fun y S h => sat_bind.mpr ?_))
  obtain ⟨n, j, xs, rfl, rfl, hS, hj, q⟩ := h
  unfold setAt
  have ix : ixN xs.length (j : Int) = some j := by
    unfold ixN
    rw [if_pos (by omega), if_pos (by omega)]
    rfl
  simp only [lstAt_loc hS, ix]
  exact q
variable {p : Prg} (H : Has p) {k : Nat} {S : Store} {f : Nat}
/-! ### the feed -/
def Feed (S : Store) (f : Nat) : Prop := ∃ a b : Int, S[f]? = some (.lst [.int a, .int b]) ∧ 0 ≤ a ∧ 0 ≤ b ∧ b < 2305843009213693951
theorem Feed.grow {S S' : Store} {f : Nat} (h : Feed S f) (g : Grow S S') : Feed S' f := let ⟨a, b, e, r⟩ := h; ⟨a, b, g.at e, r⟩
theorem Feed.lt {S : Store} {f : Nat} (h : Feed S f) : f < S.length := let ⟨a, b, e, r⟩ := h; lt_of e
include H in
theorem take_spec {many : Int} (h : Feed S f) (h0 : 0 < many) (h1 : divOk many = true) : Sat (p.run (k + 1) "_law_take" [.loc f, .int many] S) fun d S' => ∃ r : Int, d = .int r ∧ 0 ≤ r ∧ r < many ∧ Feed S' f ∧ Keep f S S' := by
  rw [run_of H.take rfl, sat_runBody]; unfold t__law_take
  walk_at "st"
  obtain ⟨a, b, e, a0, b0, b1⟩ := h
  refine k_cons (k_ifS (y_cmp (x_sub (x_var rfl (x_int (p_itL e (by decide) rfl (x_int (p_gt ⟨_, rfl, fun hb => ?_, fun hb => k_nil ?_⟩))))))))
  · have hb := of_decide_eq_true hb
    walk_at "go"
    refine p_itL e (by decide) rfl ?_
    walk_at "go"
    refine p_mod h0 ?_
    walk_at "go"
    refine k_setL ?_
    walk_at "go"
    refine p_itL e (by decide) rfl ?_
    walk_at "go"
    refine p_fdiv h1 ?_
    walk_at "go"
    refine ⟨f, 0, _, rfl, rfl, e, by simp, ?_⟩
    walk_at "go"
    exact ⟨_, rfl, Int.emod_nonneg _ (by omega), Int.emod_lt_of_pos _ h0, ⟨a / many, b, set_at e, Int.ediv_nonneg a0 (by omega), b0, b1⟩, Keep.set⟩
  · refine k_cons (k_setL ?_)
    walk_at "go"
    refine p_itL e (by decide) rfl ?_
    walk_at "go"
    refine p_mul (mulOk_l (by omega) (by omega)) ?_
    walk_at "go"
    refine p_mod (by decide) ?_
    walk_at "go"
    refine ⟨f, 1, _, rfl, rfl, e, by simp, ?_⟩
    walk_at "go"
    refine p_itL (set_at e) (by decide) rfl ?_
    walk_at "go"
    refine p_fdiv (by decide) ?_
    walk_at "go"
    refine p_mod h0 ?_
    exact ⟨_, rfl, Int.emod_nonneg _ (by omega), Int.emod_lt_of_pos _ h0, ⟨a, _, set_at e, a0, Int.emod_nonneg _ (by decide), Int.emod_lt_of_pos _ (by decide)⟩, Keep.set⟩
include H in
theorem takeK {K : Nat} {many : Int} (hK : 1 ≤ K) (h : Feed S f) (h0 : 0 < many) (h1 : divOk many = true) : Sat (p.run K "_law_take" [.loc f, .int many] S) fun d S' => ∃ r : Int, d = .int r ∧ 0 ≤ r ∧ r < many ∧ Feed S' f ∧ Keep f S S' := by
  obtain ⟨k, rfl⟩ : ∃ k, K = k + 1 := ⟨K - 1, by omega⟩
  exact take_spec H h h0 h1
include H in
theorem pickK {K m : Nat} {xs : List D} (hK : 2 ≤ K) (h : Feed S f) (hm : S[m]? = some (.lst xs)) (mn : m ≠ f) (hx : xs ≠ []) (hz : xs.length < 2 ^ 60) : Sat (p.run K "_law_pick" [.loc f, .loc m] S) fun d S' => d ∈ xs ∧ Feed S' f ∧ Keep f S S' := by
  obtain ⟨k, rfl⟩ : ∃ k, K = k + 1 := ⟨K - 1, by omega⟩
  rw [run_of H.pick rfl, sat_runBody]; unfold t__law_pick
  walk_at "st"
  have hp : 0 < (xs.length : Int) := by
    have : xs.length ≠ 0 := fun z => hx (List.eq_nil_of_length_eq_zero z)
    omega
  walk_at "go"
  refine p_lenL hm ?_
  walk_at "go"
  refine (takeK H (by omega) h hp (divOk_of hp (by omega))).mono fun d S' h => ?_
  obtain ⟨r, rfl, r1, r2, dd, kk⟩ := h
  have hr : r.toNat < xs.length := by omega
  exact p_itL (kk.at hm mn) r1 (List.getElem?_eq_getElem hr) ⟨List.getElem_mem hr, dd, kk⟩
/-- a pick of ints -/
theorem mem_ints {ns : List Int} {d : D} (h : d ∈ ns.map D.int) : ∃ n ∈ ns, d = .int n := by
  obtain ⟨n, h1, h2⟩ := List.mem_map.mp h
  exact ⟨n, h1, h2.symm⟩
/-! ### a row -/
def signsS : Str := " !\"#$&'()*+,-./0123456789:;<=>?@ABCDEFGHIJKLMNOPQRSTUVWXYZ[\\]^_`abcdefghijklmnopqrstuvwxyz{|}~"
theorem signsS_ok : (tl signsS).all isSgn = true ∧ signsS.length = 94 := by decide +kernel
theorem two_lt {α : Type} {xs : List α} (h : (xs.length.ble 100) = true) : xs.length < 2 ^ 60 := by
  have := Nat.le_of_ble_eq_true h
  omega
theorem row_app {a b : List Nat} (h : rowL a = true) (hb : b.all isSgn = true) : rowL (a ++ b) = true := by
  unfold rowL at h ⊢
  simp only [Bool.and_eq_true, Bool.not_eq_true', List.all_append] at h ⊢
  refine ⟨?_, h.2, hb⟩
  cases a with
  | nil => cases h.1
  | cons c r => rfl
theorem dig_sgn {n : Nat} : (numL n).all isSgn = true := by
  rw [List.all_eq_true]
  intro c hc
  have := numL_digits n c hc
  unfold isSgn
  simp
  omega
theorem tl_int {i : Int} (h : 0 ≤ i) : tl (Str.ofString (toString i)) = numL i.toNat := by
  obtain ⟨n, rfl⟩ := Int.eq_ofNat_of_zero_le h
  exact tl_num n
theorem int_len {i : Int} {n : Nat} (h : 0 ≤ i) (h1 : i.toNat < 10 ^ n) (hn : 0 < n) : (Str.ofString (toString i)).length ≤ n := by
  rw [len_tl, tl_int h]
  exact numL_len hn h1
include H in
theorem signsK {K : Nat} (hK : 1 ≤ K) : Sat (p.run K "_law_signs" [] S) fun d S' => d = .str signsS ∧ S' = S := by
  obtain ⟨k, rfl⟩ : ∃ k, K = k + 1 := ⟨K - 1, by omega⟩
  rw [run_of H.signs rfl, sat_runBody]; unfold t__law_signs
  walk_at "go"
  exact ⟨rfl, rfl⟩
theorem log_lt {i : Int} {n : Nat} (h : i.natAbs < 2 ^ n) (hn : 0 < n) : i.natAbs.log2 < n := by
  by_cases h0 : i.natAbs = 0
  · rw [h0]; exact hn
  · exact (Nat.log2_lt h0).mpr h
theorem join_empty : ∀ ps : List (List Nat), joinL [] ps = ps.flatten
  | [] => rfl
  | [p] => by simp [joinL]
  | p :: q :: r => by
    show p ++ ([] ++ joinL [] (q :: r)) = _
    rw [join_empty (q :: r)]
    simp
theorem sum_ones : ∀ cs : List Nat, ((cs.map fun c => (⟨#[c]⟩ : Str)).map (·.length)).sum = cs.length
  | [] => rfl
  | c :: cs => by
    rw [List.map_cons, List.map_cons, List.sum_cons, sum_ones cs, List.length_cons]
    show 1 + _ = _
    omega
theorem flat_ones : ∀ cs : List Nat, ((cs.map fun c => (⟨#[c]⟩ : Str)).map tl).flatten = cs
  | [] => rfl
  | c :: cs => by
    rw [List.map_cons, List.map_cons, List.flatten_cons, flat_ones cs]
    rfl
include H in
theorem rowK {K : Nat} (hK : 3 ≤ K) (hf : Feed S f) : Sat (p.run K "_law_row" [.loc f] S) fun d S' => ∃ y : Str, d = .str y ∧ rowL (tl y) = true ∧ y.length ≤ 50 ∧ Feed S' f ∧ Keep f S S' := by
  obtain ⟨k, rfl⟩ : ∃ k, K = k + 1 := ⟨K - 1, by omega⟩
  rw [run_of H.row rfl, sat_runBody]; unfold t__law_row
  walk_at "st"
  walk_at "go"
  refine (signsK H (by omega)).mono fun d0 S0 h0 => ?_
  obtain ⟨rfl, rfl⟩ := h0
  walk_at "go"
  refine (takeK H (by omega) hf (by decide) (by decide)).mono fun d1 S1 h1 => ?_
  obtain ⟨way, rfl, w0, w1, f1, k1⟩ := h1
  walk_at "go"
  refine k_ifS ?_
  walk_at "go"
  refine ⟨_, rfl, fun hb => ?_, fun hb => k_nil ?_⟩
  · walk_at "go"
    refine (takeK H (by omega) f1 (by decide) (by decide)).mono fun d2 S2 h2 => ?_
    obtain ⟨x1, rfl, x10, x11, f2, k2⟩ := h2
    refine p_str (Nat.lt_of_lt_of_le (log_lt (n := 10) (by omega) (by decide)) (by decide)) ?_
    walk_at "go"
    have a1 := int_len (n := 2) x10 (by omega) (by decide)
    have s1 : (Str.ofString " ").length = 1 := by decide +kernel
    have s2 : (Str.ofString ":").length = 1 := by decide +kernel
    have s3 : (Str.ofString "=a").length = 2 := by decide +kernel
    refine p_adds (sz (by omega)) ?_
    walk_at "go"
    refine (takeK H (by omega) f2 (by decide) (by decide)).mono fun d3 S3 h3 => ?_
    obtain ⟨x2, rfl, x20, x21, f3, k3⟩ := h3
    have a2 := int_len (n := 1) x20 (by omega) (by decide)
    refine p_str (Nat.lt_of_lt_of_le (log_lt (n := 10) (by omega) (by decide)) (by decide)) ?_
    refine p_adds (sz (by rw [str_len]; omega)) ?_
    walk_at "go"
    refine p_adds (sz (by rw [str_len, str_len]; omega)) ?_
    walk_at "go"
    refine (takeK H (by omega) f3 (by decide) (by decide)).mono fun d4 S4 h4 => ?_
    obtain ⟨x3, rfl, x30, x31, f4, k4⟩ := h4
    have a3 := int_len (n := 7) x30 (by omega) (by decide)
    refine p_str (Nat.lt_of_lt_of_le (log_lt (n := 30) (by omega) (by decide)) (by decide)) ?_
    refine p_adds (sz (by rw [str_len, str_len, str_len]; omega)) ?_
    walk_at "go"
    refine p_adds (sz (by rw [str_len, str_len, str_len, str_len]; omega)) ⟨_, rfl, ?_, by rw [str_len, str_len, str_len, str_len, str_len]; omega, f4, ((k1.trans k2).trans k3).trans k4⟩
    rw [tl_append, tl_append, tl_append, tl_append, tl_append, tl_int x10, tl_int x20, tl_int x30]
    refine row_app (row_app (row_app (row_app (row_app ?_ (by decide +kernel)) dig_sgn) (by decide +kernel)) dig_sgn) (by decide +kernel)
    unfold rowL
    rw [dig_sgn]
    cases e : numL x1.toNat with
    | nil => exact absurd e (numL_ne _)
    | cons c r => rfl
  -- from signs
  have rest : ∀ z : Str, (tl z).all isSgn = true → 1 ≤ z.length → z.length ≤ 94 → SatR ((sem (p.env (p.run k)) (.cons (.asg (.var 3) (.bin .add (.int 1) (.call "_law_take" (.cons (.var 0) (.cons (.call "_law_pick" (.cons (.var 0) (.cons (.lst (.cons (.int 1) (.cons (.int 2) (.cons (.int 6) (.cons (.int 40) .nil))))) .nil))) .nil))))) (.cons (.ret (.mth .join (.str "") (.cons (.lc [4] (.var 4) (.irng (.cons (.var 3) .nil)) .nil (.sub (.var 1) (.call "_law_take" (.cons (.var 0) (.cons (.blt .len (.cons (.var 1) .nil)) .nil))))) .nil))) .nil))).b [some (.loc f), some (.str z), some (.int way), none, none] S1) (fun _ S' => ∃ y : Str, D.non = .str y ∧ rowL (tl y) = true ∧ y.length ≤ 50 ∧ Feed S' f ∧ Keep f S0 S') (fun d S' => ∃ y : Str, d = .str y ∧ rowL (tl y) = true ∧ y.length ≤ 50 ∧ Feed S' f ∧ Keep f S0 S') (fun _ _ => False) (fun _ _ => False) := by
    intro z hz z0 z1
    walk_at "go"
    refine (pickK H (xs := [.int 1, .int 2, .int 6, .int 40]) (by omega) (f1.grow .one) new_at (Nat.ne_of_gt f1.lt) (by simp) (two_lt rfl)).mono fun d2 S2 h2 => ?_
    obtain ⟨m2, f2, k2⟩ := h2
    obtain ⟨b, rfl, b0, b1⟩ : ∃ b : Int, d2 = .int b ∧ 1 ≤ b ∧ b ≤ 40 := by
      simp only [List.mem_cons, List.not_mem_nil, or_false] at m2
      rcases m2 with e | e | e | e <;> exact ⟨_, e, by decide, by decide⟩
    walk_at "go"
    refine (takeK H (by omega) f2 (by omega) (divOk_of (by omega) (by omega))).mono fun d3 S3 h3 => ?_
    obtain ⟨c, rfl, c0, c1, f3, k3⟩ := h3
    walk_at "go"
    refine x_mth ?_
    walk_at "go"
    refine ⟨rfl, x_cons (x_lc (i_rng1 ?_))⟩
    walk_at "go"
    refine ⟨_, rfl, rngOk_of (by omega) (by omega), ?_⟩
    have kt : Keep f S0 S3 := k1.trans ((Keep.app.trans k2).trans k3)
    have hl : (Mz.intsFrom 0 (1 + c).toNat).length = (1 + c).toNat := by simp [Mz.intsFrom]
    refine lcLoop_vals (fun i acc S' => ∃ cs : List Nat, acc = (cs.map fun c => (⟨#[c]⟩ : Str)).map .str ∧ cs.length = i ∧ cs.all isSgn = true ∧ Feed S' f ∧ Keep f S0 S') (fun i d acc S' hi q => ?_) (fun acc S' q => ?_) _ 0 _ _ (by simp [ibound]) (Nat.zero_le _) ⟨[], rfl, rfl, rfl, f3, kt⟩
    · obtain ⟨cs, rfl, cl, ca, f4, k4⟩ := q
      have hi' : i < (1 + c).toNat := by rw [← hl]; exact (List.getElem?_eq_some_iff.mp hi).1
      refine sat_ok.mpr (sat_ok.mpr ⟨fun _ => ?_, fun h => by cases h⟩)
      simp only [wipeG, List.set_cons_zero, List.set_cons_succ]
      walk_at "go"
      refine p_lenS (sz (by omega)) ?_
      walk_at "go"
      refine (takeK H (by omega) f4 (by omega) (divOk_of (by omega) (by omega))).mono fun d5 S5 h5 => ?_
      obtain ⟨r, rfl, r0, r1, f5, k5⟩ := h5
      have hr : r.toNat < z.cps.toList.length := by
        have := len_tl z
        show r.toNat < (tl z).length
        omega
      refine p_itS (sz (by omega)) r0 (List.getElem?_eq_getElem hr) ⟨?_, cs ++ [z.cps.toList[r.toNat]], ?_, ?_, ?_, f5, k4.trans k5⟩
      · rw [List.length_map, List.length_map, sizeLine_eq]; omega
      · simp
      · simp [cl]
      · rw [List.all_append, ca]
        have := List.all_eq_true.mp hz _ (List.getElem_mem hr)
        simpa using this
    · obtain ⟨cs, rfl, cl, ca, f4, k4⟩ := q
      rw [hl] at cl
      walk_at "go"
      refine p_join new_at ?_ ⟨_, rfl, ?_, ?_, f4.grow .one, k4.trans Keep.app⟩
      · rw [sum_ones, show (Str.ofString "").length = 0 by decide +kernel]
        omega
      · rw [join_eq, tl_join, show tl (Str.ofString "") = [] by decide +kernel, join_empty, flat_ones]
        unfold rowL
        rw [ca]
        cases cs with
        | nil => simp at cl; omega
        | cons c r => rfl
      · rw [len_tl, join_eq, tl_join, show tl (Str.ofString "") = [] by decide +kernel, join_empty, flat_ones]
        omega
  walk_at "go"
  refine k_ifS ?_
  walk_at "go"
  refine ⟨_, rfl, fun hb => ?_, fun hb => k_nil (rest signsS signsS_ok.1 (by rw [signsS_ok.2]; decide) (by rw [signsS_ok.2]; decide))⟩
  walk_at "go"
  exact k_nil (rest _ (by decide +kernel) (by decide +kernel) (by decide +kernel))
end Rc

end

section
set_option Elab.async false
set_option linter.all false
set_option maxRecDepth 100000
set_option maxHeartbeats 4000000
local macro_rules | `(tactic| walk_at "go") => `(tactic| repeat (first | with_reducible refine Mz.k_cons ?_ | with_reducible refine Mz.k_asgS ?_ | with_reducible refine Mz.k_retS ?_ | with_reducible refine Mz.k_exS ?_ | with_reducible refine Mz.x_bin ?_ | with_reducible refine Mz.x_cmp ?_ | with_reducible refine Mz.x_sub ?_ | with_reducible refine Mz.x_call ?_ | with_reducible refine Mz.x_blt ?_ | with_reducible refine Mz.x_cons ?_ | with_reducible refine Mz.x_nil ?_ | with_reducible refine Mz.x_tup ?_ | with_reducible refine Mz.x_lst ?_ | with_reducible refine Mz.x_int ?_ | with_reducible refine Mz.x_str ?_ | with_reducible refine Mz.x_bl ?_ | with_reducible refine Mz.x_non ?_ | with_reducible refine Mz.p_add ?_ | with_reducible refine Mz.p_sub ?_ | with_reducible refine Mz.p_eqI ?_ | with_reducible refine Mz.p_neI ?_ | with_reducible refine Mz.p_eqS ?_ | with_reducible refine Mz.p_neS ?_ | with_reducible refine Mz.p_lt ?_ | with_reducible refine Mz.p_le ?_ | with_reducible refine Mz.p_ge ?_ | with_reducible refine Mz.p_gt ?_ | with_reducible refine Mz.y_cmp ?_ | with_reducible refine Mz.x_fst ?_ | with_reducible refine Mz.j_cons ?_ | with_reducible refine Mz.j_nil ?_ | with_reducible refine Mz.x_fmt ?_ | with_reducible refine Mz.x_chain ?_ | with_reducible refine Mz.y_chain ?_ | with_reducible refine Mz.p_leS ?_ | with_reducible refine Mz.p_is ?_ | with_reducible refine Mz.p_isnot ?_ | with_reducible refine Mz.p_ord ?_ | with_reducible refine Mz.p_max ?_ | with_reducible refine Mz.p_min ?_ | with_reducible refine Mz.p_abs ?_ | with_reducible refine Mz.p_itT (by decide) rfl ?_ | (with_reducible refine (?_ : Mz.Sat _ _); simp only [List.set_cons_zero, List.set_cons_succ]) | with_reducible refine Mz.x_var (by with_unfolding_all exact rfl) ?_ | with_reducible refine ⟨(by simp only [List.length_cons, List.length_nil, PySem.sizeLine_eq]; omega : (List.length _ ≤ PySem.sizeLine)), ?_⟩))
local macro_rules | `(tactic| walk_at "st") => `(tactic| simp only [Mz.startG, List.map_cons, List.map_nil, List.length_cons, List.length_nil, Nat.reduceAdd, Nat.reduceSub, List.replicate, List.cons_append, List.nil_append, Nat.zero_add])
namespace Tp
open PySem PySem.Spec L2 Mz
def t__law_tape : T := (.cons (.asg (.var 2) (.int 0)) (.cons (.ifs (.cmp .lt (.var 1) (.blt .len (.cons (.var 0) .nil))) (.cons (.asg (.var 2) (.blt .abs (.cons (.sub (.var 0) (.var 1)) .nil))) .nil) .nil) (.cons (.ret (.lst (.cons (.var 2) (.cons (.bin .add (.bin .mod (.bin .add (.bin .mul (.var 1) (.int 7919)) (.var 2)) (.int 998244353)) (.int 1)) .nil)))) .nil)))
def t__law_digit : T := (.cons (.ifs (.cmp .gt (.sub (.var 0) (.int 0)) (.int 0)) (.cons (.asg (.var 3) (.bin .mod (.sub (.var 0) (.int 0)) (.var 1))) (.cons (.asg (.sub (.var 0) (.int 0)) (.bin .fdiv (.sub (.var 0) (.int 0)) (.var 1))) (.cons (.ret (.var 3)) .nil))) .nil) (.cons (.asg (.sub (.var 0) (.int 1)) (.bin .mod (.bin .add (.bin .mul (.sub (.var 0) (.int 1)) (.int 48271)) (.int 11)) (.int 2147483647))) (.cons (.asg (.var 2) (.bin .mod (.bin .mul (.sub (.var 0) (.int 1)) (.int 40692)) (.int 2147483399))) (.cons (.ret (.bin .mod (.bin .add (.bin .mul (.bin .mod (.bin .mul (.sub (.var 0) (.int 1)) (.sub (.var 0) (.int 1))) (.int 2147483629)) (.int 2147483399)) (.var 2)) (.var 1))) .nil))))
section
variable {p : Prg} {S : Store} {n : Nat}
theorem digitK (hd : p.tab.lookup ("_law_digit" : Str) = some ⟨2, 4, t__law_digit⟩) {K : Nat} {many : Int} (hK : 1 ≤ K) (h : Tape S n) (h0 : 0 < many) (h1 : divOk many = true) : Sat (p.run K "_law_digit" [.loc n, .int many] S) fun d S' => ∃ r : Int, d = .int r ∧ 0 ≤ r ∧ r < many ∧ Tape S' n ∧ Keep n S S' := by
  obtain ⟨K, rfl⟩ : ∃ j, K = j + 1 := ⟨K - 1, by omega⟩
  rw [run_of hd rfl, sat_runBody]; unfold t__law_digit
  walk_at "st"
  obtain ⟨a, b, e, a0, b0, b1⟩ := h
  refine k_cons (k_ifS (y_cmp (x_sub (x_var rfl (x_int (p_itL e (by decide) rfl (x_int (p_gt ⟨_, rfl, fun hb => ?_, fun hb => k_nil ?_⟩))))))))
  · have hb := of_decide_eq_true hb
    walk_at "go"
    refine p_itL e (by decide) rfl ?_
    walk_at "go"
    refine p_mod h0 ?_
    walk_at "go"
    refine k_setL ?_
    walk_at "go"
    refine p_itL e (by decide) rfl ?_
    walk_at "go"
    refine p_fdiv h1 ?_
    walk_at "go"
    refine ⟨n, 0, _, rfl, rfl, e, by simp, ?_⟩
    walk_at "go"
    exact ⟨_, rfl, Int.emod_nonneg _ (by omega), Int.emod_lt_of_pos _ h0, ⟨a / many, b, set_at e, Int.ediv_nonneg a0 (by omega), b0, b1⟩, Keep.set⟩
  · refine k_cons (k_setL ?_)
    walk_at "go"
    refine p_itL e (by decide) rfl ?_
    walk_at "go"
    refine p_mul (mulOk_l (by omega) (by omega)) ?_
    walk_at "go"
    refine p_mod (by decide) ?_
    walk_at "go"
    refine ⟨n, 1, _, rfl, rfl, e, by simp, ?_⟩
    have c0 : 0 ≤ (b * 48271 + 11) % 2147483647 := Int.emod_nonneg _ (by decide)
    have c1 : (b * 48271 + 11) % 2147483647 < 2147483647 := Int.emod_lt_of_pos _ (by decide)
    have e2 : (S.set n (.lst [.int a, .int ((b * 48271 + 11) % 2147483647)]))[n]? = some (.lst [.int a, .int ((b * 48271 + 11) % 2147483647)]) := set_at e
    have k2 : Keep n S (S.set n (.lst [.int a, .int ((b * 48271 + 11) % 2147483647)])) := Keep.set
    simp only [List.set_cons_zero, List.set_cons_succ]
    generalize (b * 48271 + 11) % 2147483647 = c at *
    generalize S.set n (.lst [.int a, .int c]) = S2 at *
    walk_at "go"
    refine p_itL e2 (by decide) rfl ?_
    walk_at "go"
    refine p_mul (mulOk_l (by omega) (by omega)) ?_
    walk_at "go"
    refine p_mod (by decide) ?_
    walk_at "go"
    refine p_itL e2 (by decide) rfl ?_
    walk_at "go"
    refine p_itL e2 (by decide) rfl ?_
    refine p_mul (mulOk_l (by omega) (by omega)) ?_
    walk_at "go"
    refine p_mod (by decide) ?_
    walk_at "go"
    refine p_mul (mulOk_r (by decide) (by decide)) ?_
    walk_at "go"
    refine p_mod h0 ?_
    exact ⟨_, rfl, Int.emod_nonneg _ (by omega), Int.emod_lt_of_pos _ h0, ⟨a, c, e2, a0, c0, c1⟩, k2⟩
def tapeT (c1 c2 : Int) : T := (.cons (.asg (.var 2) (.int 0)) (.cons (.ifs (.cmp .lt (.var 1) (.blt .len (.cons (.var 0) .nil))) (.cons (.asg (.var 2) (.blt .abs (.cons (.sub (.var 0) (.var 1)) .nil))) .nil) .nil) (.cons (.ret (.lst (.cons (.var 2) (.cons (.bin .add (.bin .mod (.bin .add (.bin .mul (.var 1) (.int c1)) (.var 2)) (.int c2)) (.int 1)) .nil)))) .nil)))
theorem tape_fin {K : Nat} {i : Nat} {d0 : D} {c1 c2 : Int} (h2 : 0 < c2 ∧ c2 < 1000000000) (hi : i ≤ 1000) (v : Int) (v0 : 0 ≤ v) : SatR ((sem (p.env (p.run K)) (.cons (.ret (.lst (.cons (.var 2) (.cons (.bin .add (.bin .mod (.bin .add (.bin .mul (.var 1) (.int c1)) (.var 2)) (.int c2)) (.int 1)) .nil)))) .nil)).b [some d0, some (.int (i : Int)), some (.int v)] S) (fun _ _ => False) (fun d S' => d = .loc S.length ∧ Tape S' S.length ∧ Grow S S') (fun _ _ => False) (fun _ _ => False) := by
  walk_at "go"
  have mo : mulOk (i : Int) c1 = true := mulOk_l (by omega) (by omega)
  with_reducible refine p_mul mo ?_
  walk_at "go"
  have h21 := h2.1
  with_reducible refine p_mod h21 ?_
  walk_at "go"
  have r0 : 0 ≤ ((i : Int) * c1 + v) % c2 := Int.emod_nonneg _ (by omega)
  have r1 : ((i : Int) * c1 + v) % c2 < c2 := Int.emod_lt_of_pos _ h2.1
  exact ⟨rfl, ⟨v, _, new_at, v0, by omega, by omega⟩, .one⟩
theorem tapeK (hd : p.tab.lookup ("_law_tape" : Str) = some ⟨2, 3, t__law_tape⟩) {K : Nat} {ns : List Int} {i : Nat} (hK : 1 ≤ K) (hi : i ≤ 1000) : Sat (p.run K "_law_tape" [.cl (ns.map .int), .int (i : Int)] S) fun d S' => d = .loc S.length ∧ Tape S' S.length ∧ Grow S S' := by
  obtain ⟨K, rfl⟩ : ∃ j, K = j + 1 := ⟨K - 1, by omega⟩
  rw [run_of hd rfl, sat_runBody, show t__law_tape = tapeT 7919 998244353 from rfl]
  have hc : (0 : Int) < 998244353 ∧ (998244353 : Int) < 1000000000 := by decide
  generalize (998244353 : Int) = c2 at hc ⊢
  generalize (7919 : Int) = c1
  unfold tapeT
  walk_at "st"
  walk_at "go"
  refine k_ifS ?_
  walk_at "go"
  show Sat (O.ok (D.int ((ns.map D.int).length : Nat)) S) _
  refine sat_ok.mpr ?_
  walk_at "go"
  refine ⟨_, rfl, fun c => ?_, fun c => ?_⟩
  · have c := of_decide_eq_true c
    rw [List.length_map] at c
    have hlt : i < ns.length := by omega
    walk_at "go"
    have ei : semItem (.cl (ns.map .int)) (.int (i : Int)) S = .ok (.int ns[i]) S := item_cl (by omega) (by simp [List.getElem?_map, List.getElem?_eq_getElem hlt])
    rw [ei]
    refine sat_ok.mpr ?_
    walk_at "go"
    with_reducible refine k_nil ?_
    have z0 : 0 ≤ (if ns[i] < 0 then -ns[i] else ns[i]) := by split <;> omega
    with_reducible exact SatR.mono (tape_fin hc hi _ z0) fun _ _ h => h.elim
  · with_reducible refine k_nil ?_
    have z0 : (0 : Int) ≤ 0 := by decide
    with_reducible exact SatR.mono (tape_fin hc hi 0 z0) fun _ _ h => h.elim
end
end Tp

end

section
set_option Elab.async false
set_option linter.all false
set_option maxRecDepth 100000
set_option maxHeartbeats 4000000
local macro_rules | `(tactic| walk_at "go") => `(tactic| repeat (first | with_reducible refine Mz.k_cons ?_ | with_reducible refine Mz.k_asgS ?_ | with_reducible refine Mz.k_retS ?_ | with_reducible refine Mz.k_exS ?_ | with_reducible refine Mz.x_bin ?_ | with_reducible refine Mz.x_cmp ?_ | with_reducible refine Mz.x_sub ?_ | with_reducible refine Mz.x_call ?_ | with_reducible refine Mz.x_blt ?_ | with_reducible refine Mz.x_cons ?_ | with_reducible refine Mz.x_nil ?_ | with_reducible refine Mz.x_tup ?_ | with_reducible refine Mz.x_lst ?_ | with_reducible refine Mz.x_int ?_ | with_reducible refine Mz.x_str ?_ | with_reducible refine Mz.x_bl ?_ | with_reducible refine Mz.x_non ?_ | with_reducible refine Mz.p_add ?_ | with_reducible refine Mz.p_sub ?_ | with_reducible refine Mz.p_eqI ?_ | with_reducible refine Mz.p_neI ?_ | with_reducible refine Mz.p_eqS ?_ | with_reducible refine Mz.p_neS ?_ | with_reducible refine Mz.p_lt ?_ | with_reducible refine Mz.p_le ?_ | with_reducible refine Mz.p_ge ?_ | with_reducible refine Mz.p_gt ?_ | with_reducible refine Mz.y_cmp ?_ | with_reducible refine Mz.x_fst ?_ | with_reducible refine Mz.j_cons ?_ | with_reducible refine Mz.j_nil ?_ | with_reducible refine Mz.x_fmt ?_ | with_reducible refine Mz.x_chain ?_ | with_reducible refine Mz.y_chain ?_ | with_reducible refine Mz.p_leS ?_ | with_reducible refine Mz.p_is ?_ | with_reducible refine Mz.p_isnot ?_ | with_reducible refine Mz.p_ord ?_ | with_reducible refine Mz.p_max ?_ | with_reducible refine Mz.p_min ?_ | with_reducible refine Mz.p_abs ?_ | with_reducible refine Mz.p_itT (by decide) rfl ?_ | (with_reducible refine (?_ : Mz.Sat _ _); simp only [List.set_cons_zero, List.set_cons_succ]) | with_reducible refine Mz.x_var (by with_unfolding_all exact rfl) ?_ | with_reducible refine ⟨(by simp only [List.length_cons, List.length_nil, PySem.sizeLine_eq]; omega : (List.length _ ≤ PySem.sizeLine)), ?_⟩))
local macro_rules | `(tactic| walk_at "st") => `(tactic| simp only [Mz.startG, List.map_cons, List.map_nil, List.length_cons, List.length_nil, Nat.reduceAdd, Nat.reduceSub, List.replicate, List.cons_append, List.nil_append, Nat.zero_add])
namespace Tp
open PySem PySem.Spec L2 Mz TL
theorem strOk_of {y : Str} (h : ∀ c ∈ tl y, c < 128) : PyData.strOk y = true := by
  unfold PyData.strOk
  rw [← Array.all_toList, List.all_eq_true]
  intro c hc
  have := h c hc
  simp
  omega
theorem tl_joinC {cs : List Nat} : tl (Txt.join "" (cs.map fun c => (⟨#[c]⟩ : Str))) = cs := by
  rw [join_eq, tl_join, show tl (Str.ofString "") = [] by decide +kernel, Rc.join_empty, Rc.flat_ones]
/-- [z[digit(tape, m)] for k in range(N)] -/
theorem lc_signs {E : PEnv} {z : Str} {m : Int} {N i j n : Nat} {g0 : Sg} {S : Store} {Q : List D → Store → Prop}
    (hd : ∀ S', Tape S' n → Sat (E.F "_law_digit" [.loc n, .int m] S') fun d S'' => ∃ r : Int, d = .int r ∧ 0 ≤ r ∧ r < m ∧ Tape S'' n ∧ Keep n S' S'')
    (hm : m ≤ (z.length : Int)) (hz : z.length ≤ 1000) (hN : N ≤ 1000) (h1 : ∀ d, (g0.set j (some d))[i]? = some (some (.str z))) (h2 : ∀ d, (g0.set j (some d))[0]? = some (some (.loc n))) (ht : Tape S n)
    (q : ∀ (cs : List Nat) S', cs.length = N → (∀ c ∈ cs, c ∈ tl z) → Tape S' n → Keep n S S' → Q (cs.map fun c => .str ⟨#[c]⟩) S') :
    Sat (lcLoop (.vals (Mz.intsFrom 0 N)) (sem E (.var j)).g tsNil (sem E (.sub (.var i) (.call "_law_digit" (.cons (.var 0) (.cons (.int m) .nil))))).e g0 (ibound (.vals (Mz.intsFrom 0 N)) S) 0 [] S) Q := by
  have hl : (Mz.intsFrom 0 N).length = N := by simp [Mz.intsFrom]
  refine lcLoop_vals (fun k acc S' => ∃ cs : List Nat, acc = cs.map (fun c => D.str ⟨#[c]⟩) ∧ cs.length = k ∧ (∀ c ∈ cs, c ∈ tl z) ∧ Tape S' n ∧ Keep n S S') (fun k d acc S' hi p => ?_) (fun acc S' p => ?_) _ 0 _ _ (by simp [ibound]) (Nat.zero_le _) ⟨[], rfl, rfl, fun c h => (by cases h), ht, Keep.refl _ _⟩
  · obtain ⟨cs, rfl, p1, p2, p3, p4⟩ := p
    have hk : k < N := by rw [← hl]; exact (List.getElem?_eq_some_iff.mp hi).1
    refine sat_ok.mpr (sat_ok.mpr ?_)
    refine ⟨fun _ => ?_, fun h => by cases h⟩
    refine x_sub (x_var (h1 d) (x_call (x_cons (x_var (h2 d) (x_cons (x_int (x_nil ?_)))))))
    refine (hd S' p3).mono fun d2 S2 h => ?_
    obtain ⟨r, rfl, r0, r1, t2, k2⟩ := h
    have hr : r.toNat < (tl z).length := by rw [← len_tl]; omega
    refine p_itS (sz (by omega)) r0 (List.getElem?_eq_getElem hr) ⟨?_, cs ++ [(tl z)[r.toNat]], ?_, ?_, ?_, t2, p4.trans k2⟩
    · rw [List.length_map, sizeLine_eq]; omega
    · rw [List.map_append]; rfl
    · rw [List.length_append]; simp; omega
    · intro c hc
      rcases List.mem_append.mp hc with h | h
      · exact p2 c h
      · simp only [List.mem_cons, List.not_mem_nil, or_false] at h
        rw [h]; exact List.getElem_mem hr
  · obtain ⟨cs, rfl, p1, p2, p3, p4⟩ := p
    exact q cs S' (p1.trans hl) p2 p3 p4
theorem p_joinC {S : Store} {Q : D → Store → Prop} {l : Nat} {cs : List Nat} (hS : S[l]? = some (.lst (cs.map fun c => .str ⟨#[c]⟩))) (hl : cs.length ≤ 1000) (q : ∀ y : Str, tl y = cs → Q (.str y) S) : Sat (semMth .join (.str "") [.loc l] S) Q := by
  refine p_join (xs := cs.map fun c => ⟨#[c]⟩) (by rw [List.map_map]; exact hS) ?_ (q _ tl_joinC)
  rw [Rc.sum_ones, List.length_map]
  have : (Str.ofString "").length = 0 := by decide +kernel
  rw [this]
  omega
end Tp

end

section
set_option Elab.async false
set_option linter.all false
set_option maxRecDepth 100000
set_option maxHeartbeats 4000000
namespace k26
open PySem PySem.Spec L2 Mz
def topS (i : Nat) : Stmt := PySem.Challenge.pw_leafround_k26_names_that_are_free.main.body.getD i (.Pass ⟨0, 0, 0, 0⟩)
def t_inner : T := (.cons (.asg (.var 1) (.sub (.var 0) (.int 0))) (.cons (.ifs (.cmp .eq (.var 1) (.str "each")) (.cons (.asg (.tup (.cons (.var 3) (.cons (.var 4) (.cons (.var 5) (.cons (.var 6) (.cons (.var 7) .nil)))))) (.sli (.var 0) (.int 1) .nil)) (.cons (.asg (.var 2) (.lst (.cons (.tup (.cons (.var 5) (.cons (.var 4) .nil))) (.cons (.tup (.cons .non (.cons (.var 6) .nil))) .nil)))) (.cons (.ret (.ife (.cmp .is (.var 7) .non) (.var 2) (.bin .add (.var 2) (.lst (.cons (.tup (.cons (.var 5) (.cons (.var 7) .nil))) .nil))))) .nil))) .nil) (.cons (.ifs (.cmp .eq (.var 1) (.str "let")) (.cons (.ret (.lst (.cons (.tup (.cons .non (.cons (.sub (.var 0) (.int 3)) .nil))) (.cons (.tup (.cons (.sub (.var 0) (.int 2)) (.cons (.sub (.var 0) (.int 4)) .nil))) .nil)))) .nil) .nil) (.cons (.ifs (.cmp .eq (.var 1) (.str "call")) (.cons (.ret (.lc [8] (.var 8) (.sub (.var 0) (.int 3)) .nil (.tup (.cons .non (.cons (.var 8) .nil))))) .nil) .nil) (.cons (.ifs (.cmp .eq (.var 1) (.str "list")) (.cons (.ret (.lc [8] (.var 8) (.sub (.var 0) (.int 2)) .nil (.tup (.cons .non (.cons (.var 8) .nil))))) .nil) .nil) (.cons (.ifs (.cmp .in_ (.var 1) (.tup (.cons (.str "number") (.cons (.str "truth") (.cons (.str "words") (.cons (.str "name") .nil)))))) (.cons (.ret (.lst .nil)) .nil) .nil) (.cons (.ret (.lc [8] (.var 8) (.sli (.var 0) (.int 2) .nil) (.cons (.isi .tuple (.var 8)) .nil) (.tup (.cons .non (.cons (.var 8) .nil))))) .nil)))))))
abbrev s_inner : Stmt := topS 1
theorem sc_inner : FnScope ["tree", "kind", "found", "at", "body", "name", "source", "test", "one"] ["tree"] (defScope s_inner) := ⟨rfl, rfl, rfl, by decide +kernel, rfl, by decide +kernel, by decide +kernel⟩
def t_free : T := (.cons (.asg (.var 2) (.lst .nil)) (.cons (.ifs (.and (.cmp .in_ (.sub (.var 0) (.int 0)) (.tup (.cons (.str "name") (.cons (.str "call") .nil)))) (.cmp .notin (.sub (.var 0) (.int 2)) (.var 1))) (.cons (.ex (.mth .append (.var 2) (.cons (.sub (.var 0) (.int 2)) .nil))) .nil) .nil) (.cons (.for_ (.tup (.cons (.var 3) (.cons (.var 4) .nil))) (.call "inner" (.cons (.var 0) .nil)) (.cons (.asg (.var 5) (.ife (.cmp .is (.var 3) .non) (.var 1) (.bin .add (.var 1) (.tup (.cons (.var 3) .nil))))) (.cons (.ex (.mth .extend (.var 2) (.cons (.lc [6] (.var 6) (.call "free" (.cons (.var 4) (.cons (.var 5) .nil))) (.cons (.cmp .notin (.var 6) (.var 2)) .nil) (.var 6)) .nil))) .nil))) (.cons (.ret (.var 2)) .nil))))
abbrev s_free : Stmt := topS 2
theorem sc_free : FnScope ["tree", "params", "found", "name", "one", "known", "word"] ["tree", "params"] (defScope s_free) := ⟨rfl, rfl, rfl, by decide +kernel, rfl, by decide +kernel, by decide +kernel⟩
def t__law_tape : T := (.cons (.asg (.var 2) (.int 0)) (.cons (.ifs (.cmp .lt (.var 1) (.blt .len (.cons (.var 0) .nil))) (.cons (.asg (.var 2) (.blt .abs (.cons (.sub (.var 0) (.var 1)) .nil))) .nil) .nil) (.cons (.ret (.lst (.cons (.var 2) (.cons (.bin .add (.bin .mod (.bin .add (.bin .mul (.var 1) (.int 7919)) (.var 2)) (.int 998244353)) (.int 1)) .nil)))) .nil)))
abbrev s__law_tape : Stmt := topS 4
theorem sc__law_tape : FnScope ["_law_script", "_law_start", "_law_cell"] ["_law_script", "_law_start"] (defScope s__law_tape) := ⟨rfl, rfl, rfl, by decide +kernel, rfl, by decide +kernel, by decide +kernel⟩
def t__law_digit : T := (.cons (.ifs (.cmp .gt (.sub (.var 0) (.int 0)) (.int 0)) (.cons (.asg (.var 3) (.bin .mod (.sub (.var 0) (.int 0)) (.var 1))) (.cons (.asg (.sub (.var 0) (.int 0)) (.bin .fdiv (.sub (.var 0) (.int 0)) (.var 1))) (.cons (.ret (.var 3)) .nil))) .nil) (.cons (.asg (.sub (.var 0) (.int 1)) (.bin .mod (.bin .add (.bin .mul (.sub (.var 0) (.int 1)) (.int 48271)) (.int 11)) (.int 2147483647))) (.cons (.asg (.var 2) (.bin .mod (.bin .mul (.sub (.var 0) (.int 1)) (.int 40692)) (.int 2147483399))) (.cons (.ret (.bin .mod (.bin .add (.bin .mul (.bin .mod (.bin .mul (.sub (.var 0) (.int 1)) (.sub (.var 0) (.int 1))) (.int 2147483629)) (.int 2147483399)) (.var 2)) (.var 1))) .nil))))
abbrev s__law_digit : Stmt := topS 5
theorem sc__law_digit : FnScope ["_law_tape_here", "_law_many", "_law_more", "_law_found"] ["_law_tape_here", "_law_many"] (defScope s__law_digit) := ⟨rfl, rfl, rfl, by decide +kernel, rfl, by decide +kernel, by decide +kernel⟩
def t__law_name : T := (.cons (.asg (.var 1) (.str "abcdefghijklmnopqrstuvwxyz")) (.cons (.asg (.var 2) (.mth .join (.str "") (.cons (.lc [4] (.var 4) (.irng (.cons (.bin .add (.int 1) (.call "_law_digit" (.cons (.var 0) (.cons (.sub (.lst (.cons (.int 2) (.cons (.int 8) .nil))) (.call "_law_digit" (.cons (.var 0) (.cons (.int 2) .nil)))) .nil)))) .nil)) .nil (.sub (.var 1) (.call "_law_digit" (.cons (.var 0) (.cons (.int 26) .nil))))) .nil))) (.cons (.asg (.var 3) (.lst (.cons (.str "if") (.cons (.str "in") (.cons (.str "or") (.cons (.str "and") (.cons (.str "not") (.cons (.str "for") (.cons (.str "let") (.cons (.str "len") (.cons (.str "sum") (.cons (.str "text") (.cons (.str "rest") (.cons (.str "then") (.cons (.str "else") (.cons (.str "true") (.cons (.str "false") .nil))))))))))))))))) (.cons (.ifs (.cmp .in_ (.var 2) (.var 3)) (.cons (.ret (.bin .add (.str "x") (.var 2))) .nil) .nil) (.cons (.ret (.var 2)) .nil)))))
abbrev s__law_name : Stmt := topS 6
theorem sc__law_name : FnScope ["_law_tape_here", "_law_letters", "_law_word", "_law_kept", "_law_k"] ["_law_tape_here"] (defScope s__law_name) := ⟨rfl, rfl, rfl, by decide +kernel, rfl, by decide +kernel, by decide +kernel⟩
def t__law_closed_tree : T := (.cons (.par 2 3 (.cons (.call "_law_digit" (.cons (.var 0) (.cons (.int 6) .nil))) (.cons (.call "_law_digit" (.cons (.var 0) (.cons (.int 500) .nil))) .nil))) (.cons (.ifs (.cmp .eq (.var 2) (.int 0)) (.cons (.ret (.tup (.cons (.str "number") (.cons (.var 3) (.cons (.call "_law_digit" (.cons (.var 0) (.cons (.sub (.lst (.cons (.int 10) (.cons (.int 1000) (.cons (.bin .pow (.int 10) (.int 60)) .nil)))) (.call "_law_digit" (.cons (.var 0) (.cons (.int 3) .nil)))) .nil))) .nil))))) .nil) .nil) (.cons (.ifs (.cmp .eq (.var 2) (.int 1)) (.cons (.ret (.tup (.cons (.str "truth") (.cons (.var 3) (.cons (.cmp .eq (.call "_law_digit" (.cons (.var 0) (.cons (.int 2) .nil))) (.int 1)) .nil))))) .nil) .nil) (.cons (.ifs (.cmp .eq (.var 2) (.int 2)) (.cons (.asg (.var 4) (.str " abz09AZ#()[]+-=<!*/,.~:")) (.cons (.ret (.tup (.cons (.str "words") (.cons (.var 3) (.cons (.mth .join (.str "") (.cons (.lc [5] (.var 5) (.irng (.cons (.call "_law_digit" (.cons (.var 0) (.cons (.int 6) .nil))) .nil)) .nil (.sub (.var 4) (.call "_law_digit" (.cons (.var 0) (.cons (.int 24) .nil))))) .nil)) .nil))))) .nil)) .nil) (.cons (.ret (.tup (.cons (.str "name") (.cons (.var 3) (.cons (.sub (.var 1) (.call "_law_digit" (.cons (.var 0) (.cons (.blt .len (.cons (.var 1) .nil)) .nil)))) .nil))))) .nil)))))
abbrev s__law_closed_tree : Stmt := topS 7
theorem sc__law_closed_tree : FnScope ["_law_tape_here", "_law_names_here", "_law_way", "_law_at", "_law_signs", "_law_k"] ["_law_tape_here", "_law_names_here"] (defScope s__law_closed_tree) := ⟨rfl, rfl, rfl, by decide +kernel, rfl, by decide +kernel, by decide +kernel⟩
def t__law_tree : T := (.cons (.par 5 6 (.cons (.call "_law_digit" (.cons (.var 0) (.cons (.int 14) .nil))) (.cons (.call "_law_digit" (.cons (.var 0) (.cons (.int 500) .nil))) .nil))) (.cons (.ifs (.or (.cmp .eq (.var 2) (.int 0)) (.cmp .eq (.var 5) (.int 0))) (.cons (.ret (.call "_law_closed_tree" (.cons (.var 0) (.cons (.var 1) .nil)))) .nil) .nil) (.cons (.alc 3 [9] (.var 9) (.irng (.cons (.sub (.lst (.cons (.int 1) (.cons (.int 1) (.cons (.int 2) (.cons (.int 1) (.cons (.int 1) (.cons (.int 2) (.cons (.int 2) (.cons (.int 2) (.cons (.int 2) (.cons (.int 1) (.cons (.int 2) (.cons (.int 2) (.cons (.int 3) (.cons (.int 2) .nil))))))))))))))) (.var 5)) .nil)) .nil (.call "_law_tree" (.cons (.var 0) (.cons (.var 1) (.cons (.bin .sub (.var 2) (.int 1)) .nil))))) (.cons (.ifs (.cmp .eq (.var 5) (.int 1)) (.cons (.ret (.tup (.cons (.str "own") (.cons (.var 6) (.cons (.sub (.lst (.cons (.str "len") (.cons (.str "sum") (.cons (.str "text") .nil)))) (.call "_law_digit" (.cons (.var 0) (.cons (.int 3) .nil)))) (.cons (.sub (.var 3) (.int 0)) .nil)))))) .nil) .nil) (.cons (.ifs (.cmp .in_ (.var 5) (.tup (.cons (.int 2) (.cons (.int 3) .nil)))) (.cons (.alc 7 [9] (.var 9) (.irng (.cons (.call "_law_digit" (.cons (.var 0) (.cons (.int 3) .nil))) .nil)) .nil (.call "_law_closed_tree" (.cons (.var 0) (.cons (.var 1) .nil)))) (.cons (.ret (.tup (.cons (.str "call") (.cons (.var 6) (.cons (.sub (.var 1) (.call "_law_digit" (.cons (.var 0) (.cons (.blt .len (.cons (.var 1) .nil)) .nil)))) (.cons (.blt .tuple1 (.cons (.bin .add (.var 3) (.var 7)) .nil)) .nil)))))) .nil)) .nil) (.cons (.ifs (.cmp .eq (.var 5) (.int 4)) (.cons (.ret (.tup (.cons (.str "minus") (.cons (.var 6) (.cons (.sub (.var 3) (.int 0)) .nil))))) .nil) .nil) (.cons (.ifs (.cmp .in_ (.var 5) (.tup (.cons (.int 5) (.cons (.int 6) (.cons (.int 7) .nil))))) (.cons (.asg (.var 8) (.lst (.cons (.str "+") (.cons (.str "-") (.cons (.str "*") (.cons (.str "//") (.cons (.str "rest") (.cons (.str "==") (.cons (.str "!=") (.cons (.str "<") (.cons (.str "<=") .nil))))))))))) (.cons (.ret (.tup (.cons (.str "sign") (.cons (.var 6) (.cons (.sub (.var 8) (.call "_law_digit" (.cons (.var 0) (.cons (.int 9) .nil)))) (.cons (.sub (.var 3) (.int 0)) (.cons (.sub (.var 3) (.int 1)) .nil))))))) .nil)) .nil) (.cons (.ifs (.cmp .eq (.var 5) (.int 8)) (.cons (.ret (.tup (.cons (.sub (.lst (.cons (.str "and") (.cons (.str "or") .nil))) (.call "_law_digit" (.cons (.var 0) (.cons (.int 2) .nil)))) (.cons (.var 6) (.cons (.sub (.var 3) (.int 0)) (.cons (.sub (.var 3) (.int 1)) .nil)))))) .nil) .nil) (.cons (.ifs (.cmp .eq (.var 5) (.int 9)) (.cons (.ret (.tup (.cons (.str "not") (.cons (.var 6) (.cons (.sub (.var 3) (.int 0)) .nil))))) .nil) .nil) (.cons (.ifs (.cmp .eq (.var 5) (.int 10)) (.cons (.ret (.tup (.cons (.str "pick") (.cons (.var 6) (.cons (.sub (.var 3) (.int 0)) (.cons (.sub (.var 3) (.int 1)) .nil)))))) .nil) .nil) (.cons (.ifs (.cmp .eq (.var 5) (.int 11)) (.cons (.ret (.tup (.cons (.str "let") (.cons (.var 6) (.cons (.sub (.var 1) (.call "_law_digit" (.cons (.var 0) (.cons (.blt .len (.cons (.var 1) .nil)) .nil)))) (.cons (.sub (.var 3) (.int 0)) (.cons (.sub (.var 3) (.int 1)) .nil))))))) .nil) .nil) (.cons (.ifs (.cmp .eq (.var 5) (.int 12)) (.cons (.ret (.tup (.cons (.str "if") (.cons (.var 6) (.cons (.sub (.var 3) (.int 0)) (.cons (.sub (.var 3) (.int 1)) (.cons (.sub (.var 3) (.int 2)) .nil))))))) .nil) .nil) (.cons (.ifs (.cmp .eq (.call "_law_digit" (.cons (.var 0) (.cons (.int 2) .nil))) (.int 0)) (.cons (.ret (.tup (.cons (.str "list") (.cons (.var 6) (.cons (.blt .tuple1 (.cons (.sli (.var 3) .nil (.call "_law_digit" (.cons (.var 0) (.cons (.int 3) .nil)))) .nil)) .nil))))) .nil) .nil) (.cons (.asg (.var 4) .non) (.cons (.ifs (.cmp .eq (.call "_law_digit" (.cons (.var 0) (.cons (.int 2) .nil))) (.int 0)) (.cons (.asg (.var 4) (.call "_law_tree" (.cons (.var 0) (.cons (.var 1) (.cons (.bin .sub (.var 2) (.int 1)) .nil))))) .nil) .nil) (.cons (.ret (.tup (.cons (.str "each") (.cons (.var 6) (.cons (.sub (.var 3) (.int 0)) (.cons (.sub (.var 1) (.call "_law_digit" (.cons (.var 0) (.cons (.blt .len (.cons (.var 1) .nil)) .nil)))) (.cons (.sub (.var 3) (.int 1)) (.cons (.var 4) .nil)))))))) .nil))))))))))))))))
abbrev s__law_tree : Stmt := topS 8
theorem sc__law_tree : FnScope ["_law_tape_here", "_law_names_here", "_law_deep", "_law_some", "_law_test", "_law_way", "_law_at", "_law_more", "_law_signs", "_law_k"] ["_law_tape_here", "_law_names_here", "_law_deep"] (defScope s__law_tree) := ⟨rfl, rfl, rfl, by decide +kernel, rfl, by decide +kernel, by decide +kernel⟩
def t__law_names : T := (.cons (.asg (.var 1) (.lst .nil)) (.cons (.for_ (.var 2) (.irng (.cons (.int 5) .nil)) (.cons (.asg (.var 3) (.call "_law_name" (.cons (.var 0) .nil))) (.cons (.ifs (.cmp .notin (.var 3) (.var 1)) (.cons (.ex (.mth .append (.var 1) (.cons (.var 3) .nil))) .nil) .nil) .nil))) (.cons (.asg (.var 1) (.bin .add (.var 1) (.lc [3] (.var 3) (.lst (.cons (.str "xa") (.cons (.str "xb") (.cons (.str "xc") .nil)))) (.cons (.cmp .notin (.var 3) (.var 1)) .nil) (.var 3)))) (.cons (.ret (.sli (.var 1) .nil (.bin .add (.int 3) (.call "_law_digit" (.cons (.var 0) (.cons (.int 3) .nil)))))) .nil))))
abbrev s__law_names : Stmt := topS 9
theorem sc__law_names : FnScope ["_law_tape_here", "_law_names_here", "_law_k", "_law_name_here"] ["_law_tape_here"] (defScope s__law_names) := ⟨rfl, rfl, rfl, by decide +kernel, rfl, by decide +kernel, by decide +kernel⟩
def t__law_met : T := (.cons (.asg (.var 3) (.sub (.var 0) (.int 0))) (.cons (.ifs (.cmp .in_ (.var 3) (.tup (.cons (.str "name") (.cons (.str "call") .nil)))) (.cons (.ifs (.cmp .notin (.sub (.var 0) (.int 2)) (.var 1)) (.cons (.ex (.mth .append (.var 2) (.cons (.sub (.var 0) (.int 2)) .nil))) .nil) .nil) (.cons (.for_ (.var 5) (.sli (.var 0) (.int 3) .nil) (.cons (.for_ (.var 6) (.var 5) (.cons (.ex (.call "_law_met" (.cons (.var 6) (.cons (.var 1) (.cons (.var 2) .nil))))) .nil)) .nil)) (.cons (.ret .non) .nil))) .nil) (.cons (.ifs (.cmp .eq (.var 3) (.str "let")) (.cons (.ex (.call "_law_met" (.cons (.sub (.var 0) (.int 3)) (.cons (.var 1) (.cons (.var 2) .nil))))) (.cons (.ex (.call "_law_met" (.cons (.sub (.var 0) (.int 4)) (.cons (.bin .add (.var 1) (.lst (.cons (.sub (.var 0) (.int 2)) .nil))) (.cons (.var 2) .nil))))) (.cons (.ret .non) .nil))) .nil) (.cons (.ifs (.cmp .eq (.var 3) (.str "each")) (.cons (.ex (.call "_law_met" (.cons (.sub (.var 0) (.int 2)) (.cons (.bin .add (.var 1) (.lst (.cons (.sub (.var 0) (.int 3)) .nil))) (.cons (.var 2) .nil))))) (.cons (.ex (.call "_law_met" (.cons (.sub (.var 0) (.int 4)) (.cons (.var 1) (.cons (.var 2) .nil))))) (.cons (.ifs (.cmp .isnot (.sub (.var 0) (.int 5)) .non) (.cons (.ex (.call "_law_met" (.cons (.sub (.var 0) (.int 5)) (.cons (.bin .add (.var 1) (.lst (.cons (.sub (.var 0) (.int 3)) .nil))) (.cons (.var 2) .nil))))) .nil) .nil) (.cons (.ret .non) .nil)))) .nil) (.cons (.asg (.var 4) (.sli (.var 0) (.int 2) .nil)) (.cons (.ifs (.cmp .eq (.var 3) (.str "list")) (.cons (.asg (.var 4) (.sub (.var 0) (.int 2))) .nil) .nil) (.cons (.for_ (.var 5) (.var 4) (.cons (.ifs (.isi .tuple (.var 5)) (.cons (.ex (.call "_law_met" (.cons (.var 5) (.cons (.var 1) (.cons (.var 2) .nil))))) .nil) .nil) .nil)) (.cons (.ret .non) .nil))))))))
abbrev s__law_met : Stmt := topS 11
theorem sc__law_met : FnScope ["_law_tree_here", "_law_given", "_law_found", "_law_kind", "_law_parts", "_law_one", "_law_more"] ["_law_tree_here", "_law_given", "_law_found"] (defScope s__law_met) := ⟨rfl, rfl, rfl, by decide +kernel, rfl, by decide +kernel, by decide +kernel⟩
def t_law : T := (.cons (.for_ (.var 1) (.irng (.cons (.blt .max2 (.cons (.int 1) (.cons (.blt .min2 (.cons (.int 5) (.cons (.blt .len (.cons (.var 0) .nil)) .nil))) .nil))) .nil)) (.cons (.asg (.var 2) (.call "_law_tape" (.cons (.var 0) (.cons (.var 1) .nil)))) (.cons (.for_ (.var 3) (.irng (.cons (.int 5) .nil)) (.cons (.asg (.var 4) (.call "_law_names" (.cons (.var 2) .nil))) (.cons (.asg (.var 5) (.call "_law_tree" (.cons (.var 2) (.cons (.var 4) (.cons (.call "_law_digit" (.cons (.var 2) (.cons (.int 6) .nil))) .nil))))) (.cons (.asg (.var 6) (.blt .tuple1 (.cons (.sli (.var 4) .nil (.call "_law_digit" (.cons (.var 2) (.cons (.int 5) .nil)))) .nil))) (.cons (.asg (.var 7) (.lst .nil)) (.cons (.ex (.call "_law_met" (.cons (.var 5) (.cons (.blt .list1 (.cons (.var 6) .nil)) (.cons (.var 7) .nil))))) (.cons (.alc 8 [11, 12] (.tup (.cons (.var 11) (.cons (.var 12) .nil))) (.ienum (.cons (.var 7) .nil)) (.cons (.cmp .notin (.var 12) (.sli (.var 7) .nil (.var 11))) .nil) (.var 12)) (.cons (.for_ (.var 9) (.irng (.cons (.int 2) .nil)) (.cons (.asg (.var 10) (.call "free" (.cons (.var 5) (.cons (.var 6) .nil)))) (.cons (.ifs (.or (.cmp .ne (.var 10) (.var 8)) (.nt (.isi .list (.var 10)))) (.cons (.ret (.bl false)) .nil) .nil) (.cons (.ex (.mth .append (.var 10) (.cons (.str "zz") .nil))) .nil)))) .nil)))))))) .nil))) (.cons (.ret (.bl true)) .nil))
abbrev s_law : Stmt := topS 12
theorem sc_law : FnScope ["_law_script", "_law_start", "_law_tape_here", "_law_turn", "_law_names_here", "_law_tree_here", "_law_params", "_law_met_here", "_law_due", "_law_again", "_law_found", "_law_k", "_law_name_here"] ["_law_script"] (defScope s_law) := ⟨rfl, rfl, rfl, by decide +kernel, rfl, by decide +kernel, by decide +kernel⟩
def prg : Prg where
  tab := [("inner", ⟨1, 9, t_inner⟩), ("free", ⟨2, 7, t_free⟩), ("_law_tape", ⟨2, 3, t__law_tape⟩), ("_law_digit", ⟨2, 4, t__law_digit⟩), ("_law_name", ⟨1, 5, t__law_name⟩), ("_law_closed_tree", ⟨2, 6, t__law_closed_tree⟩), ("_law_tree", ⟨3, 10, t__law_tree⟩), ("_law_names", ⟨1, 4, t__law_names⟩), ("_law_met", ⟨3, 7, t__law_met⟩), ("law", ⟨1, 13, t_law⟩)]
  G := []
theorem ck_inner : (chk prg.st t_inner).b ⟨["tree", "kind", "found", "at", "body", "name", "source", "test", "one"], defScope s_inner, true⟩ (defBody s_inner) = true := by decide +kernel
theorem ck_free : (chk prg.st t_free).b ⟨["tree", "params", "found", "name", "one", "known", "word"], defScope s_free, true⟩ (defBody s_free) = true := by decide +kernel
theorem ck__law_tape : (chk prg.st t__law_tape).b ⟨["_law_script", "_law_start", "_law_cell"], defScope s__law_tape, true⟩ (defBody s__law_tape) = true := by decide +kernel
theorem ck__law_digit : (chk prg.st t__law_digit).b ⟨["_law_tape_here", "_law_many", "_law_more", "_law_found"], defScope s__law_digit, true⟩ (defBody s__law_digit) = true := by decide +kernel
theorem ck__law_name : (chk prg.st t__law_name).b ⟨["_law_tape_here", "_law_letters", "_law_word", "_law_kept", "_law_k"], defScope s__law_name, true⟩ (defBody s__law_name) = true := by decide +kernel
theorem ck__law_closed_tree : (chk prg.st t__law_closed_tree).b ⟨["_law_tape_here", "_law_names_here", "_law_way", "_law_at", "_law_signs", "_law_k"], defScope s__law_closed_tree, true⟩ (defBody s__law_closed_tree) = true := by decide +kernel
theorem ck__law_tree : (chk prg.st t__law_tree).b ⟨["_law_tape_here", "_law_names_here", "_law_deep", "_law_some", "_law_test", "_law_way", "_law_at", "_law_more", "_law_signs", "_law_k"], defScope s__law_tree, true⟩ (defBody s__law_tree) = true := by decide +kernel
theorem ck__law_names : (chk prg.st t__law_names).b ⟨["_law_tape_here", "_law_names_here", "_law_k", "_law_name_here"], defScope s__law_names, true⟩ (defBody s__law_names) = true := by decide +kernel
theorem ck__law_met : (chk prg.st t__law_met).b ⟨["_law_tree_here", "_law_given", "_law_found", "_law_kind", "_law_parts", "_law_one", "_law_more"], defScope s__law_met, true⟩ (defBody s__law_met) = true := by decide +kernel
theorem ck_law : (chk prg.st t_law).b ⟨["_law_script", "_law_start", "_law_tape_here", "_law_turn", "_law_names_here", "_law_tree_here", "_law_params", "_law_met_here", "_law_due", "_law_again", "_law_found", "_law_k", "_law_name_here"], defScope s_law, true⟩ (defBody s_law) = true := by decide +kernel
theorem r_inner (k : Nat) (x0 : D) (S : Store) : prg.run (k + 1) "inner" [x0] S = runBody 9 (sem (prg.env (prg.run k)) t_inner).b [x0] S := by rfl
theorem r_free (k : Nat) (x0 x1 : D) (S : Store) : prg.run (k + 1) "free" [x0, x1] S = runBody 7 (sem (prg.env (prg.run k)) t_free).b [x0, x1] S := by rfl
theorem r__law_tape (k : Nat) (x0 x1 : D) (S : Store) : prg.run (k + 1) "_law_tape" [x0, x1] S = runBody 3 (sem (prg.env (prg.run k)) t__law_tape).b [x0, x1] S := by rfl
theorem r__law_digit (k : Nat) (x0 x1 : D) (S : Store) : prg.run (k + 1) "_law_digit" [x0, x1] S = runBody 4 (sem (prg.env (prg.run k)) t__law_digit).b [x0, x1] S := by rfl
theorem r__law_name (k : Nat) (x0 : D) (S : Store) : prg.run (k + 1) "_law_name" [x0] S = runBody 5 (sem (prg.env (prg.run k)) t__law_name).b [x0] S := by rfl
theorem r__law_closed_tree (k : Nat) (x0 x1 : D) (S : Store) : prg.run (k + 1) "_law_closed_tree" [x0, x1] S = runBody 6 (sem (prg.env (prg.run k)) t__law_closed_tree).b [x0, x1] S := by rfl
theorem r__law_tree (k : Nat) (x0 x1 x2 : D) (S : Store) : prg.run (k + 1) "_law_tree" [x0, x1, x2] S = runBody 10 (sem (prg.env (prg.run k)) t__law_tree).b [x0, x1, x2] S := by rfl
theorem r__law_names (k : Nat) (x0 : D) (S : Store) : prg.run (k + 1) "_law_names" [x0] S = runBody 4 (sem (prg.env (prg.run k)) t__law_names).b [x0] S := by rfl
theorem r__law_met (k : Nat) (x0 x1 x2 : D) (S : Store) : prg.run (k + 1) "_law_met" [x0, x1, x2] S = runBody 7 (sem (prg.env (prg.run k)) t__law_met).b [x0, x1, x2] S := by rfl
theorem r_law (k : Nat) (x0 : D) (S : Store) : prg.run (k + 1) "law" [x0] S = runBody 13 (sem (prg.env (prg.run k)) t_law).b [x0] S := by rfl
end k26

end

section
set_option Elab.async false
set_option linter.all false
set_option maxRecDepth 100000
set_option maxHeartbeats 4000000
local macro_rules | `(tactic| walk_at "go") => `(tactic| repeat (first | with_reducible refine Mz.k_cons ?_ | with_reducible refine Mz.k_asgS ?_ | with_reducible refine Mz.k_retS ?_ | with_reducible refine Mz.k_exS ?_ | with_reducible refine Mz.x_bin ?_ | with_reducible refine Mz.x_cmp ?_ | with_reducible refine Mz.x_sub ?_ | with_reducible refine Mz.x_call ?_ | with_reducible refine Mz.x_blt ?_ | with_reducible refine Mz.x_cons ?_ | with_reducible refine Mz.x_nil ?_ | with_reducible refine Mz.x_tup ?_ | with_reducible refine Mz.x_lst ?_ | with_reducible refine Mz.x_int ?_ | with_reducible refine Mz.x_str ?_ | with_reducible refine Mz.x_bl ?_ | with_reducible refine Mz.x_non ?_ | with_reducible refine Mz.p_add ?_ | with_reducible refine Mz.p_sub ?_ | with_reducible refine Mz.p_eqI ?_ | with_reducible refine Mz.p_neI ?_ | with_reducible refine Mz.p_eqS ?_ | with_reducible refine Mz.p_neS ?_ | with_reducible refine Mz.p_lt ?_ | with_reducible refine Mz.p_le ?_ | with_reducible refine Mz.p_ge ?_ | with_reducible refine Mz.p_gt ?_ | with_reducible refine Mz.y_cmp ?_ | with_reducible refine Mz.x_fst ?_ | with_reducible refine Mz.j_cons ?_ | with_reducible refine Mz.j_nil ?_ | with_reducible refine Mz.x_fmt ?_ | with_reducible refine Mz.x_chain ?_ | with_reducible refine Mz.y_chain ?_ | with_reducible refine Mz.p_leS ?_ | with_reducible refine Mz.p_is ?_ | with_reducible refine Mz.p_isnot ?_ | with_reducible refine Mz.p_ord ?_ | with_reducible refine Mz.p_max ?_ | with_reducible refine Mz.p_min ?_ | with_reducible refine Mz.p_abs ?_ | with_reducible refine Mz.p_itT (by decide) rfl ?_ | (with_reducible refine (?_ : Mz.Sat _ _); simp only [List.set_cons_zero, List.set_cons_succ]) | ((with_reducible apply Mz.x_var); next => exact rfl) | with_reducible refine ⟨(by simp only [List.length_cons, List.length_nil, PySem.sizeLine_eq]; omega : (List.length _ ≤ PySem.sizeLine)), ?_⟩))
local macro_rules | `(tactic| walk_at "st") => `(tactic| simp only [Mz.startG, List.map_cons, List.map_nil, List.length_cons, List.length_nil, Nat.reduceAdd, Nat.reduceSub, List.replicate, List.cons_append, List.nil_append, Nat.zero_add])
namespace k26
open PySem PySem.Spec L2 Mz
/-! ### the trees -/
def Met := List Str → List Str
def catF (fs : List Met) (g : List Str) : List Str := (fs.map (· g)).flatten
def scal : D → Bool
  | .str _ => true | .int _ => true | .bl _ => true
  | _ => false
def one (w : Str) (g : List Str) : List Str := if w ∈ g then [] else [w]
inductive Tr : Nat → D → Met → Prop
  | leaf (k : Nat) (kind : Str) (v a : D) : (kind = "number" ∨ kind = "truth" ∨ kind = "words") → scal v = true → Tr k (.tup [.str kind, a, v]) (fun _ => [])
  | name (k : Nat) (w : Str) (a : D) : Tr k (.tup [.str "name", a, .str w]) (one w)
  | call (k : Nat) (w : Str) (a : D) (ts : List D) (fs : List Met) : ts.length = fs.length → ts.length ≤ 5 → (∀ (i : Nat) (t : D) (f : Met), ts[i]? = some t → fs[i]? = some f → Tr k t f) → Tr (k + 1) (.tup [.str "call", a, .str w, .tup ts]) (fun g => one w g ++ catF fs g)
  | list (k : Nat) (a : D) (ts : List D) (fs : List Met) : ts.length = fs.length → ts.length ≤ 5 → (∀ (i : Nat) (t : D) (f : Met), ts[i]? = some t → fs[i]? = some f → Tr k t f) → Tr (k + 1) (.tup [.str "list", a, .tup ts]) (catF fs)
  | let_ (k : Nat) (w : Str) (a x y : D) (fx fy : Met) : Tr k x fx → Tr k y fy → Tr (k + 1) (.tup [.str "let", a, .str w, x, y]) (fun g => fx g ++ fy (g ++ [w]))
  | each0 (k : Nat) (w : Str) (a x y : D) (fx fy : Met) : Tr k x fx → Tr k y fy → Tr (k + 1) (.tup [.str "each", a, x, .str w, y, .non]) (fun g => fx (g ++ [w]) ++ fy g)
  | each1 (k : Nat) (w : Str) (a x y z : D) (fx fy fz : Met) : Tr k x fx → Tr k y fy → Tr k z fz → Tr (k + 1) (.tup [.str "each", a, x, .str w, y, z]) (fun g => fx (g ++ [w]) ++ fy g ++ fz (g ++ [w]))
  | other (k : Nat) (kind : Str) (a : D) (pre ts : List D) (fs : List Met) : kind ∈ ([("own" : Str), "minus", "sign", "and", "or", "not", "pick", "if"] : List Str) → pre.length ≤ 1 → pre.all scal = true → ts.length = fs.length → ts.length ≤ 5 → (∀ (i : Nat) (t : D) (f : Met), ts[i]? = some t → fs[i]? = some f → Tr k t f) → Tr (k + 1) (.tup (.str kind :: a :: (pre ++ ts))) (catF fs)
theorem Tr.isTup {k : Nat} {t : D} {f : Met} (h : Tr k t f) : ∃ xs, t = .tup xs := by
  cases h <;> exact ⟨_, rfl⟩
def cnt : Nat → Nat
  | 0 => 6
  | k + 1 => 7 * cnt k
theorem cnt_pos : ∀ k, 6 ≤ cnt k
  | 0 => Nat.le_refl _
  | k + 1 => by have := cnt_pos k; show 6 ≤ 7 * cnt k; omega
theorem one_len {w : Str} {g : List Str} : (one w g).length ≤ 1 := by
  unfold one; split <;> simp
theorem cat_len {fs : List Met} {g : List Str} {c : Nat} (h : ∀ f ∈ fs, (f g).length ≤ c) : (catF fs g).length ≤ fs.length * c := by
  unfold catF
  induction fs with
  | nil => simp
  | cons f fs ih =>
    have h1 := h f (List.mem_cons_self ..)
    have h2 := ih fun f hf => h f (List.mem_cons_of_mem _ hf)
    rw [List.map_cons, List.flatten_cons, List.length_append, List.length_cons, Nat.add_mul]
    omega
theorem Tr.len {k : Nat} {t : D} {f : Met} (h : Tr k t f) : ∀ g, (f g).length ≤ cnt k := by
  have cat : ∀ (k : Nat) (ts : List D) (fs : List Met), ts.length = fs.length → ts.length ≤ 5 → (∀ (i : Nat) (t : D) (f : Met), ts[i]? = some t → fs[i]? = some f → ∀ g, (f g).length ≤ cnt k) → ∀ g, (catF fs g).length ≤ 5 * cnt k := by
    intro k ts fs hl h5 ih g
    have := cat_len (fs := fs) (g := g) (c := cnt k) fun f hf => by
      obtain ⟨i, hi, rfl⟩ := List.getElem_of_mem hf
      exact ih i ts[i] fs[i] (List.getElem?_eq_getElem (by omega)) (List.getElem?_eq_getElem hi) g
    have h2 : fs.length * cnt k ≤ 5 * cnt k := Nat.mul_le_mul_right _ (by omega)
    omega
  induction h with
  | leaf => intro g; exact Nat.zero_le _
  | name k w a => intro g; have := one_len (w := w) (g := g); have := cnt_pos k; omega
  | call k w a ts fs hl h5 _ ih =>
    intro g
    have := cat k ts fs hl h5 ih g
    have := one_len (w := w) (g := g)
    have := cnt_pos k
    show (one w g ++ catF fs g).length ≤ 7 * cnt k
    rw [List.length_append]; omega
  | list k a ts fs hl h5 _ ih =>
    intro g
    have := cat k ts fs hl h5 ih g
    show (catF fs g).length ≤ 7 * cnt k
    omega
  | let_ k w a x y fx fy _ _ ix iy =>
    intro g
    have := ix g
    have := iy (g ++ [w])
    show (fx g ++ fy (g ++ [w])).length ≤ 7 * cnt k
    rw [List.length_append]; omega
  | each0 k w a x y fx fy _ _ ix iy =>
    intro g
    have := ix (g ++ [w])
    have := iy g
    show (fx (g ++ [w]) ++ fy g).length ≤ 7 * cnt k
    rw [List.length_append]; omega
  | each1 k w a x y z fx fy fz _ _ _ ix iy iz =>
    intro g
    have := ix (g ++ [w])
    have := iy g
    have := iz (g ++ [w])
    show (fx (g ++ [w]) ++ fy g ++ fz (g ++ [w])).length ≤ 7 * cnt k
    rw [List.length_append, List.length_append]; omega
  | other k kind a pre ts fs _ _ _ hl h5 _ ih =>
    intro g
    have := cat k ts fs hl h5 ih g
    show (catF fs g).length ≤ 7 * cnt k
    omega
theorem catF_take {fs : List Met} {g : List Str} {i : Nat} {f : Met} (h : fs[i]? = some f) : catF (fs.take (i + 1)) g = catF (fs.take i) g ++ f g := by
  unfold catF
  rw [List.take_add_one, h]
  simp
/-! ### membership of texts -/
section
variable {S : Store} {Q : D → Store → Prop}
theorem any_str {w : Str} : ∀ ws : List Str, ((ws.map D.str).any fun y => eqF y (.str w)) = decide (w ∈ ws)
  | [] => rfl
  | x :: ws => by
    rw [List.map_cons, List.any_cons, any_str ws]
    rw [Bool.eq_iff_iff]
    simp only [Bool.or_eq_true, decide_eq_true_eq, List.mem_cons]
    constructor
    · rintro (h | h)
      · exact .inl (eq_of_beq (show (x == w) = true from h)).symm
      · exact .inr h
    · rintro (rfl | h)
      · exact .inl (beq_self_eq_true w)
      · exact .inr h
theorem flat_str : ∀ ws : List Str, (ws.map D.str).all flatD = true
  | [] => rfl
  | x :: ws => by rw [List.map_cons, List.all_cons, flat_str ws]; rfl
theorem in_strs {w : Str} {e : D} {ws : List Str} (he : seqAt S e = some (ws.map D.str)) (hn : ∀ y, e ≠ .str y) : inD (.str w) e S = some (decide (w ∈ ws)) := by
  have h : inD (.str w) e S = (match seqAt S e with
    | some ys => if (flatD (.str w) && ys.all flatD) = true then some (ys.any fun y => eqF y (.str w)) else match toPy S 70 (.str w), toPy S 70 e with
      | some p, some (.list qs) => if (SeqAt.shaped p && SeqAt.shaped (.list qs)) = true then some (qs.any fun z => PyData.eqv z p) else none
      | _, _ => none
    | none => none) := by
    cases e <;> first | rfl | exact absurd rfl (hn _)
  rw [h, he]
  simp only [flat_str, any_str]
  rfl
theorem p_inStrL {w : Str} {l : Nat} {ws : List Str} (h : S[l]? = some (.lst (ws.map .str))) (q : Q (.bl (decide (w ∈ ws))) S) : Sat (semCop .in_ (.str w) (.loc l) S) Q := by
  unfold semCop
  simp only [in_strs (seqAt_loc h) (fun y e => by cases e)]
  exact q
theorem p_ninStrL {w : Str} {l : Nat} {ws : List Str} (h : S[l]? = some (.lst (ws.map .str))) (q : Q (.bl (!decide (w ∈ ws))) S) : Sat (semCop .notin (.str w) (.loc l) S) Q := by
  unfold semCop
  simp only [in_strs (seqAt_loc h) (fun y e => by cases e)]
  exact q
theorem p_inStrT {w : Str} {ws : List Str} (q : Q (.bl (decide (w ∈ ws))) S) : Sat (semCop .in_ (.str w) (.tup (ws.map .str)) S) Q := by
  unfold semCop
  simp only [in_strs (S := S) (e := .tup (ws.map .str)) rfl (fun y e => by cases e)]
  exact q
theorem p_ninStrT {w : Str} {ws : List Str} (q : Q (.bl (!decide (w ∈ ws))) S) : Sat (semCop .notin (.str w) (.tup (ws.map .str)) S) Q := by
  unfold semCop
  simp only [in_strs (S := S) (e := .tup (ws.map .str)) rfl (fun y e => by cases e)]
  exact q
theorem isi_tup {xs : List D} : semIsi .tuple (.tup xs) S = .ok (.bl true) S := by
  unfold semIsi
  have : kitB "tuple" "tuple" = some true := by decide +kernel
  simp only [tyNm, Ity.nm, this]
theorem isi_scal {d : D} (h : scal d = true) : semIsi .tuple d S = .ok (.bl false) S := by
  have h1 : kitB "str" "tuple" = some false := by decide +kernel
  have h2 : kitB "int" "tuple" = some false := by decide +kernel
  have h3 : kitB "bool" "tuple" = some false := by decide +kernel
  unfold semIsi
  cases d with
  | str x => simp only [tyNm, Ity.nm, h1]
  | int x => simp only [tyNm, Ity.nm, h2]
  | bl x => simp only [tyNm, Ity.nm, h3]
  | _ => cases h
end
theorem cut2 {a b : D} {l : List D} : cutD (a :: b :: l) (some 2) none = l := by
  unfold cutD
  rw [show (2 : Int) = ((2 : Nat) : Int) from rfl, HT.sIx_nat, HT.sIx_none, List.length_cons, List.length_cons, Nat.min_eq_left (by omega)]
  show (l.take (l.length + 1 + 1 - 2)) = l
  exact List.take_of_length_le (by omega)
end k26

end

section
set_option Elab.async false
set_option linter.all false
set_option maxRecDepth 100000
set_option maxHeartbeats 4000000
local macro_rules | `(tactic| walk_at "go") => `(tactic| repeat (first | with_reducible refine Mz.k_cons ?_ | with_reducible refine Mz.k_asgS ?_ | with_reducible refine Mz.k_retS ?_ | with_reducible refine Mz.k_exS ?_ | with_reducible refine Mz.x_bin ?_ | with_reducible refine Mz.x_cmp ?_ | with_reducible refine Mz.x_sub ?_ | with_reducible refine Mz.x_call ?_ | with_reducible refine Mz.x_blt ?_ | with_reducible refine Mz.x_cons ?_ | with_reducible refine Mz.x_nil ?_ | with_reducible refine Mz.x_tup ?_ | with_reducible refine Mz.x_lst ?_ | with_reducible refine Mz.x_int ?_ | with_reducible refine Mz.x_str ?_ | with_reducible refine Mz.x_bl ?_ | with_reducible refine Mz.x_non ?_ | with_reducible refine Mz.p_add ?_ | with_reducible refine Mz.p_sub ?_ | with_reducible refine Mz.p_eqI ?_ | with_reducible refine Mz.p_neI ?_ | with_reducible refine Mz.p_eqS ?_ | with_reducible refine Mz.p_neS ?_ | with_reducible refine Mz.p_lt ?_ | with_reducible refine Mz.p_le ?_ | with_reducible refine Mz.p_ge ?_ | with_reducible refine Mz.p_gt ?_ | with_reducible refine Mz.y_cmp ?_ | with_reducible refine Mz.x_fst ?_ | with_reducible refine Mz.j_cons ?_ | with_reducible refine Mz.j_nil ?_ | with_reducible refine Mz.x_fmt ?_ | with_reducible refine Mz.x_chain ?_ | with_reducible refine Mz.y_chain ?_ | with_reducible refine Mz.p_leS ?_ | with_reducible refine Mz.p_is ?_ | with_reducible refine Mz.p_isnot ?_ | with_reducible refine Mz.p_ord ?_ | with_reducible refine Mz.p_max ?_ | with_reducible refine Mz.p_min ?_ | with_reducible refine Mz.p_abs ?_ | with_reducible refine Mz.p_itT (by decide) rfl ?_ | (with_reducible refine (?_ : Mz.Sat _ _); simp only [List.set_cons_zero, List.set_cons_succ]) | ((with_reducible apply Mz.x_var); next => exact rfl) | with_reducible refine ⟨(by simp only [List.length_cons, List.length_nil, PySem.sizeLine_eq]; omega : (List.length _ ≤ PySem.sizeLine)), ?_⟩))
local macro_rules | `(tactic| walk_at "st") => `(tactic| simp only [Mz.startG, List.map_cons, List.map_nil, List.length_cons, List.length_nil, Nat.reduceAdd, Nat.reduceSub, List.replicate, List.cons_append, List.nil_append, Nat.zero_add])
namespace k26
open PySem PySem.Spec L2 Mz
section
variable {S : Store} {Q : D → Store → Prop}
theorem x_isi {E : PEnv} {a : T} {g : Sg} {t : Ity} {Q : D → Store → Prop} (h : Sat ((sem E a).e g S) fun d S => Sat (semIsi t d S) Q) : Sat ((sem E (.isi t a)).e g S) Q := sat_bind.mpr h
theorem y_isi {E : PEnv} {a : T} {g : Sg} {t : Ity} {Q : Bool → Store → Prop} (h : Sat ((sem E a).e g S) fun d S => Sat (semIsi t d S) fun d S => ∃ b, d = .bl b ∧ Q b S) : Sat ((sem E (.isi t a)).t g S) Q :=
  y_of (x_isi (E := E) (h.mono fun d S h => h.mono fun d S h => by obtain ⟨b, rfl, q⟩ := h; exact ⟨b, rfl, q⟩))
theorem i_eT {E : PEnv} {t : T} {g : Sg} {QI : IK → Store → Prop} (h0 : (sem E t).i = iVal (sem E t).e) (h : Sat ((sem E t).e g S) fun d S => ∃ xs, d = .tup xs ∧ QI (.vals xs) S) : Sat ((sem E t).i g S) QI := by
  rw [h0]
  refine sat_bind.mpr (h.mono fun d S h => ?_)
  obtain ⟨xs, rfl, q⟩ := h
  exact q
theorem p_addLL {l m : Nat} {xs ys : List D} (h : S[l]? = some (.lst xs)) (h' : S[m]? = some (.lst ys)) (hl : xs.length + ys.length ≤ 1000000) (q : Q (.loc S.length) (S ++ [.lst (xs ++ ys)])) : Sat (semBop .add (.loc l) (.loc m) S) Q := by
  unfold semBop
  simp only [lstAt_loc h, lstAt_loc h']
  exact sat_guard.mpr ⟨by rw [sizeLine_eq]; omega, q⟩
theorem p_addTT {xs ys : List D} (hl : xs.length + ys.length ≤ 1000000) (q : Q (.tup (xs ++ ys)) S) : Sat (semBop .add (.tup xs) (.tup ys) S) Q := sat_guard.mpr ⟨by rw [sizeLine_eq]; omega, q⟩
end
/-- what _law_met is to do at one tree -/
def MetOk (k : Nat) (t : D) (f : Met) : Prop := ∀ (K : Nat) (S : Store) (g r : Nat) (gs out : List Str), k + 1 ≤ K → S[g]? = some (.lst (gs.map .str)) → S[r]? = some (.lst (out.map .str)) → g ≠ r → gs.length + k ≤ 1000 → out.length + cnt k ≤ 10000000 →
  Sat (prg.run K "_law_met" [t, .loc g, .loc r] S) fun d S' => S'[r]? = some (.lst ((out ++ f gs).map .str)) ∧ Keep r S S'
theorem cat_take_len {k : Nat} {ts : List D} {fs : List Met} {gs : List Str} {i : Nat} (hl : ts.length = fs.length) (h5 : ts.length ≤ 5) (tl : ∀ (i : Nat) (t : D) (f : Met), ts[i]? = some t → fs[i]? = some f → Tr k t f) : (catF (fs.take i) gs).length ≤ 5 * cnt k := by
  have := cat_len (fs := fs.take i) (g := gs) (c := cnt k) fun f hf => by
    obtain ⟨j, hj, rfl⟩ := List.getElem_of_mem hf
    rw [List.length_take] at hj
    rw [List.getElem_take]
    exact (tl j ts[j] _ (List.getElem?_eq_getElem (by omega)) (List.getElem?_eq_getElem (by omega))).len gs
  have h2 : (fs.take i).length * cnt k ≤ 5 * cnt k := Nat.mul_le_mul_right _ (by rw [List.length_take]; omega)
  omega
def t_tail : T := (.cons (.for_ (.var 5) (.var 4) (.cons (.ifs (.isi .tuple (.var 5)) (.cons (.ex (.call "_law_met" (.cons (.var 5) (.cons (.var 1) (.cons (.var 2) .nil))))) .nil) .nil) .nil)) (.cons (.ret .non) .nil))
theorem parts {k K : Nat} {pre ts : List D} {fs : List Met} (hp : pre.all scal = true) (hl : ts.length = fs.length) (h5 : ts.length ≤ 5) (ih : ∀ (i : Nat) (t : D) (f : Met), ts[i]? = some t → fs[i]? = some f → MetOk k t f) (tl : ∀ (i : Nat) (t : D) (f : Met), ts[i]? = some t → fs[i]? = some f → Tr k t f)
    {S : Store} {g r : Nat} {gs out : List Str} {v0 v3 : Option D} (hK : ts ≠ [] → k + 1 ≤ K ∧ gs.length + k ≤ 1000 ∧ out.length + 6 * cnt k ≤ 10000000) (hg : S[g]? = some (.lst (gs.map .str))) (hr : S[r]? = some (.lst (out.map .str))) (gr : g ≠ r) {v5 v6 : Option D} :
    SatR ((sem (prg.env (prg.run K)) t_tail).b [v0, some (.loc g), some (.loc r), v3, some (.tup (pre ++ ts)), v5, v6] S) (fun _ S' => S'[r]? = some (.lst ((out ++ catF fs gs).map .str)) ∧ Keep r S S') (fun _ S' => S'[r]? = some (.lst ((out ++ catF fs gs).map .str)) ∧ Keep r S S') (fun _ _ => False) (fun _ _ => False) := by
  unfold t_tail
  refine k_cons (k_forS (i_vT rfl ?_))
  refine floop_vals (fun i g1 S1 => (∃ v5 v6, g1 = [v0, some (.loc g), some (.loc r), v3, some (.tup (pre ++ ts)), v5, v6]) ∧ S1[r]? = some (.lst ((out ++ catF (fs.take (i - pre.length)) gs).map .str)) ∧ Keep r S S1) (fun i d g1 S1 hi p => ?_) (fun g1 S1 p => ?_) _ 0 _ _ (by simp [ibound]) (Nat.zero_le _) ⟨⟨_, _, rfl⟩, by simpa [catF] using hr, Keep.refl _ _⟩
  · obtain ⟨⟨v5, v6, rfl⟩, p2, p3⟩ := p
    refine sat_ok.mpr ?_
    refine k_cons (k_ifS (y_isi ?_))
    walk_at "go"
    by_cases hi2 : i < pre.length
    · rw [List.getElem?_append_left hi2] at hi
      have hd := List.all_eq_true.mp hp d (List.mem_of_getElem? hi)
      rw [isi_scal hd]
      refine sat_ok.mpr ⟨false, rfl, fun h => (by cases h), fun _ => k_nil (k_nil ⟨⟨_, _, rfl⟩, ?_, p3⟩)⟩
      rw [show i + 1 - pre.length = i - pre.length by omega]
      exact p2
    · rw [List.getElem?_append_right (by omega)] at hi
      have hlt := (List.getElem?_eq_some_iff.mp hi).1
      have hi3 : i - pre.length < fs.length := by omega
      have hf := List.getElem?_eq_getElem hi3
      have htr := tl _ d _ hi hf
      have fl := htr.len gs
      have cl := cat_take_len (gs := gs) (i := i - pre.length) hl h5 tl
      obtain ⟨xs, hxs⟩ := htr.isTup
      have e : semIsi .tuple d S1 = .ok (.bl true) S1 := by rw [hxs]; exact isi_tup
      rw [e]
      refine sat_ok.mpr ⟨true, rfl, fun _ => ?_, fun h => by cases h⟩
      walk_at "go"
      obtain ⟨hK, hgs, ho⟩ := hK (by rintro rfl; simp at hlt)
      refine (ih _ d _ hi hf K S1 g r gs (out ++ catF (fs.take (i - pre.length)) gs) hK (p3.at hg gr) p2 gr hgs (by rw [List.length_append]; omega)).mono fun d2 S' h => k_nil (k_nil ⟨⟨_, _, rfl⟩, ?_, p3.trans h.2⟩)
      rw [show i + 1 - pre.length = i - pre.length + 1 by omega, catF_take hf, ← List.append_assoc]
      exact h.1
  · obtain ⟨⟨v5, v6, rfl⟩, p2, p3⟩ := p
    rw [List.take_of_length_le (by rw [List.length_append]; omega)] at p2
    walk_at "go"
    exact ⟨p2, p3⟩
theorem args {k K : Nat} {ts : List D} {fs : List Met} (hl : ts.length = fs.length) (h5 : ts.length ≤ 5) (ih : ∀ (i : Nat) (t : D) (f : Met), ts[i]? = some t → fs[i]? = some f → MetOk k t f) (tl : ∀ (i : Nat) (t : D) (f : Met), ts[i]? = some t → fs[i]? = some f → Tr k t f)
    {S : Store} {g r : Nat} {gs out : List Str} {v0 v3 v4 : Option D} (hK : k + 1 ≤ K ∧ gs.length + k ≤ 1000 ∧ out.length + 6 * cnt k ≤ 10000000) (hg : S[g]? = some (.lst (gs.map .str))) (hr : S[r]? = some (.lst (out.map .str))) (gr : g ≠ r) {v6 : Option D} {N B C : Sg → Store → Prop} {Rt : D → Store → Prop}
    (done : ∀ v6 S', S'[r]? = some (.lst ((out ++ catF fs gs).map .str)) → Keep r S S' → N [v0, some (.loc g), some (.loc r), v3, v4, some (.tup ts), v6] S') :
    SatR ((sem (prg.env (prg.run K)) (.for_ (.var 6) (.var 5) (.cons (.ex (.call "_law_met" (.cons (.var 6) (.cons (.var 1) (.cons (.var 2) .nil))))) .nil))).s [v0, some (.loc g), some (.loc r), v3, v4, some (.tup ts), v6] S) N Rt B C := by
  refine k_forS (i_vT rfl ?_)
  refine floop_vals (fun i g1 S1 => (∃ v6, g1 = [v0, some (.loc g), some (.loc r), v3, v4, some (.tup ts), v6]) ∧ S1[r]? = some (.lst ((out ++ catF (fs.take i) gs).map .str)) ∧ Keep r S S1) (fun i d g1 S1 hi p => ?_) (fun g1 S1 p => ?_) _ 0 _ _ (by simp [ibound]) (Nat.zero_le _) ⟨⟨_, rfl⟩, by simpa [catF] using hr, Keep.refl _ _⟩
  · obtain ⟨⟨v6, rfl⟩, p2, p3⟩ := p
    refine sat_ok.mpr ?_
    have hlt := (List.getElem?_eq_some_iff.mp hi).1
    have hi3 : i < fs.length := by omega
    have hf := List.getElem?_eq_getElem hi3
    have htr := tl _ d _ hi hf
    have fl := htr.len gs
    have cl := cat_take_len (gs := gs) (i := i) hl h5 tl
    walk_at "go"
    refine (ih _ d _ hi hf K S1 g r gs (out ++ catF (fs.take i) gs) hK.1 (p3.at hg gr) p2 gr hK.2.1 (by rw [List.length_append]; omega)).mono fun d2 S' h => k_nil ⟨⟨_, rfl⟩, ?_, p3.trans h.2⟩
    rw [catF_take hf, ← List.append_assoc]
    exact h.1
  · obtain ⟨⟨v6, rfl⟩, p2, p3⟩ := p
    rw [List.take_of_length_le (by omega)] at p2
    exact done _ _ p2 p3
/-- the tests ahead -/
structure Kind (kind : Str) : Prop where
  n1 : kind ≠ "name"
  n2 : kind ≠ "call"
  n3 : kind ≠ "let"
  n4 : kind ≠ "each"
theorem ty2 {w : Str} : [D.str "name", D.str "call"] = ([("name" : Str), "call"] : List Str).map D.str := rfl
def t_parts : T := (.cons (.asg (.var 4) (.sli (.var 0) (.int 2) .nil)) (.cons (.ifs (.cmp .eq (.var 3) (.str "list")) (.cons (.asg (.var 4) (.sub (.var 0) (.int 2))) .nil) .nil) t_tail))
theorem met_start {K : Nat} {kind : Str} {a : D} {l : List D} {S : Store} {g r : Nat} {Q : D → Store → Prop} (hk : Kind kind)
    (q : SatR ((sem (prg.env (prg.run K)) t_parts).b [some (.tup (.str kind :: a :: l)), some (.loc g), some (.loc r), some (.str kind), none, none, none] S) (fun _ S => Q .non S) Q (fun _ _ => False) (fun _ _ => False)) :
    Sat (prg.run (K + 1) "_law_met" [.tup (.str kind :: a :: l), .loc g, .loc r] S) Q := by
  rw [run_of (p := prg) (f := "_law_met") rfl rfl, sat_runBody]; unfold t__law_met
  walk_at "st"
  walk_at "go"
  refine k_ifS ?_
  walk_at "go"
  rw [ty2 (w := kind)]
  refine p_inStrT ⟨_, rfl, fun h => ?_, fun h => k_nil ?_⟩
  · have h := of_decide_eq_true h
    simp only [List.mem_cons, List.not_mem_nil, or_false] at h
    rcases h with h | h
    · exact absurd h hk.n1
    · exact absurd h hk.n2
  walk_at "go"
  refine k_ifS ?_
  walk_at "go"
  refine ⟨_, rfl, fun h => absurd (of_decide_eq_true h) hk.n3, fun h => k_nil ?_⟩
  walk_at "go"
  refine k_ifS ?_
  walk_at "go"
  refine ⟨_, rfl, fun h => absurd (of_decide_eq_true h) hk.n4, fun h => k_nil ?_⟩
  exact q
theorem met_gen {k K : Nat} {kind : Str} {a : D} {pre ts : List D} {fs : List Met} (hk : Kind kind) (hn : kind ≠ "list") (hp : pre.all scal = true) (hl : ts.length = fs.length) (h5 : ts.length ≤ 5) (ih : ∀ (i : Nat) (t : D) (f : Met), ts[i]? = some t → fs[i]? = some f → MetOk k t f) (tl : ∀ (i : Nat) (t : D) (f : Met), ts[i]? = some t → fs[i]? = some f → Tr k t f)
    {S : Store} {g r : Nat} {gs out : List Str} (hK : ts ≠ [] → k + 1 ≤ K ∧ gs.length + k ≤ 1000 ∧ out.length + 6 * cnt k ≤ 10000000) (hg : S[g]? = some (.lst (gs.map .str))) (hr : S[r]? = some (.lst (out.map .str))) (gr : g ≠ r) :
    Sat (prg.run (K + 1) "_law_met" [.tup (.str kind :: a :: (pre ++ ts)), .loc g, .loc r] S) fun d S' => S'[r]? = some (.lst ((out ++ catF fs gs).map .str)) ∧ Keep r S S' := by
  refine met_start hk ?_
  unfold t_parts
  refine k_cons (k_asgS (x_sliD rfl ?_))
  walk_at "go"
  refine ⟨2, rfl, p_cutT cut2 ?_⟩
  walk_at "go"
  refine k_ifS ?_
  walk_at "go"
  refine ⟨_, rfl, fun h => absurd (of_decide_eq_true h) hn, fun h => k_nil ?_⟩
  exact parts hp hl h5 ih tl hK hg hr gr
theorem k_in2 {E : PEnv} {S : Store} {kind : Str} {Q : D → Store → Prop} (q : Q (.bl (decide (kind ∈ ([("name" : Str), "call"] : List Str)))) S) : Sat (semCop .in_ (.str kind) (.tup [.str "name", .str "call"]) S) Q := p_inStrT (ws := [("name" : Str), "call"]) q
theorem cut3a {a b c : D} : cutD [a, b, c] (some 3) none = [] := rfl
theorem cut3b {a b c d : D} : cutD [a, b, c, d] (some 3) none = [d] := rfl
theorem met_ok : ∀ {k : Nat} {t : D} {f : Met}, Tr k t f → MetOk k t f := by
  intro k t f h
  induction h with
  | leaf k kind v a hk hv =>
    intro K S g r gs out hK hg hr gr hgs ho
    obtain ⟨K, rfl⟩ : ∃ j, K = j + 1 := ⟨K - 1, by omega⟩
    have k1 : Kind kind ∧ kind ≠ "list" := by
      rcases hk with rfl | rfl | rfl <;> exact ⟨⟨by decide +kernel, by decide +kernel, by decide +kernel, by decide +kernel⟩, by decide +kernel⟩
    exact met_gen (k := 0) (pre := [v]) (ts := []) (fs := []) k1.1 k1.2 (by simp [hv]) rfl (by decide) (fun i t f h => by simp at h) (fun i t f h => by simp at h) (fun h => absurd rfl h) hg hr gr
  | name k w a =>
    intro K S g r gs out hK hg hr gr hgs ho
    obtain ⟨K, rfl⟩ : ∃ j, K = j + 1 := ⟨K - 1, by omega⟩
    rw [run_of (p := prg) (f := "_law_met") rfl rfl, sat_runBody]; unfold t__law_met
    walk_at "st"
    walk_at "go"
    refine k_ifS ?_
    walk_at "go"
    refine p_inStrT (ws := [("name" : Str), "call"]) ⟨_, rfl, fun h => ?_, fun h => absurd h (by decide +kernel)⟩
    have fin : ∀ (S' : Store) (out' : List Str), S'[r]? = some (.lst (out'.map .str)) → Keep r S S' → SatR ((sem (prg.env (prg.run K)) (.cons (.for_ (.var 5) (.sli (.var 0) (.int 3) .nil) (.cons (.for_ (.var 6) (.var 5) (.cons (.ex (.call "_law_met" (.cons (.var 6) (.cons (.var 1) (.cons (.var 2) .nil))))) .nil)) .nil)) (.cons (.ret .non) .nil))).b [some (.tup [.str "name", a, .str w]), some (.loc g), some (.loc r), some (.str "name"), none, none, none] S') (fun _ _ => False) (fun _ S'' => S''[r]? = some (.lst (out'.map .str)) ∧ Keep r S S'') (fun _ _ => False) (fun _ _ => False) := by
      intro S' out' h1 h2
      refine k_cons (k_forS ?_)
      refine i_eT rfl (x_sliD rfl ?_)
      walk_at "go"
      refine ⟨3, rfl, p_cutT cut3a ⟨_, rfl, ?_⟩⟩
      refine floop_vals (fun i g1 S1 => S1 = S' ∧ g1 = [some (.tup [.str "name", a, .str w]), some (.loc g), some (.loc r), some (.str "name"), none, none, none]) (fun i d g1 S1 hi p => by simp at hi) (fun g1 S1 p => ?_) _ 0 _ _ (by simp [ibound]) (Nat.zero_le _) ⟨rfl, rfl⟩
      obtain ⟨rfl, rfl⟩ := p
      walk_at "go"
      exact ⟨h1, h2⟩
    refine k_cons (k_ifS ?_)
    walk_at "go"
    refine p_ninStrL hg ⟨_, rfl, fun h => ?_, fun h => k_nil ?_⟩
    · have h : ¬ w ∈ gs := by simpa using h
      have e : one w gs = [w] := by unfold one; rw [if_neg h]
      rw [e]
      refine k_cons (k_exS (x_mth ?_))
      walk_at "go"
      refine ⟨ty_lst rfl hr, ?_⟩
      walk_at "go"
      have cp := cnt_pos k
      refine p_append hr (by rw [List.length_map, sizeLine_eq]; omega) (k_nil ?_)
      refine (fin _ (out ++ [w]) ?_ Keep.set).mono fun _ _ h => h.elim
      rw [set_at hr, List.map_append]
      rfl
    · have h : w ∈ gs := by simpa using h
      have e : one w gs = [] := by unfold one; rw [if_pos h]
      rw [e, List.append_nil]
      exact (fin S out hr (Keep.refl _ _)).mono fun _ _ h => h.elim
  | other k kind a pre ts fs hk h1 h2 hl h5 tl ih =>
    intro K S g r gs out hK hg hr gr hgs ho
    obtain ⟨K, rfl⟩ : ∃ j, K = j + 1 := ⟨K - 1, by omega⟩
    have k1 : Kind kind ∧ kind ≠ "list" := by
      simp only [List.mem_cons, List.not_mem_nil, or_false] at hk
      rcases hk with rfl | rfl | rfl | rfl | rfl | rfl | rfl | rfl <;> exact ⟨⟨by decide +kernel, by decide +kernel, by decide +kernel, by decide +kernel⟩, by decide +kernel⟩
    have ho : out.length + 7 * cnt k ≤ 10000000 := ho
    exact met_gen k1.1 k1.2 h2 hl h5 ih tl (fun _ => ⟨by omega, by omega, by omega⟩) hg hr gr
  | list k a ts fs hl h5 tl ih =>
    intro K S g r gs out hK hg hr gr hgs ho
    obtain ⟨K, rfl⟩ : ∃ j, K = j + 1 := ⟨K - 1, by omega⟩
    have ho : out.length + 7 * cnt k ≤ 10000000 := ho
    refine met_start ⟨by decide +kernel, by decide +kernel, by decide +kernel, by decide +kernel⟩ ?_
    unfold t_parts
    refine k_cons (k_asgS (x_sliD rfl ?_))
    walk_at "go"
    refine ⟨2, rfl, p_cutT cut2 ?_⟩
    walk_at "go"
    refine k_ifS ?_
    walk_at "go"
    refine ⟨_, rfl, fun h => ?_, fun h => absurd h (by decide +kernel)⟩
    walk_at "go"
    refine k_nil ?_
    exact parts (pre := []) rfl hl h5 ih tl (fun _ => ⟨by omega, by omega, by omega⟩) hg hr gr
  | call k w a ts fs hl h5 tl ih =>
    intro K S g r gs out hK hg hr gr hgs ho
    obtain ⟨K, rfl⟩ : ∃ j, K = j + 1 := ⟨K - 1, by omega⟩
    have ho : out.length + 7 * cnt k ≤ 10000000 := ho
    have cp := cnt_pos k
    rw [run_of (p := prg) (f := "_law_met") rfl rfl, sat_runBody]; unfold t__law_met
    walk_at "st"
    walk_at "go"
    refine k_ifS ?_
    walk_at "go"
    refine p_inStrT (ws := [("name" : Str), "call"]) ⟨_, rfl, fun h => ?_, fun h => absurd h (by decide +kernel)⟩
    have fin : ∀ (S' : Store) (out' : List Str), out'.length ≤ out.length + 1 → S'[r]? = some (.lst (out'.map .str)) → Keep r S S' → SatR ((sem (prg.env (prg.run K)) (.cons (.for_ (.var 5) (.sli (.var 0) (.int 3) .nil) (.cons (.for_ (.var 6) (.var 5) (.cons (.ex (.call "_law_met" (.cons (.var 6) (.cons (.var 1) (.cons (.var 2) .nil))))) .nil)) .nil)) (.cons (.ret .non) .nil))).b [some (.tup [.str "call", a, .str w, .tup ts]), some (.loc g), some (.loc r), some (.str "call"), none, none, none] S') (fun _ _ => False) (fun _ S'' => S''[r]? = some (.lst ((out' ++ catF fs gs).map .str)) ∧ Keep r S S'') (fun _ _ => False) (fun _ _ => False) := by
      intro S' out' h0 h1 h2
      refine k_cons (k_forS ?_)
      refine i_eT rfl (x_sliD rfl ?_)
      walk_at "go"
      refine ⟨3, rfl, p_cutT cut3b ⟨_, rfl, ?_⟩⟩
      refine floop_vals (fun i g1 S1 => (i = 0 ∧ S1 = S' ∧ g1 = [some (.tup [.str "call", a, .str w, .tup ts]), some (.loc g), some (.loc r), some (.str "call"), none, none, none]) ∨ (i = 1 ∧ ∃ v5 v6, g1 = [some (.tup [.str "call", a, .str w, .tup ts]), some (.loc g), some (.loc r), some (.str "call"), none, v5, v6] ∧ S1[r]? = some (.lst ((out' ++ catF fs gs).map .str)) ∧ Keep r S S1)) (fun i d g1 S1 hi p => ?_) (fun g1 S1 p => ?_) _ 0 _ _ (by simp [ibound]) (Nat.zero_le _) (.inl ⟨rfl, rfl, rfl⟩)
      · rcases p with ⟨rfl, rfl, rfl⟩ | ⟨rfl, _⟩
        · cases hi
          refine sat_ok.mpr (k_cons ?_)
          refine args hl h5 ih tl ⟨by omega, by omega, by omega⟩ (h2.at hg gr) h1 gr fun v6 S2 h3 h4 => k_nil (.inr ⟨rfl, _, _, rfl, h3, h2.trans h4⟩)
        · simp at hi
      · rcases p with ⟨h, _⟩ | ⟨_, v5, v6, rfl, h3, h4⟩
        · simp at h
        · walk_at "go"
          exact ⟨h3, h4⟩
    refine k_cons (k_ifS ?_)
    walk_at "go"
    refine p_ninStrL hg ⟨_, rfl, fun h => ?_, fun h => k_nil ?_⟩
    · have h : ¬ w ∈ gs := by simpa using h
      have e : one w gs = [w] := by unfold one; rw [if_neg h]
      rw [e]
      refine k_cons (k_exS (x_mth ?_))
      walk_at "go"
      refine ⟨ty_lst rfl hr, ?_⟩
      walk_at "go"
      refine p_append hr (by rw [List.length_map, sizeLine_eq]; omega) (k_nil ?_)
      rw [← List.append_assoc]
      refine (fin _ (out ++ [w]) (by simp) ?_ Keep.set).mono fun _ _ h => h.elim
      rw [set_at hr, List.map_append]
      rfl
    · have h : w ∈ gs := by simpa using h
      have e : one w gs = [] := by unfold one; rw [if_pos h]
      rw [e, List.nil_append]
      exact (fin S out (by omega) hr (Keep.refl _ _)).mono fun _ _ h => h.elim
  | let_ k w a x y fx fy tx ty ix iy =>
    intro K S g r gs out hK hg hr gr hgs ho
    obtain ⟨K, rfl⟩ : ∃ j, K = j + 1 := ⟨K - 1, by omega⟩
    have ho : out.length + 7 * cnt k ≤ 10000000 := ho
    have cp := cnt_pos k
    have rl : r < S.length := lt_of hr
    have gl : g < S.length := lt_of hg
    rw [run_of (p := prg) (f := "_law_met") rfl rfl, sat_runBody]; unfold t__law_met
    walk_at "st"
    walk_at "go"
    refine k_ifS ?_
    walk_at "go"
    refine p_inStrT (ws := [("name" : Str), "call"]) ⟨_, rfl, fun h => absurd h (by decide +kernel), fun h => k_nil ?_⟩
    walk_at "go"
    refine k_ifS ?_
    walk_at "go"
    refine ⟨_, rfl, fun h => ?_, fun h => absurd h (by decide +kernel)⟩
    have lx := tx.len gs
    walk_at "go"
    refine (ix K S g r gs out (by omega) hg hr gr (by omega) (by omega)).mono fun d1 S1 h1 => ?_
    obtain ⟨r1, k1⟩ := h1
    have g1 := k1.at hg gr
    have l1 : S.length ≤ S1.length := k1.1
    walk_at "go"
    refine p_addLL (app_at g1) new_at (by simp; omega) ?_
    walk_at "go"
    refine (iy K _ _ r (gs ++ [w]) (out ++ fx gs) (by omega) (by rw [List.map_append]; exact new_at) (app_at (app_at r1)) (by simp; omega) (by simp; omega) (by rw [List.length_append]; omega)).mono fun d2 S2 h2 => ?_
    walk_at "go"
    rw [← List.append_assoc]
    exact ⟨h2.1, (k1.trans (Keep.app.trans Keep.app)).trans h2.2⟩
  | each0 k w a x y fx fy tx ty ix iy =>
    intro K S g r gs out hK hg hr gr hgs ho
    obtain ⟨K, rfl⟩ : ∃ j, K = j + 1 := ⟨K - 1, by omega⟩
    have ho : out.length + 7 * cnt k ≤ 10000000 := ho
    have cp := cnt_pos k
    have rl : r < S.length := lt_of hr
    have gl : g < S.length := lt_of hg
    rw [run_of (p := prg) (f := "_law_met") rfl rfl, sat_runBody]; unfold t__law_met
    walk_at "st"
    walk_at "go"
    refine k_ifS ?_
    walk_at "go"
    refine p_inStrT (ws := [("name" : Str), "call"]) ⟨_, rfl, fun h => absurd h (by decide +kernel), fun h => k_nil ?_⟩
    walk_at "go"
    refine k_ifS ?_
    walk_at "go"
    refine ⟨_, rfl, fun h => absurd h (by decide +kernel), fun h => k_nil ?_⟩
    walk_at "go"
    refine k_ifS ?_
    walk_at "go"
    refine ⟨_, rfl, fun h => ?_, fun h => absurd h (by decide +kernel)⟩
    have lx := tx.len (gs ++ [w])
    walk_at "go"
    refine p_addLL (app_at hg) new_at (by simp; omega) ?_
    walk_at "go"
    refine (ix K _ _ r (gs ++ [w]) out (by omega) (by rw [List.map_append]; exact new_at) (app_at (app_at hr)) (by simp; omega) (by simp; omega) (by omega)).mono fun d1 S1 h1 => ?_
    obtain ⟨r1, k1⟩ := h1
    have kk : Keep r S S1 := (Keep.app.trans Keep.app).trans k1
    walk_at "go"
    refine (iy K S1 g r gs (out ++ fx (gs ++ [w])) (by omega) (kk.at hg gr) r1 gr (by omega) (by rw [List.length_append]; omega)).mono fun d2 S2 h2 => ?_
    obtain ⟨r2, k2⟩ := h2
    refine k_cons (k_ifS ?_)
    walk_at "go"
    refine ⟨_, rfl, fun h => (by cases h), fun h => k_nil ?_⟩
    walk_at "go"
    rw [← List.append_assoc]
    exact ⟨r2, kk.trans k2⟩
  | each1 k w a x y z fx fy fz tx ty tz ix iy iz =>
    intro K S g r gs out hK hg hr gr hgs ho
    obtain ⟨K, rfl⟩ : ∃ j, K = j + 1 := ⟨K - 1, by omega⟩
    have ho : out.length + 7 * cnt k ≤ 10000000 := ho
    have cp := cnt_pos k
    have rl : r < S.length := lt_of hr
    have gl : g < S.length := lt_of hg
    rw [run_of (p := prg) (f := "_law_met") rfl rfl, sat_runBody]; unfold t__law_met
    walk_at "st"
    walk_at "go"
    refine k_ifS ?_
    walk_at "go"
    refine p_inStrT (ws := [("name" : Str), "call"]) ⟨_, rfl, fun h => absurd h (by decide +kernel), fun h => k_nil ?_⟩
    walk_at "go"
    refine k_ifS ?_
    walk_at "go"
    refine ⟨_, rfl, fun h => absurd h (by decide +kernel), fun h => k_nil ?_⟩
    walk_at "go"
    refine k_ifS ?_
    walk_at "go"
    refine ⟨_, rfl, fun h => ?_, fun h => absurd h (by decide +kernel)⟩
    have lx := tx.len (gs ++ [w])
    have ly := ty.len gs
    walk_at "go"
    refine p_addLL (app_at hg) new_at (by simp; omega) ?_
    walk_at "go"
    refine (ix K _ _ r (gs ++ [w]) out (by omega) (by rw [List.map_append]; exact new_at) (app_at (app_at hr)) (by simp; omega) (by simp; omega) (by omega)).mono fun d1 S1 h1 => ?_
    obtain ⟨r1, k1⟩ := h1
    have kk : Keep r S S1 := (Keep.app.trans Keep.app).trans k1
    walk_at "go"
    refine (iy K S1 g r gs (out ++ fx (gs ++ [w])) (by omega) (kk.at hg gr) r1 gr (by omega) (by rw [List.length_append]; omega)).mono fun d2 S2 h2 => ?_
    obtain ⟨r2, k2⟩ := h2
    have kk2 := kk.trans k2
    have g2 := kk2.at hg gr
    have l2 : S.length ≤ S2.length := kk2.1
    obtain ⟨zs, rfl⟩ := tz.isTup
    refine k_cons (k_ifS ?_)
    walk_at "go"
    refine ⟨_, rfl, fun h => ?_, fun h => (by cases h)⟩
    walk_at "go"
    refine p_addLL (app_at g2) new_at (by simp; omega) ?_
    walk_at "go"
    refine (iz K _ _ r (gs ++ [w]) (out ++ fx (gs ++ [w]) ++ fy gs) (by omega) (by rw [List.map_append]; exact new_at) (app_at (app_at r2)) (by simp; omega) (by simp; omega) (by rw [List.length_append, List.length_append]; omega)).mono fun d3 S3 h3 => k_nil ?_
    walk_at "go"
    rw [← List.append_assoc, ← List.append_assoc]
    exact ⟨h3.1, (kk2.trans (Keep.app.trans Keep.app)).trans h3.2⟩
end k26

end

section
set_option Elab.async false
set_option linter.all false
set_option maxRecDepth 100000
set_option maxHeartbeats 4000000
local macro_rules | `(tactic| walk_at "go") => `(tactic| repeat (first | with_reducible refine Mz.k_cons ?_ | with_reducible refine Mz.k_asgS ?_ | with_reducible refine Mz.k_retS ?_ | with_reducible refine Mz.k_exS ?_ | with_reducible refine Mz.x_bin ?_ | with_reducible refine Mz.x_cmp ?_ | with_reducible refine Mz.x_sub ?_ | with_reducible refine Mz.x_call ?_ | with_reducible refine Mz.x_blt ?_ | with_reducible refine Mz.x_cons ?_ | with_reducible refine Mz.x_nil ?_ | with_reducible refine Mz.x_tup ?_ | with_reducible refine Mz.x_lst ?_ | with_reducible refine Mz.x_int ?_ | with_reducible refine Mz.x_str ?_ | with_reducible refine Mz.x_bl ?_ | with_reducible refine Mz.x_non ?_ | with_reducible refine Mz.p_add ?_ | with_reducible refine Mz.p_sub ?_ | with_reducible refine Mz.p_eqI ?_ | with_reducible refine Mz.p_neI ?_ | with_reducible refine Mz.p_eqS ?_ | with_reducible refine Mz.p_neS ?_ | with_reducible refine Mz.p_lt ?_ | with_reducible refine Mz.p_le ?_ | with_reducible refine Mz.p_ge ?_ | with_reducible refine Mz.p_gt ?_ | with_reducible refine Mz.y_cmp ?_ | with_reducible refine Mz.x_fst ?_ | with_reducible refine Mz.j_cons ?_ | with_reducible refine Mz.j_nil ?_ | with_reducible refine Mz.x_fmt ?_ | with_reducible refine Mz.x_chain ?_ | with_reducible refine Mz.y_chain ?_ | with_reducible refine Mz.p_leS ?_ | with_reducible refine Mz.p_is ?_ | with_reducible refine Mz.p_isnot ?_ | with_reducible refine Mz.p_ord ?_ | with_reducible refine Mz.p_max ?_ | with_reducible refine Mz.p_min ?_ | with_reducible refine Mz.p_abs ?_ | with_reducible refine Mz.p_itT (by decide) rfl ?_ | (with_reducible refine (?_ : Mz.Sat _ _); simp only [List.set_cons_zero, List.set_cons_succ]) | ((with_reducible apply Mz.x_var); next => exact rfl) | with_reducible refine ⟨(by simp only [List.length_cons, List.length_nil, PySem.sizeLine_eq]; omega : (List.length _ ≤ PySem.sizeLine)), ?_⟩))
local macro_rules | `(tactic| walk_at "st") => `(tactic| simp only [Mz.startG, List.map_cons, List.map_nil, List.length_cons, List.length_nil, Nat.reduceAdd, Nat.reduceSub, List.replicate, List.cons_append, List.nil_append, Nat.zero_add])
namespace k26
open PySem PySem.Spec L2 Mz
/-! ### first seen -/
def step (acc : List Str) (w : Str) : List Str := if w ∈ acc then acc else acc ++ [w]
def ext (acc l : List Str) : List Str := l.foldl step acc
def dd (l : List Str) : List Str := ext [] l
theorem ext_app (acc a b : List Str) : ext acc (a ++ b) = ext (ext acc a) b := List.foldl_append
theorem ext_len : ∀ (l acc : List Str), (ext acc l).length ≤ acc.length + l.length
  | [], acc => Nat.le_refl _
  | w :: l, acc => by
    have := ext_len l (step acc w)
    show (ext (step acc w) l).length ≤ _
    unfold step at this ⊢
    split at this <;> split <;> simp_all <;> omega
theorem mem_ext : ∀ (l acc : List Str) (x : Str), x ∈ ext acc l ↔ x ∈ acc ∨ x ∈ l
  | [], acc, x => by simp [ext]
  | w :: l, acc, x => by
    show x ∈ ext (step acc w) l ↔ _
    rw [mem_ext l (step acc w) x]
    unfold step
    split
    · simp only [List.mem_cons]
      constructor
      · rintro (h | h)
        · exact .inl h
        · exact .inr (.inr h)
      · rintro (h | rfl | h)
        · exact .inl h
        · exact .inl (by assumption)
        · exact .inr h
    · simp only [List.mem_append, List.mem_cons, List.not_mem_nil, or_false]
      constructor
      · rintro ((h | h) | h)
        · exact .inl h
        · exact .inr (.inl h)
        · exact .inr (.inr h)
      · rintro (h | h | h)
        · exact .inl (.inl h)
        · exact .inl (.inr h)
        · exact .inr h
/-- what is new: ext by its own first-seen list -/
theorem ext_new : ∀ (l acc b : List Str), (∀ x, x ∈ b → True) → ext acc (ext b l) = ext (ext acc b) l
  | [], acc, b, _ => rfl
  | w :: l, acc, b, h => by
    show ext acc (ext (step b w) l) = ext (step (ext acc b) w) l
    rw [ext_new l acc (step b w) fun _ _ => trivial]
    congr 1
    unfold step
    by_cases hb : w ∈ b
    · rw [if_pos hb, if_pos ((mem_ext b acc w).mpr (.inr hb))]
    · rw [if_neg hb, ext_app]
      rfl
theorem ext_dd (acc l : List Str) : ext acc (dd l) = ext acc l := by
  have := ext_new l acc [] fun _ _ => trivial
  exact this
theorem dd_nodup : ∀ (l acc : List Str), acc.Nodup → (ext acc l).Nodup
  | [], acc, h => h
  | w :: l, acc, h => by
    show (ext (step acc w) l).Nodup
    refine dd_nodup l _ ?_
    unfold step
    split
    · exact h
    · rename_i hw
      rw [List.nodup_append]
      refine ⟨h, by simp, ?_⟩
      intro a ha b hb e
      simp at hb
      subst hb
      exact hw (by rw [← e]; exact ha)
/-- a list without repeats put behind: what is not there yet -/
theorem ext_filter : ∀ (l acc : List Str), l.Nodup → ext acc l = acc ++ l.filter fun w => !decide (w ∈ acc)
  | [], acc, _ => by simp [ext]
  | w :: l, acc, h => by
    rw [List.nodup_cons] at h
    show ext (step acc w) l = _
    rw [ext_filter l (step acc w) h.2]
    unfold step
    by_cases hw : w ∈ acc
    · rw [if_pos hw, List.filter_cons]
      simp [hw]
    · rw [if_neg hw, List.filter_cons]
      simp only [hw, decide_false, Bool.not_false, if_true, List.append_assoc, List.cons_append, List.nil_append]
      congr 2
      apply List.filter_congr
      intro x hx
      have : x ≠ w := fun e => h.1 (by rw [← e]; exact hx)
      simp [this]
end k26

end

section
set_option Elab.async false
set_option linter.all false
set_option maxRecDepth 100000
set_option maxHeartbeats 4000000
local macro_rules | `(tactic| walk_at "go") => `(tactic| repeat (first | with_reducible refine Mz.k_cons ?_ | with_reducible refine Mz.k_asgS ?_ | with_reducible refine Mz.k_retS ?_ | with_reducible refine Mz.k_exS ?_ | with_reducible refine Mz.x_bin ?_ | with_reducible refine Mz.x_cmp ?_ | with_reducible refine Mz.x_sub ?_ | with_reducible refine Mz.x_call ?_ | with_reducible refine Mz.x_blt ?_ | with_reducible refine Mz.x_cons ?_ | with_reducible refine Mz.x_nil ?_ | with_reducible refine Mz.x_tup ?_ | with_reducible refine Mz.x_lst ?_ | with_reducible refine Mz.x_int ?_ | with_reducible refine Mz.x_str ?_ | with_reducible refine Mz.x_bl ?_ | with_reducible refine Mz.x_non ?_ | with_reducible refine Mz.p_add ?_ | with_reducible refine Mz.p_sub ?_ | with_reducible refine Mz.p_eqI ?_ | with_reducible refine Mz.p_neI ?_ | with_reducible refine Mz.p_eqS ?_ | with_reducible refine Mz.p_neS ?_ | with_reducible refine Mz.p_lt ?_ | with_reducible refine Mz.p_le ?_ | with_reducible refine Mz.p_ge ?_ | with_reducible refine Mz.p_gt ?_ | with_reducible refine Mz.y_cmp ?_ | with_reducible refine Mz.x_fst ?_ | with_reducible refine Mz.j_cons ?_ | with_reducible refine Mz.j_nil ?_ | with_reducible refine Mz.x_fmt ?_ | with_reducible refine Mz.x_chain ?_ | with_reducible refine Mz.y_chain ?_ | with_reducible refine Mz.p_leS ?_ | with_reducible refine Mz.p_is ?_ | with_reducible refine Mz.p_isnot ?_ | with_reducible refine Mz.p_ord ?_ | with_reducible refine Mz.p_max ?_ | with_reducible refine Mz.p_min ?_ | with_reducible refine Mz.p_abs ?_ | with_reducible refine Mz.p_itT (by decide) rfl ?_ | (with_reducible refine (?_ : Mz.Sat _ _); simp only [List.set_cons_zero, List.set_cons_succ]) | ((with_reducible apply Mz.x_var); next => exact rfl) | with_reducible refine ⟨(by simp only [List.length_cons, List.length_nil, PySem.sizeLine_eq]; omega : (List.length _ ≤ PySem.sizeLine)), ?_⟩))
local macro_rules | `(tactic| walk_at "st") => `(tactic| simp only [Mz.startG, List.map_cons, List.map_nil, List.length_cons, List.length_nil, Nat.reduceAdd, Nat.reduceSub, List.replicate, List.cons_append, List.nil_append, Nat.zero_add])
namespace k26
open PySem PySem.Spec L2 Mz
def optS : Option Str → D
  | none => .non
  | some w => .str w
abbrev Prt := Option Str × D × Met
def prD (p : Prt) : D := .tup [optS p.1, p.2.1]
def prF (ps : List Prt) (gs : List Str) : List Str := (ps.map fun p => p.2.2 (gs ++ p.1.toList)).flatten
def hdL (hd : Option Str) (gs : List Str) : List Str := match hd with
  | some w => one w gs
  | none => []
structure Inn (k : Nat) (t : D) (f : Met) : Prop where
  x : ∃ (ps : List Prt) (kind : Str) (a : D) (rest : List D) (hd : Option Str), t = .tup (.str kind :: a :: rest) ∧ (∀ w, hd = some w → (kind = "name" ∨ kind = "call") ∧ ∃ l, rest = .str w :: l) ∧ (hd = none → kind ≠ "name" ∧ kind ≠ "call") ∧ ps.length ≤ 5 ∧ (∀ p ∈ ps, ∃ j, j + 1 = k ∧ Tr j p.2.1 p.2.2) ∧ (∀ gs, f gs = hdL hd gs ++ prF ps gs) ∧
    ∀ K S, 1 ≤ K → Sat (prg.run K "inner" [t] S) fun d S' => ∃ r, d = .loc r ∧ S.length ≤ r ∧ S'[r]? = some (.lst (ps.map prD)) ∧ Grow S S'
theorem zip_all {k : Nat} {ts : List D} {fs : List Met} (hl : ts.length = fs.length) (tl : ∀ (i : Nat) (t : D) (f : Met), ts[i]? = some t → fs[i]? = some f → Tr k t f) :
    ∃ ps : List Prt, ps.length = ts.length ∧ (∀ p ∈ ps, ∃ j, j + 1 = k + 1 ∧ Tr j p.2.1 p.2.2) ∧ (∀ gs, catF fs gs = prF ps gs) ∧ ps.map prD = ts.map (fun t => D.tup [.non, t]) := by
  induction ts generalizing fs with
  | nil =>
    cases fs with
    | nil => exact ⟨[], rfl, fun p h => (by cases h), fun gs => rfl, rfl⟩
    | cons f fs => simp at hl
  | cons t ts ih =>
    cases fs with
    | nil => simp at hl
    | cons f fs =>
      obtain ⟨ps, h1, h2, h3, h4⟩ := ih (by simpa using hl) fun i t f e1 e2 => tl (i + 1) t f (by simpa using e1) (by simpa using e2)
      refine ⟨(none, t, f) :: ps, by simp [h1], fun p hp => ?_, fun gs => ?_, ?_⟩
      · rcases List.mem_cons.mp hp with rfl | hp
        · exact ⟨k, rfl, tl 0 t f rfl rfl⟩
        · exact h2 p hp
      · show f gs ++ catF fs gs = f (gs ++ []) ++ prF ps gs
        rw [h3, List.append_nil]
      · rw [List.map_cons, List.map_cons, h4]
        rfl
/-- [(None, one) for one in a tuple] -/
theorem lc_pairs {E : PEnv} {ts : List D} {g0 : Sg} {Q : List D → Store → Prop} {S : Store} (hl : ts.length ≤ 1000) (hg : ∀ d, (g0.set 8 (some d))[8]? = some (some d)) (q : Q (ts.map fun t => D.tup [.non, t]) S) :
    Sat (lcLoop (.vals ts) (sem E (.var 8)).g tsNil (sem E (.tup (.cons .non (.cons (.var 8) .nil)))).e g0 (ibound (.vals ts) S) 0 [] S) Q := by
  refine lcLoop_vals (fun i acc S' => S' = S ∧ acc = (ts.take i).map fun t => D.tup [.non, t]) (fun i d acc S' hi p => ?_) (fun acc S' p => ?_) _ 0 _ _ (by simp [ibound]) (Nat.zero_le _) ⟨rfl, rfl⟩
  · obtain ⟨rfl, rfl⟩ := p
    have hlt := (List.getElem?_eq_some_iff.mp hi).1
    refine sat_ok.mpr (sat_ok.mpr ⟨fun _ => ?_, fun h => by cases h⟩)
    refine x_tup (x_cons (x_non (x_cons (x_var (hg d) (x_nil ⟨by simp [sizeLine_eq], ?_, rfl, ?_⟩)))))
    · rw [List.length_map, List.length_take, sizeLine_eq]; omega
    · rw [List.take_add_one, hi]; simp
  · obtain ⟨rfl, rfl⟩ := p
    rw [List.take_length]
    exact q
/-- [(None, one) for one in a tuple if isinstance(one, tuple)] -/
theorem lc_some {E : PEnv} {pre ts : List D} {g0 : Sg} {Q : List D → Store → Prop} {S : Store} (h1 : pre.length ≤ 1) (h2 : pre.all scal = true) (hl : ts.length ≤ 1000) (ht : ∀ t ∈ ts, ∃ xs, t = .tup xs) (hg : ∀ d, (g0.set 8 (some d))[8]? = some (some d)) (q : Q (ts.map fun t => D.tup [.non, t]) S) :
    Sat (lcLoop (.vals (pre ++ ts)) (sem E (.var 8)).g (sem E (.cons (.isi .tuple (.var 8)) .nil)).t (sem E (.tup (.cons .non (.cons (.var 8) .nil)))).e g0 (ibound (.vals (pre ++ ts)) S) 0 [] S) Q := by
  refine lcLoop_vals (fun i acc S' => S' = S ∧ acc = (ts.take (i - pre.length)).map fun t => D.tup [.non, t]) (fun i d acc S' hi p => ?_) (fun acc S' p => ?_) _ 0 _ _ (by simp [ibound]) (Nat.zero_le _) ⟨rfl, by simp⟩
  · obtain ⟨rfl, rfl⟩ := p
    refine sat_ok.mpr ?_
    show Sat ((sem E (.isi .tuple (.var 8))).t (g0.set 8 (some d)) S') _
    refine y_isi (x_var (hg d) ?_)
    by_cases hi2 : i < pre.length
    · rw [List.getElem?_append_left hi2] at hi
      rw [isi_scal (List.all_eq_true.mp h2 d (List.mem_of_getElem? hi))]
      refine sat_ok.mpr ⟨false, rfl, fun h => (by cases h), fun _ => ⟨rfl, ?_⟩⟩
      rw [show i + 1 - pre.length = i - pre.length by omega]
    · rw [List.getElem?_append_right (by omega)] at hi
      have hlt := (List.getElem?_eq_some_iff.mp hi).1
      obtain ⟨xs, rfl⟩ := ht d (List.mem_of_getElem? hi)
      rw [isi_tup]
      refine sat_ok.mpr ⟨true, rfl, fun _ => ?_, fun h => by cases h⟩
      refine x_tup (x_cons (x_non (x_cons (x_var (hg _) (x_nil ⟨by simp [sizeLine_eq], ?_, rfl, ?_⟩)))))
      · rw [List.length_map, List.length_take, sizeLine_eq]; omega
      · rw [show i + 1 - pre.length = i - pre.length + 1 by omega, List.take_add_one, hi]; simp
  · obtain ⟨rfl, rfl⟩ := p
    rw [List.take_of_length_le (by rw [List.length_append]; omega)]
    exact q
theorem in4 {S : Store} {kind : Str} {Q : D → Store → Prop} (q : Q (.bl (decide (kind ∈ ([("number" : Str), "truth", "words", "name"] : List Str)))) S) : Sat (semCop .in_ (.str kind) (.tup [.str "number", .str "truth", .str "words", .str "name"]) S) Q := p_inStrT (ws := [("number" : Str), "truth", "words", "name"]) q
theorem inner_flat {K : Nat} {kind : Str} {a : D} {l : List D} {S : Store} (hk : kind = "number" ∨ kind = "truth" ∨ kind = "words" ∨ kind = "name") : Sat (prg.run (K + 1) "inner" [.tup (.str kind :: a :: l)] S) fun d S' => ∃ r, d = .loc r ∧ S.length ≤ r ∧ S'[r]? = some (.lst []) ∧ Grow S S' := by
  rw [run_of (p := prg) (f := "inner") rfl rfl, sat_runBody]; unfold t_inner
  walk_at "st"
  have k1 : kind ≠ "each" ∧ kind ≠ "let" ∧ kind ≠ "call" ∧ kind ≠ "list" := by
    rcases hk with rfl | rfl | rfl | rfl <;> exact ⟨by decide +kernel, by decide +kernel, by decide +kernel, by decide +kernel⟩
  walk_at "go"
  refine k_ifS ?_
  walk_at "go"
  refine ⟨_, rfl, fun h => absurd (of_decide_eq_true h) k1.1, fun h => k_nil ?_⟩
  walk_at "go"
  refine k_ifS ?_
  walk_at "go"
  refine ⟨_, rfl, fun h => absurd (of_decide_eq_true h) k1.2.1, fun h => k_nil ?_⟩
  walk_at "go"
  refine k_ifS ?_
  walk_at "go"
  refine ⟨_, rfl, fun h => absurd (of_decide_eq_true h) k1.2.2.1, fun h => k_nil ?_⟩
  walk_at "go"
  refine k_ifS ?_
  walk_at "go"
  refine ⟨_, rfl, fun h => absurd (of_decide_eq_true h) k1.2.2.2, fun h => k_nil ?_⟩
  walk_at "go"
  refine k_ifS ?_
  walk_at "go"
  refine in4 ⟨_, rfl, fun h => ?_, fun h => ?_⟩
  · walk_at "go"
    exact ⟨S.length, rfl, Nat.le_refl _, new_at, .one⟩
  · have h := of_decide_eq_false h
    exact absurd (by simp only [List.mem_cons, List.not_mem_nil, or_false]; exact hk) h
theorem inner_ok {k : Nat} {t : D} {f : Met} (h : Tr k t f) : Inn k t f := by
  refine ⟨?_⟩
  cases h with
  | leaf _ kind v a hk hv =>
    refine ⟨[], kind, a, [v], none, rfl, fun w h => (by cases h), fun _ => ?_, by decide, fun p h => (by cases h), fun gs => rfl, fun K S hK => ?_⟩
    · rcases hk with rfl | rfl | rfl <;> exact ⟨by decide +kernel, by decide +kernel⟩
    · obtain ⟨K, rfl⟩ : ∃ j, K = j + 1 := ⟨K - 1, by omega⟩
      exact inner_flat (by rcases hk with h | h | h <;> simp [h])
  | name _ w a =>
    refine ⟨[], "name", a, [.str w], some w, rfl, fun w' h => ?_, fun h => (by cases h), by decide, fun p h => (by cases h), fun gs => (by simp [hdL, prF]), fun K S hK => ?_⟩
    · cases h; exact ⟨.inl rfl, [], rfl⟩
    · obtain ⟨K, rfl⟩ : ∃ j, K = j + 1 := ⟨K - 1, by omega⟩
      exact inner_flat (.inr (.inr (.inr rfl)))
  | let_ k w a x y fx fy tx ty =>
    refine ⟨[(none, x, fx), (some w, y, fy)], "let", a, [.str w, x, y], none, rfl, fun w h => (by cases h), fun _ => ⟨by decide +kernel, by decide +kernel⟩, by simp, fun p hp => ?_, fun gs => ?_, fun K S hK => ?_⟩
    · simp only [List.mem_cons, List.not_mem_nil, or_false] at hp
      rcases hp with rfl | rfl
      · exact ⟨k, rfl, tx⟩
      · exact ⟨k, rfl, ty⟩
    · simp [hdL, prF]
    · obtain ⟨K, rfl⟩ : ∃ j, K = j + 1 := ⟨K - 1, by omega⟩
      rw [run_of (p := prg) (f := "inner") rfl rfl, sat_runBody]; unfold t_inner
      walk_at "st"
      walk_at "go"
      refine k_ifS ?_
      walk_at "go"
      refine ⟨_, rfl, fun h => absurd h (by decide +kernel), fun h => k_nil ?_⟩
      walk_at "go"
      refine k_ifS ?_
      walk_at "go"
      refine ⟨_, rfl, fun h => ?_, fun h => absurd h (by decide +kernel)⟩
      walk_at "go"
      exact ⟨S.length, rfl, Nat.le_refl _, new_at, .one⟩
  | each0 k w a x y fx fy tx ty =>
    refine ⟨[(some w, x, fx), (none, y, fy)], "each", a, [x, .str w, y, .non], none, rfl, fun w h => (by cases h), fun _ => ⟨by decide +kernel, by decide +kernel⟩, by simp, fun p hp => ?_, fun gs => ?_, fun K S hK => ?_⟩
    · simp only [List.mem_cons, List.not_mem_nil, or_false] at hp
      rcases hp with rfl | rfl
      · exact ⟨k, rfl, tx⟩
      · exact ⟨k, rfl, ty⟩
    · simp [hdL, prF]
    · obtain ⟨K, rfl⟩ : ∃ j, K = j + 1 := ⟨K - 1, by omega⟩
      rw [run_of (p := prg) (f := "inner") rfl rfl, sat_runBody]; unfold t_inner
      walk_at "st"
      walk_at "go"
      refine k_ifS ?_
      walk_at "go"
      refine ⟨_, rfl, fun h => ?_, fun h => absurd h (by decide +kernel)⟩
      refine k_cons (k_asgGS (x_sliD rfl ?_))
      walk_at "go"
      refine ⟨1, rfl, p_cutT (ys := [a, x, .str w, y, .non]) rfl (sat_ok.mpr ?_)⟩
      walk_at "go"
      refine x_if ?_
      walk_at "go"
      refine ⟨_, rfl, fun h => ?_, fun h => (by cases h)⟩
      walk_at "go"
      exact ⟨S.length, rfl, Nat.le_refl _, new_at, .one⟩
  | each1 k w a x y z fx fy fz tx ty tz =>
    refine ⟨[(some w, x, fx), (none, y, fy), (some w, z, fz)], "each", a, [x, .str w, y, z], none, rfl, fun w h => (by cases h), fun _ => ⟨by decide +kernel, by decide +kernel⟩, by simp, fun p hp => ?_, fun gs => ?_, fun K S hK => ?_⟩
    · simp only [List.mem_cons, List.not_mem_nil, or_false] at hp
      rcases hp with rfl | rfl | rfl
      · exact ⟨k, rfl, tx⟩
      · exact ⟨k, rfl, ty⟩
      · exact ⟨k, rfl, tz⟩
    · simp [hdL, prF]
    · obtain ⟨K, rfl⟩ : ∃ j, K = j + 1 := ⟨K - 1, by omega⟩
      obtain ⟨zs, rfl⟩ := tz.isTup
      rw [run_of (p := prg) (f := "inner") rfl rfl, sat_runBody]; unfold t_inner
      walk_at "st"
      walk_at "go"
      refine k_ifS ?_
      walk_at "go"
      refine ⟨_, rfl, fun h => ?_, fun h => absurd h (by decide +kernel)⟩
      refine k_cons (k_asgGS (x_sliD rfl ?_))
      walk_at "go"
      refine ⟨1, rfl, p_cutT (ys := [a, x, .str w, y, .tup zs]) rfl (sat_ok.mpr ?_)⟩
      walk_at "go"
      refine x_if ?_
      walk_at "go"
      refine ⟨_, rfl, fun h => (by cases h), fun h => ?_⟩
      walk_at "go"
      refine p_addLL (app_at new_at) new_at (by simp) ⟨_, rfl, ?_, new_at, (Grow.one.trans .one).trans .one⟩
      simp
  | call k w a ts fs hl h5 tl =>
    obtain ⟨ps, q1, q2, q3, q4⟩ := zip_all hl tl
    refine ⟨ps, "call", a, [.str w, .tup ts], some w, rfl, fun w' h => ?_, fun h => (by cases h), by omega, q2, fun gs => ?_, fun K S hK => ?_⟩
    · cases h; exact ⟨.inr rfl, [.tup ts], rfl⟩
    · show one w gs ++ catF fs gs = one w gs ++ prF ps gs
      rw [q3]
    · rw [q4]
      obtain ⟨K, rfl⟩ : ∃ j, K = j + 1 := ⟨K - 1, by omega⟩
      rw [run_of (p := prg) (f := "inner") rfl rfl, sat_runBody]; unfold t_inner
      walk_at "st"
      walk_at "go"
      refine k_ifS ?_
      walk_at "go"
      refine ⟨_, rfl, fun h => absurd h (by decide +kernel), fun h => k_nil ?_⟩
      walk_at "go"
      refine k_ifS ?_
      walk_at "go"
      refine ⟨_, rfl, fun h => absurd h (by decide +kernel), fun h => k_nil ?_⟩
      walk_at "go"
      refine k_ifS ?_
      walk_at "go"
      refine ⟨_, rfl, fun h => ?_, fun h => absurd h (by decide +kernel)⟩
      refine k_cons (k_retS (x_lc (i_sT ?_)))
      walk_at "go"
      refine ⟨ts, rfl, ?_⟩
      exact lc_pairs (by omega) (fun d => rfl) ⟨S.length, rfl, Nat.le_refl _, new_at, .one⟩
  | list k a ts fs hl h5 tl =>
    obtain ⟨ps, q1, q2, q3, q4⟩ := zip_all hl tl
    refine ⟨ps, "list", a, [.tup ts], none, rfl, fun w' h => (by cases h), fun h => ⟨by decide +kernel, by decide +kernel⟩, by omega, q2, fun gs => ?_, fun K S hK => ?_⟩
    · show catF fs gs = [] ++ prF ps gs
      rw [q3]; rfl
    · rw [q4]
      obtain ⟨K, rfl⟩ : ∃ j, K = j + 1 := ⟨K - 1, by omega⟩
      rw [run_of (p := prg) (f := "inner") rfl rfl, sat_runBody]; unfold t_inner
      walk_at "st"
      walk_at "go"
      refine k_ifS ?_
      walk_at "go"
      refine ⟨_, rfl, fun h => absurd h (by decide +kernel), fun h => k_nil ?_⟩
      walk_at "go"
      refine k_ifS ?_
      walk_at "go"
      refine ⟨_, rfl, fun h => absurd h (by decide +kernel), fun h => k_nil ?_⟩
      walk_at "go"
      refine k_ifS ?_
      walk_at "go"
      refine ⟨_, rfl, fun h => absurd h (by decide +kernel), fun h => k_nil ?_⟩
      walk_at "go"
      refine k_ifS ?_
      walk_at "go"
      refine ⟨_, rfl, fun h => ?_, fun h => absurd h (by decide +kernel)⟩
      refine k_cons (k_retS (x_lc (i_sT ?_)))
      walk_at "go"
      refine ⟨ts, rfl, ?_⟩
      exact lc_pairs (by omega) (fun d => rfl) ⟨S.length, rfl, Nat.le_refl _, new_at, .one⟩
  | other k kind a pre ts fs hk h1 h2 hl h5 tl =>
    obtain ⟨ps, q1, q2, q3, q4⟩ := zip_all hl tl
    have nk : kind ≠ "each" ∧ kind ≠ "let" ∧ kind ≠ "call" ∧ kind ≠ "list" ∧ kind ∉ ([("number" : Str), "truth", "words", "name"] : List Str) := by
      simp only [List.mem_cons, List.not_mem_nil, or_false] at hk
      rcases hk with rfl | rfl | rfl | rfl | rfl | rfl | rfl | rfl <;> exact ⟨by decide +kernel, by decide +kernel, by decide +kernel, by decide +kernel, by decide +kernel⟩
    refine ⟨ps, kind, a, pre ++ ts, none, rfl, fun w' h => (by cases h), fun h => ⟨fun e => nk.2.2.2.2 (by rw [e]; decide +kernel), nk.2.2.1⟩, by omega, q2, fun gs => ?_, fun K S hK => ?_⟩
    · show catF fs gs = [] ++ prF ps gs
      rw [q3]; rfl
    · rw [q4]
      obtain ⟨K, rfl⟩ : ∃ j, K = j + 1 := ⟨K - 1, by omega⟩
      rw [run_of (p := prg) (f := "inner") rfl rfl, sat_runBody]; unfold t_inner
      walk_at "st"
      walk_at "go"
      refine k_ifS ?_
      walk_at "go"
      refine ⟨_, rfl, fun h => absurd (of_decide_eq_true h) nk.1, fun h => k_nil ?_⟩
      walk_at "go"
      refine k_ifS ?_
      walk_at "go"
      refine ⟨_, rfl, fun h => absurd (of_decide_eq_true h) nk.2.1, fun h => k_nil ?_⟩
      walk_at "go"
      refine k_ifS ?_
      walk_at "go"
      refine ⟨_, rfl, fun h => absurd (of_decide_eq_true h) nk.2.2.1, fun h => k_nil ?_⟩
      walk_at "go"
      refine k_ifS ?_
      walk_at "go"
      refine ⟨_, rfl, fun h => absurd (of_decide_eq_true h) nk.2.2.2.1, fun h => k_nil ?_⟩
      walk_at "go"
      refine k_ifS ?_
      walk_at "go"
      refine in4 ⟨_, rfl, fun h => absurd (of_decide_eq_true h) nk.2.2.2.2, fun h => k_nil ?_⟩
      refine k_cons (k_retS (x_lc (i_eT rfl (x_sliD rfl ?_))))
      walk_at "go"
      refine ⟨2, rfl, p_cutT (ys := pre ++ ts) cut2 ⟨_, rfl, ?_⟩⟩
      exact lc_some h1 h2 (by omega) (fun t ht => by
        obtain ⟨i, hi, rfl⟩ := List.getElem_of_mem ht
        exact (tl i _ _ (List.getElem?_eq_getElem hi) (List.getElem?_eq_getElem (by omega : i < fs.length))).isTup) (fun d => rfl) ⟨S.length, rfl, Nat.le_refl _, new_at, .one⟩
end k26

end

section
set_option Elab.async false
set_option linter.all false
set_option maxRecDepth 100000
set_option maxHeartbeats 4000000
local macro_rules | `(tactic| walk_at "go") => `(tactic| repeat (first | with_reducible refine Mz.k_cons ?_ | with_reducible refine Mz.k_asgS ?_ | with_reducible refine Mz.k_retS ?_ | with_reducible refine Mz.k_exS ?_ | with_reducible refine Mz.x_bin ?_ | with_reducible refine Mz.x_cmp ?_ | with_reducible refine Mz.x_sub ?_ | with_reducible refine Mz.x_call ?_ | with_reducible refine Mz.x_blt ?_ | with_reducible refine Mz.x_cons ?_ | with_reducible refine Mz.x_nil ?_ | with_reducible refine Mz.x_tup ?_ | with_reducible refine Mz.x_lst ?_ | with_reducible refine Mz.x_int ?_ | with_reducible refine Mz.x_str ?_ | with_reducible refine Mz.x_bl ?_ | with_reducible refine Mz.x_non ?_ | with_reducible refine Mz.p_add ?_ | with_reducible refine Mz.p_sub ?_ | with_reducible refine Mz.p_eqI ?_ | with_reducible refine Mz.p_neI ?_ | with_reducible refine Mz.p_eqS ?_ | with_reducible refine Mz.p_neS ?_ | with_reducible refine Mz.p_lt ?_ | with_reducible refine Mz.p_le ?_ | with_reducible refine Mz.p_ge ?_ | with_reducible refine Mz.p_gt ?_ | with_reducible refine Mz.y_cmp ?_ | with_reducible refine Mz.x_fst ?_ | with_reducible refine Mz.j_cons ?_ | with_reducible refine Mz.j_nil ?_ | with_reducible refine Mz.x_fmt ?_ | with_reducible refine Mz.x_chain ?_ | with_reducible refine Mz.y_chain ?_ | with_reducible refine Mz.p_leS ?_ | with_reducible refine Mz.p_is ?_ | with_reducible refine Mz.p_isnot ?_ | with_reducible refine Mz.p_ord ?_ | with_reducible refine Mz.p_max ?_ | with_reducible refine Mz.p_min ?_ | with_reducible refine Mz.p_abs ?_ | with_reducible refine Mz.p_itT (by decide) rfl ?_ | (with_reducible refine (?_ : Mz.Sat _ _); simp only [List.set_cons_zero, List.set_cons_succ]) | ((with_reducible apply Mz.x_var); next => exact rfl) | with_reducible refine ⟨(by simp only [List.length_cons, List.length_nil, PySem.sizeLine_eq]; omega : (List.length _ ≤ PySem.sizeLine)), ?_⟩))
local macro_rules | `(tactic| walk_at "st") => `(tactic| simp only [Mz.startG, List.map_cons, List.map_nil, List.length_cons, List.length_nil, Nat.reduceAdd, Nat.reduceSub, List.replicate, List.cons_append, List.nil_append, Nat.zero_add])
namespace k26
open PySem PySem.Spec L2 Mz
section
variable {S : Store} {Q : D → Store → Prop}
theorem p_extend {l m : Nat} {xs ys : List D} (hS : S[l]? = some (.lst xs)) (hS' : S[m]? = some (.lst ys)) (hl : xs.length + ys.length ≤ 10000000) (q : Q .non (S.set l (.lst (xs ++ ys)))) : Sat (semMth .extend (.loc l) [.loc m] S) Q := by
  unfold semMth
  simp only [lstAt_loc hS, lstAt_loc hS']
  exact sat_guard.mpr ⟨by rw [sizeLine_eq]; omega, q⟩
theorem i_eL {E : PEnv} {t : T} {g : Sg} {QI : IK → Store → Prop} (h0 : (sem E t).i = iVal (sem E t).e) (h : Sat ((sem E t).e g S) fun d S => ∃ n xs, d = .loc n ∧ S[n]? = some (.lst xs) ∧ QI (.lst n) S) : Sat ((sem E t).i g S) QI := by
  rw [h0]
  refine sat_bind.mpr (h.mono fun d S h => ?_)
  obtain ⟨n, xs, rfl, hS, q⟩ := h
  show Sat (match S[n]? with | some (.lst _) => O.ok (IK.lst n) S | _ => .no) QI
  rw [hS]
  exact q
end
def FreeOk (k : Nat) (t : D) (f : Met) : Prop := ∀ (K : Nat) (S : Store) (gs : List Str), k + 2 ≤ K → gs.length + k ≤ 1000 →
  Sat (prg.run K "free" [t, .tup (gs.map .str)] S) fun d S' => ∃ r, d = .loc r ∧ S.length ≤ r ∧ S'[r]? = some (.lst ((dd (f gs)).map .str)) ∧ Grow S S'
/-- [word for word in l if word not in found] -/
theorem lc_new {E : PEnv} {q r : Nat} {l acc : List Str} {g0 : Sg} {Q : List D → Store → Prop} {S : Store} (hq : S[q]? = some (.lst (l.map .str))) (hr : S[r]? = some (.lst (acc.map .str))) (hl : l.length ≤ 1000000) (hg : ∀ d, (g0.set 6 (some d))[6]? = some (some d)) (hg2 : ∀ d, (g0.set 6 (some d))[2]? = some (some (.loc r)))
    (h : Q ((l.filter fun w => !decide (w ∈ acc)).map .str) S) :
    Sat (lcLoop (.lst q) (sem E (.var 6)).g (sem E (.cons (.cmp .notin (.var 6) (.var 2)) .nil)).t (sem E (.var 6)).e g0 (ibound (.lst q) S) 0 [] S) Q := by
  refine lcLoop_at (xs := l.map .str) (fun i a S' => S' = S ∧ a = (((l.take i).filter fun w => !decide (w ∈ acc)).map .str)) (fun i a S' p => by rw [p.1]; exact is_lst hq) (fun i d a S' hi p => ?_) (fun a S' p => ?_) _ 0 _ _ (by rw [ib_lst hq]; simp) (Nat.zero_le _) ⟨rfl, by simp⟩
  · obtain ⟨rfl, rfl⟩ := p
    rw [List.getElem?_map] at hi
    obtain ⟨w, hw, rfl⟩ := Option.map_eq_some_iff.mp hi
    have hlt := (List.getElem?_eq_some_iff.mp hw).1
    refine sat_ok.mpr ?_
    show Sat ((sem E (.cmp .notin (.var 6) (.var 2))).t (g0.set 6 (some (.str w))) S') _
    refine y_cmp (x_var (hg _) (x_var (hg2 _) (p_ninStrL hr ⟨_, rfl, fun c => ?_, fun c => ⟨rfl, ?_⟩⟩)))
    · refine x_var (hg _) ⟨?_, rfl, ?_⟩
      · rw [List.length_map, sizeLine_eq]
        have := List.length_filter_le (fun w => !decide (w ∈ acc)) (l.take i)
        rw [List.length_take] at this
        omega
      · rw [List.take_add_one, hw, List.filter_append]
        simp only [Option.toList_some, List.filter_cons, c, if_true, List.filter_nil, List.map_append, List.map_cons, List.map_nil]
    · rw [List.take_add_one, hw, List.filter_append]
      simp only [Option.toList_some, List.filter_cons, c, List.filter_nil, List.append_nil]
      simp
  · obtain ⟨rfl, rfl⟩ := p
    rw [List.length_map, List.take_length]
    exact h
theorem pr_len {k : Nat} {ps : List Prt} {gs : List Str} (h5 : ps.length ≤ 5) (h : ∀ p ∈ ps, ∃ j, j + 1 = k ∧ Tr j p.2.1 p.2.2) (hk : k ≤ 6) : (prF ps gs).length ≤ 705894 := by
  have key : ∀ ps : List Prt, (∀ p ∈ ps, ∃ j, j + 1 = k ∧ Tr j p.2.1 p.2.2) → (prF ps gs).length ≤ ps.length * 100842 := by
    intro ps
    induction ps with
    | nil => intro _; simp [prF]
    | cons p ps ih =>
      intro h
      obtain ⟨j, hj, tr⟩ := h p (List.mem_cons_self ..)
      have h1 := tr.len (gs ++ p.1.toList)
      have h2 := ih fun q hq => h q (List.mem_cons_of_mem _ hq)
      have h3 : cnt j ≤ 100842 := by
        have : j = 0 ∨ j = 1 ∨ j = 2 ∨ j = 3 ∨ j = 4 ∨ j = 5 := by omega
        rcases this with rfl | rfl | rfl | rfl | rfl | rfl <;> decide
      unfold prF at h2 ⊢
      rw [List.map_cons, List.flatten_cons, List.length_append, List.length_cons]
      omega
  have := key ps h
  omega
def t_floop : T := (.cons (.for_ (.tup (.cons (.var 3) (.cons (.var 4) .nil))) (.call "inner" (.cons (.var 0) .nil)) (.cons (.asg (.var 5) (.ife (.cmp .is (.var 3) .non) (.var 1) (.bin .add (.var 1) (.tup (.cons (.var 3) .nil))))) (.cons (.ex (.mth .extend (.var 2) (.cons (.lc [6] (.var 6) (.call "free" (.cons (.var 4) (.cons (.var 5) .nil))) (.cons (.cmp .notin (.var 6) (.var 2)) .nil) (.var 6)) .nil))) .nil))) (.cons (.ret (.var 2)) .nil))
theorem prF_take {ps : List Prt} {gs : List Str} {i : Nat} {p : Prt} (h : ps[i]? = some p) : prF (ps.take (i + 1)) gs = prF (ps.take i) gs ++ p.2.2 (gs ++ p.1.toList) := by
  unfold prF
  rw [List.take_add_one, h]
  simp
theorem floop_ok {k K : Nat} {t : D} {ps : List Prt} {gs acc : List Str} {S S1 : Store} (h5 : ps.length ≤ 5) (hk : k ≤ 6) (hK : k + 1 ≤ K) (hgs : gs.length + k ≤ 1000) (ha : acc.length ≤ 1)
    (hp : ∀ p ∈ ps, ∃ j, j + 1 = k ∧ Tr j p.2.1 p.2.2) (ih : ∀ p ∈ ps, ∃ j, j + 1 = k ∧ FreeOk j p.2.1 p.2.2)
    (inn : ∀ S, Sat (prg.run K "inner" [t] S) fun d S' => ∃ r, d = .loc r ∧ S.length ≤ r ∧ S'[r]? = some (.lst (ps.map prD)) ∧ Grow S S')
    (gr : Grow S S1) (hr : S1[S.length]? = some (.lst (acc.map .str))) {v3 v4 v5 v6 : Option D} :
    SatR ((sem (prg.env (prg.run K)) t_floop).b [some t, some (.tup (gs.map .str)), some (.loc S.length), v3, v4, v5, v6] S1) (fun _ _ => False) (fun d S' => ∃ r, d = .loc r ∧ S.length ≤ r ∧ S'[r]? = some (.lst ((ext acc (prF ps gs)).map .str)) ∧ Grow S S') (fun _ _ => False) (fun _ _ => False) := by
  unfold t_floop
  refine k_cons (k_forS (i_eL rfl ?_))
  walk_at "go"
  refine (inn S1).mono fun d S2 h => ?_
  obtain ⟨q, rfl, hq, hq2, gr2⟩ := h
  refine ⟨q, _, rfl, hq2, ?_⟩
  have hlt := lt_of hr
  refine floop_at (xs := ps.map prD) (fun i g S' => (∃ v3 v4 v5 v6, g = [some t, some (.tup (gs.map .str)), some (.loc S.length), v3, v4, v5, v6]) ∧ S'[q]? = some (.lst (ps.map prD)) ∧ S'[S.length]? = some (.lst ((ext acc (prF (ps.take i) gs)).map .str)) ∧ Grow S S') (fun i g S' p => is_lst p.2.1) (fun i d g S' hi p => ?_) (fun g S' p => ?_) _ 0 _ _ (by rw [ib_lst hq2]; simp) (Nat.zero_le _) ⟨⟨_, _, _, _, rfl⟩, hq2, gr2.at hr, gr.trans gr2⟩
  · obtain ⟨⟨v3, v4, v5, v6, rfl⟩, p1, p2, p3⟩ := p
    rw [List.getElem?_map] at hi
    obtain ⟨p, hx, hy⟩ := Option.map_eq_some_iff.mp hi
    clear hi
    have hi := hx
    subst hy
    have hm := List.mem_of_getElem? hi
    obtain ⟨j, hj, tr⟩ := hp p hm
    obtain ⟨j', hj', fo⟩ := ih p hm
    have ejj : j' = j := by omega
    subst ejj
    refine sat_ok.mpr ?_
    show SatR _ _ _ _ _
    have body : ∀ g5 : List Str, g5 = gs ++ p.1.toList → SatR ((sem (prg.env (prg.run K)) (.cons (.ex (.mth .extend (.var 2) (.cons (.lc [6] (.var 6) (.call "free" (.cons (.var 4) (.cons (.var 5) .nil))) (.cons (.cmp .notin (.var 6) (.var 2)) .nil) (.var 6)) .nil))) .nil)).b [some t, some (.tup (gs.map .str)), some (.loc S.length), some (optS p.1), some p.2.1, some (.tup (g5.map .str)), v6] S')
        (fun g S' => (∃ v3 v4 v5 v6, g = [some t, some (.tup (gs.map .str)), some (.loc S.length), v3, v4, v5, v6]) ∧ S'[q]? = some (.lst (ps.map prD)) ∧ S'[S.length]? = some (.lst ((ext acc (prF (ps.take (i + 1)) gs)).map .str)) ∧ Grow S S') (fun d S' => ∃ r, d = .loc r ∧ S.length ≤ r ∧ S'[r]? = some (.lst ((ext acc (prF ps gs)).map .str)) ∧ Grow S S')
        (fun g S' => SatR ((sem (prg.env (prg.run K)) (.cons (.ret (.var 2)) .nil)).b g S') (fun _ _ => False) (fun d S' => ∃ r, d = .loc r ∧ S.length ≤ r ∧ S'[r]? = some (.lst ((ext acc (prF ps gs)).map .str)) ∧ Grow S S') (fun _ _ => False) (fun _ _ => False))
        (fun g S' => (∃ v3 v4 v5 v6, g = [some t, some (.tup (gs.map .str)), some (.loc S.length), v3, v4, v5, v6]) ∧ S'[q]? = some (.lst (ps.map prD)) ∧ S'[S.length]? = some (.lst ((ext acc (prF (ps.take (i + 1)) gs)).map .str)) ∧ Grow S S') := by
      intro g5 e5
      refine k_cons (k_exS (x_mth ?_))
      walk_at "go"
      refine ⟨ty_lst rfl p2, ?_⟩
      refine x_cons (x_lc (i_eL rfl ?_))
      walk_at "go"
      have hg5 : g5.length + j' ≤ 1000 := by
        rw [e5, List.length_append]
        have : p.1.toList.length ≤ 1 := by cases p.1 <;> simp
        omega
      refine (fo K S' g5 (by omega) hg5).mono fun d S3 h => ?_
      obtain ⟨r, rfl, hr1, hr2, gr3⟩ := h
      refine ⟨r, _, rfl, hr2, ?_⟩
      have tl1 := tr.len g5
      have c6 : cnt j' ≤ 100842 := by
        have : j' = 0 ∨ j' = 1 ∨ j' = 2 ∨ j' = 3 ∨ j' = 4 ∨ j' = 5 := by omega
        rcases this with rfl | rfl | rfl | rfl | rfl | rfl <;> decide
      have dl := ext_len (p.2.2 g5) []
      have pl := pr_len (gs := gs) (ps := ps.take i) (k := k) (by rw [List.length_take]; omega) (fun p hp' => hp p (List.mem_of_mem_take hp')) hk
      have al := ext_len (prF (ps.take i) gs) acc
      refine lc_new (l := dd (p.2.2 g5)) hr2 (gr3.at p2) (by unfold dd; simp at dl; omega) (fun d => rfl) (fun d => rfl) ?_
      refine x_nil ?_
      refine p_extend (app_at (gr3.at p2)) new_at ?_ (k_nil ⟨⟨_, _, _, _, rfl⟩, ?_, ?_, ?_⟩)
      · rw [List.length_map, List.length_map]
        have := List.length_filter_le (fun w => !decide (w ∈ ext acc (prF (ps.take i) gs))) (dd (p.2.2 g5))
        unfold dd at this
        simp at dl
        unfold dd
        omega
      · rw [List.getElem?_set_ne (by omega)]
        exact app_at (gr3.at p1)
      · rw [set_at (app_at (gr3.at p2)), prF_take hi, ext_app, ← List.map_append]
        have e9 := (ext_filter (dd (p.2.2 g5)) (ext acc (prF (ps.take i) gs)) (dd_nodup (p.2.2 g5) [] (by simp))).symm.trans (ext_dd _ _)
        exact congrArg (fun l => some (Cell.lst (List.map D.str l))) (e9.trans (by rw [e5]))
      · exact set_grow ((p3.trans gr3).trans .one) (Nat.le_refl _)
    rcases p with ⟨hd, x, fx⟩
    cases hd with
    | none =>
      refine k_cons (k_asgS (x_if ?_))
      refine y_cmp (x_var rfl (x_non (p_is ⟨_, rfl, fun _ => ?_, fun h => (by cases h)⟩)))
      refine x_var rfl ?_
      exact body gs (by simp)
    | some w =>
      refine k_cons (k_asgS (x_if ?_))
      refine y_cmp (x_var rfl (x_non (p_is ⟨_, rfl, fun h => (by cases h), fun _ => ?_⟩)))
      refine x_bin (x_var rfl (x_tup (x_cons (x_var rfl (x_nil ⟨by simp [sizeLine_eq], p_addTT (by simp; omega) ?_⟩)))))
      have := body (gs ++ [w]) rfl
      rw [List.map_append] at this
      exact this
  · obtain ⟨⟨v3, v4, v5, v6, rfl⟩, p1, p2, p3⟩ := p
    rw [List.length_map, List.take_length] at p2
    walk_at "go"
    exact ⟨_, rfl, Nat.le_refl _, p2, p3⟩
theorem free_ok : ∀ (k : Nat), k ≤ 6 → ∀ (t : D) (f : Met), Tr k t f → FreeOk k t f := by
  intro k
  induction k using Nat.strongRecOn with
  | _ k ih =>
  intro hk t f tr K S gs hK hgs
  obtain ⟨ps, kind, a, rest, hd, rfl, h1, h2, h5, hp, hf, inn⟩ := (inner_ok tr).x
  obtain ⟨K, rfl⟩ : ∃ j, K = j + 1 := ⟨K - 1, by omega⟩
  have ih2 : ∀ p ∈ ps, ∃ j, j + 1 = k ∧ FreeOk j p.2.1 p.2.2 := fun p hm => by
    obtain ⟨j, hj, tj⟩ := hp p hm
    exact ⟨j, hj, ih j (by omega) (by omega) _ _ tj⟩
  rw [run_of (p := prg) (f := "free") rfl rfl, sat_runBody]; unfold t_free
  walk_at "st"
  walk_at "go"
  have fin : ∀ (acc : List Str) (S1 : Store), acc = hdL hd gs → Grow S S1 → S1[S.length]? = some (.lst (acc.map .str)) → SatR ((sem (prg.env (prg.run K)) t_floop).b [some (.tup (.str kind :: a :: rest)), some (.tup (gs.map .str)), some (.loc S.length), none, none, none, none] S1) (fun _ S' => ∃ r, D.non = .loc r ∧ S.length ≤ r ∧ S'[r]? = some (.lst ((dd (f gs)).map .str)) ∧ Grow S S') (fun d S' => ∃ r, d = .loc r ∧ S.length ≤ r ∧ S'[r]? = some (.lst ((dd (f gs)).map .str)) ∧ Grow S S') (fun _ _ => False) (fun _ _ => False) := by
    intro acc S1 e g1 g2
    have la : acc.length ≤ 1 := by
      rw [e]; unfold hdL; cases hd with
      | none => simp
      | some w => exact one_len
    have := floop_ok (k := k) (K := K) (t := .tup (.str kind :: a :: rest)) (gs := gs) h5 hk (by omega) hgs la hp ih2 (fun S => inn K S (by omega)) g1 g2 (v3 := none) (v4 := none) (v5 := none) (v6 := none)
    have ed : dd (f gs) = ext acc (prF ps gs) := by
      rw [hf, e]
      unfold dd
      rw [ext_app]
      congr 1
      unfold hdL
      cases hd with
      | none => rfl
      | some w =>
        show ext [] (one w gs) = one w gs
        unfold one
        split <;> rfl
    rw [ed]
    exact this.mono fun _ _ h => h.elim
  refine k_ifS (y_and ?_)
  walk_at "go"
  refine k_in2 (E := prg.env (prg.run K)) ⟨_, rfl, fun c => ?_, fun c => ⟨fun h => (by cases h), fun _ => k_nil ?_⟩⟩
  · have c := of_decide_eq_true c
    cases hd with
    | none =>
      simp only [List.mem_cons, List.not_mem_nil, or_false] at c
      rcases c with c | c
      · exact absurd c (h2 rfl).1
      · exact absurd c (h2 rfl).2
    | some w =>
      obtain ⟨_, l, rfl⟩ := h1 w rfl
      walk_at "go"
      refine p_ninStrT ⟨_, rfl, fun h => ?_, fun h => k_nil ?_⟩
      · have h : ¬ w ∈ gs := by simpa using h
        refine k_cons (k_exS (x_mth ?_))
        walk_at "go"
        refine ⟨ty_lst rfl new_at, ?_⟩
        walk_at "go"
        refine p_append new_at (by simp [sizeLine_eq]) (k_nil ?_)
        refine fin [w] _ ?_ (set_grow .one (Nat.le_refl _)) ?_
        · show [w] = one w gs
          unfold one; rw [if_neg h]
        · exact set_at new_at
      · have h : w ∈ gs := by simpa using h
        refine fin [] _ ?_ .one new_at
        show [] = one w gs
        unfold one; rw [if_pos h]
  · cases hd with
    | none => exact fin [] _ rfl .one new_at
    | some w =>
      exfalso
      have c := of_decide_eq_false c
      obtain ⟨hk, _⟩ := h1 w rfl
      exact c (by simp only [List.mem_cons, List.not_mem_nil, or_false]; exact hk)
end k26

end

section
set_option Elab.async false
set_option linter.all false
set_option maxRecDepth 100000
set_option maxHeartbeats 4000000
local macro_rules | `(tactic| walk_at "go") => `(tactic| repeat (first | with_reducible refine Mz.k_cons ?_ | with_reducible refine Mz.k_asgS ?_ | with_reducible refine Mz.k_retS ?_ | with_reducible refine Mz.k_exS ?_ | with_reducible refine Mz.x_bin ?_ | with_reducible refine Mz.x_cmp ?_ | with_reducible refine Mz.x_sub ?_ | with_reducible refine Mz.x_call ?_ | with_reducible refine Mz.x_blt ?_ | with_reducible refine Mz.x_cons ?_ | with_reducible refine Mz.x_nil ?_ | with_reducible refine Mz.x_tup ?_ | with_reducible refine Mz.x_lst ?_ | with_reducible refine Mz.x_int ?_ | with_reducible refine Mz.x_str ?_ | with_reducible refine Mz.x_bl ?_ | with_reducible refine Mz.x_non ?_ | with_reducible refine Mz.p_add ?_ | with_reducible refine Mz.p_sub ?_ | with_reducible refine Mz.p_eqI ?_ | with_reducible refine Mz.p_neI ?_ | with_reducible refine Mz.p_eqS ?_ | with_reducible refine Mz.p_neS ?_ | with_reducible refine Mz.p_lt ?_ | with_reducible refine Mz.p_le ?_ | with_reducible refine Mz.p_ge ?_ | with_reducible refine Mz.p_gt ?_ | with_reducible refine Mz.y_cmp ?_ | with_reducible refine Mz.x_fst ?_ | with_reducible refine Mz.j_cons ?_ | with_reducible refine Mz.j_nil ?_ | with_reducible refine Mz.x_fmt ?_ | with_reducible refine Mz.x_chain ?_ | with_reducible refine Mz.y_chain ?_ | with_reducible refine Mz.p_leS ?_ | with_reducible refine Mz.p_is ?_ | with_reducible refine Mz.p_isnot ?_ | with_reducible refine Mz.p_ord ?_ | with_reducible refine Mz.p_max ?_ | with_reducible refine Mz.p_min ?_ | with_reducible refine Mz.p_abs ?_ | with_reducible refine Mz.p_itT (by decide) rfl ?_ | (with_reducible refine (?_ : Mz.Sat _ _); simp only [List.set_cons_zero, List.set_cons_succ]) | with_reducible refine Mz.x_var (by with_unfolding_all exact rfl) ?_ | with_reducible refine ⟨(by simp only [List.length_cons, List.length_nil, PySem.sizeLine_eq]; omega : (List.length _ ≤ PySem.sizeLine)), ?_⟩))
local macro_rules | `(tactic| walk_at "st") => `(tactic| simp only [Mz.startG, List.map_cons, List.map_nil, List.length_cons, List.length_nil, Nat.reduceAdd, Nat.reduceSub, List.replicate, List.cons_append, List.nil_append, Nat.zero_add])
namespace k26
open PySem PySem.Spec L2 Mz TL
theorem digK {K n : Nat} {S : Store} {many : Int} (hK : 1 ≤ K) (h : Tape S n) (h0 : 0 < many) (h1 : divOk many = true) : Sat (prg.run K "_law_digit" [.loc n, .int many] S) fun d S' => ∃ r : Int, d = .int r ∧ 0 ≤ r ∧ r < many ∧ Tape S' n ∧ Keep n S S' := Tp.digitK (p := prg) rfl hK h h0 h1
def Fin (f : Met) : Prop := ∀ g w, w ∈ f g → PyData.strOk w = true
def okL (l : List Nat) : Bool := l.all fun c => c.ble 127
theorem okL_of {y : Str} (h : okL (tl y) = true) : PyData.strOk y = true := Tp.strOk_of fun c hc => by
  have := List.all_eq_true.mp h c hc
  have := Nat.le_of_ble_eq_true this
  omega
theorem letters_ok : (Str.ofString "abcdefghijklmnopqrstuvwxyz").length = 26 ∧ okL (tl (Str.ofString "abcdefghijklmnopqrstuvwxyz")) = true := by decide +kernel
theorem signs_ok : (Str.ofString " abz09AZ#()[]+-=<!*/,.~:").length = 24 := by decide +kernel
theorem nameK {K n : Nat} {S : Store} (hK : 2 ≤ K) (ht : Tape S n) : Sat (prg.run K "_law_name" [.loc n] S) fun d S' => ∃ y : Str, d = .str y ∧ PyData.strOk y = true ∧ Tape S' n ∧ Keep n S S' := by
  obtain ⟨K, rfl⟩ : ∃ j, K = j + 1 := ⟨K - 1, by omega⟩
  rw [run_of (p := prg) (f := "_law_name") rfl rfl, sat_runBody]; unfold t__law_name
  walk_at "st"
  walk_at "go"
  refine x_mth ?_
  walk_at "go"
  refine ⟨rfl, ?_⟩
  refine x_cons (x_lc (i_rng1 ?_))
  walk_at "go"
  refine (digK (by omega) (ht.app) (by decide) (by decide)).mono fun d1 S1 h1 => ?_
  obtain ⟨r1, rfl, r10, r11, t1, k1⟩ := h1
  have e1 : ∃ m : Int, [D.int 2, D.int 8][r1.toNat]? = some (.int m) ∧ 0 < m ∧ m ≤ 8 := by
    have : r1 = 0 ∨ r1 = 1 := by omega
    rcases this with rfl | rfl
    · exact ⟨2, rfl, by decide, by decide⟩
    · exact ⟨8, rfl, by decide, by decide⟩
  obtain ⟨m, e1, m0, m1⟩ := e1
  refine p_itL (k1.at new_at (Nat.ne_of_gt ht.lt)) r10 e1 ?_
  walk_at "go"
  refine (digK (by omega) t1 m0 (divOk_of m0 (by omega))).mono fun d2 S2 h2 => ?_
  obtain ⟨r2, rfl, r20, r21, t2, k2⟩ := h2
  refine p_add ⟨_, rfl, rngOk_of (by omega) (by omega), ?_⟩
  refine Tp.lc_signs (z := "abcdefghijklmnopqrstuvwxyz") (n := n) (fun S' h => digK (by omega) h (by decide) (by decide)) (by rw [letters_ok.1]; decide) (by rw [letters_ok.1]; decide) (by omega) (fun d => rfl) (fun d => rfl) t2 fun cs S3 c1 c2 t3 k3 => ?_
  refine x_nil ?_
  refine Tp.p_joinC new_at (by omega) fun y hy => ?_
  have oy : okL (tl y) = true := by
    rw [hy]
    exact List.all_eq_true.mpr fun c hc => List.all_eq_true.mp letters_ok.2 c (c2 c hc)
  have kk : Keep n S (S3 ++ [Cell.lst (cs.map fun c => .str ⟨#[c]⟩)]) := ((Keep.app.trans k1).trans k2).trans (k3.trans .app)
  have tt : Tape (S3 ++ [Cell.lst (cs.map fun c => .str ⟨#[c]⟩)]) n := t3.app
  have yl : y.length ≤ 10 := by rw [len_tl, hy]; omega
  generalize S3 ++ [Cell.lst (cs.map fun c => .str ⟨#[c]⟩)] = S4 at kk tt ⊢
  walk_at "go"
  refine k_ifS ?_
  walk_at "go"
  refine p_inStrL (ws := ["if", "in", "or", "and", "not", "for", "let", "len", "sum", "text", "rest", "then", "else", "true", "false"]) new_at ⟨_, rfl, fun _ => ?_, fun _ => k_nil ?_⟩
  · walk_at "go"
    have xl : (Str.ofString "x").length = 1 := by decide +kernel
    refine p_adds (sz (by omega)) ⟨_, rfl, okL_of ?_, tt.app, kk.trans .app⟩
    rw [tl_append]
    unfold okL at oy ⊢
    rw [List.all_append, oy]
    decide +kernel
  · walk_at "go"
    exact ⟨_, rfl, okL_of oy, tt.app, kk.trans .app⟩
/-- a list of names -/
structure Nms (S : Store) (m : Nat) (ws : List Str) : Prop where
  at_ : S[m]? = some (.lst (ws.map .str))
  l0 : 3 ≤ ws.length
  l1 : ws.length ≤ 8
  ok : ∀ w ∈ ws, PyData.strOk w = true
theorem Nms.keep {S S' : Store} {m n : Nat} {ws : List Str} (h : Nms S m ws) (k : Keep n S S') (ne : m ≠ n) : Nms S' m ws := ⟨k.at h.at_ ne, h.l0, h.l1, h.ok⟩
/-- names[digit(tape, len(names))] -/
theorem pickN {K n m : Nat} {S : Store} {ws : List Str} {g : Sg} {Q : D → Store → Prop} (hK : 1 ≤ K) (ht : Tape S n) (hm : Nms S m ws) (ne : m ≠ n) (h0 : g[0]? = some (some (.loc n))) (h1 : g[1]? = some (some (.loc m))) (q : ∀ w S', PyData.strOk w = true → Tape S' n → Keep n S S' → Q (.str w) S') :
    Sat ((sem (prg.env (prg.run K)) (.sub (.var 1) (.call "_law_digit" (.cons (.var 0) (.cons (.blt .len (.cons (.var 1) .nil)) .nil))))).e g S) Q := by
  refine x_sub (x_var h1 (x_call (x_cons (x_var h0 (x_cons (x_blt (x_cons (x_var h1 (x_nil (p_lenL hm.at_ (x_nil ?_)))))))))))
  rw [List.length_map]
  have l0 := hm.l0
  have l1 := hm.l1
  refine (digK hK ht (by omega) (divOk_of (by omega) (by omega))).mono fun d S1 h => ?_
  obtain ⟨r, rfl, r0, r1, t1, k1⟩ := h
  have hr : r.toNat < ws.length := by omega
  exact p_itL (k1.at hm.at_ ne) r0 (x := .str ws[r.toNat]) (by rw [List.getElem?_map, List.getElem?_eq_getElem hr]; rfl) (q _ _ (hm.ok _ (List.getElem_mem hr)) t1 k1)
theorem fin_nil : Fin (fun _ => []) := fun g w h => by cases h
theorem fin_one {w : Str} (h : PyData.strOk w = true) : Fin (one w) := fun g v hv => by
  unfold one at hv
  split at hv
  · cases hv
  · simp only [List.mem_cons, List.not_mem_nil, or_false] at hv
    rw [hv]; exact h
theorem closedK {K n m : Nat} {S : Store} {ws : List Str} (hK : 2 ≤ K) (ht : Tape S n) (hm : Nms S m ws) (ne : m ≠ n) : Sat (prg.run K "_law_closed_tree" [.loc n, .loc m] S) fun d S' => ∃ f, (∀ k, Tr k d f) ∧ Fin f ∧ Tape S' n ∧ Keep n S S' := by
  obtain ⟨K, rfl⟩ : ∃ j, K = j + 1 := ⟨K - 1, by omega⟩
  rw [run_of (p := prg) (f := "_law_closed_tree") rfl rfl, sat_runBody]; unfold t__law_closed_tree
  walk_at "st"
  refine k_cons (k_par ?_)
  walk_at "go"
  refine (digK (by omega) ht (by decide) (by decide)).mono fun d1 S1 h1 => ?_
  obtain ⟨way, rfl, w0, w1, t1, k1⟩ := h1
  walk_at "go"
  refine (digK (by omega) t1 (by decide) (by decide)).mono fun d2 S2 h2 => ?_
  obtain ⟨a, rfl, a0, a1, t2, k2⟩ := h2
  refine x_nil ⟨_, _, rfl, ?_⟩
  have m2 := hm.keep (k1.trans k2) ne
  have kk := k1.trans k2
  walk_at "go"
  refine k_ifS ?_
  walk_at "go"
  refine ⟨_, rfl, fun _ => ?_, fun _ => k_nil ?_⟩
  · walk_at "go"
    refine p_pow (by decide) ?_
    walk_at "go"
    refine (digK (by omega) t2.app (by decide) (by decide)).mono fun d3 S3 h3 => ?_
    obtain ⟨r3, rfl, r30, r31, t3, k3⟩ := h3
    have e1 : ∃ z : Int, [D.int 10, D.int 1000, D.int (10 ^ Int.toNat 60)][r3.toNat]? = some (.int z) ∧ 0 < z ∧ divOk z = true := by
      have : r3 = 0 ∨ r3 = 1 ∨ r3 = 2 := by omega
      rcases this with rfl | rfl | rfl
      · exact ⟨10, rfl, by decide, by decide⟩
      · exact ⟨1000, rfl, by decide, by decide⟩
      · exact ⟨_, rfl, by decide, by decide⟩
    obtain ⟨z, e1, z0, z1⟩ := e1
    refine p_itL (k3.at new_at (Nat.ne_of_gt t2.lt)) r30 e1 ?_
    walk_at "go"
    refine (digK (by omega) t3 z0 z1).mono fun d4 S4 h4 => ?_
    obtain ⟨r4, rfl, r40, r41, t4, k4⟩ := h4
    walk_at "go"
    exact ⟨_, fun k => .leaf k _ _ _ (.inl rfl) rfl, fin_nil, t4, kk.trans ((Keep.app.trans k3).trans k4)⟩
  walk_at "go"
  refine k_ifS ?_
  walk_at "go"
  refine ⟨_, rfl, fun _ => ?_, fun _ => k_nil ?_⟩
  · walk_at "go"
    refine (digK (by omega) t2 (by decide) (by decide)).mono fun d3 S3 h3 => ?_
    obtain ⟨r3, rfl, r30, r31, t3, k3⟩ := h3
    walk_at "go"
    exact ⟨_, fun k => .leaf k _ _ _ (.inr (.inl rfl)) rfl, fin_nil, t3, kk.trans k3⟩
  walk_at "go"
  refine k_ifS ?_
  walk_at "go"
  refine ⟨_, rfl, fun _ => ?_, fun _ => k_nil ?_⟩
  · walk_at "go"
    refine x_mth ?_
    walk_at "go"
    refine ⟨rfl, ?_⟩
    refine x_cons (x_lc (i_rng1 ?_))
    walk_at "go"
    refine (digK (by omega) t2 (by decide) (by decide)).mono fun d3 S3 h3 => ?_
    obtain ⟨r3, rfl, r30, r31, t3, k3⟩ := h3
    refine ⟨_, rfl, rngOk_of (by omega) (by omega), ?_⟩
    refine Tp.lc_signs (z := " abz09AZ#()[]+-=<!*/,.~:") (n := n) (fun S' h => digK (by omega) h (by decide) (by decide)) (by rw [signs_ok]; decide) (by rw [signs_ok]; decide) (by omega) (fun d => rfl) (fun d => rfl) t3 fun cs S4 c1 c2 t4 k4 => ?_
    refine x_nil ?_
    refine Tp.p_joinC new_at (by omega) fun y hy => ?_
    walk_at "go"
    exact ⟨_, fun k => .leaf k _ _ _ (.inr (.inr rfl)) rfl, fin_nil, t4.app, kk.trans ((k3.trans k4).trans .app)⟩
  refine k_cons (k_retS (x_tup (x_cons (x_str (x_cons (x_var rfl (x_cons ?_)))))))
  refine pickN (K := K) (by omega) t2 m2 ne rfl rfl fun w S3 ow t3 k3 => ?_
  walk_at "go"
  exact ⟨_, fun k => .name k _ _, fin_one ow, t3, kk.trans k3⟩
/-- trees in a row -/
structure Trs (k : Nat) (ts : List D) (fs : List Met) : Prop where
  len : ts.length = fs.length
  all : ∀ (i : Nat) (t : D) (f : Met), ts[i]? = some t → fs[i]? = some f → Tr k t f
  fin : ∀ f ∈ fs, Fin f
theorem Trs.nil {k : Nat} : Trs k [] [] := ⟨rfl, fun i t f h => (by simp at h), fun f h => (by cases h)⟩
theorem Trs.snoc {k : Nat} {ts : List D} {fs : List Met} {t : D} {f : Met} (h : Trs k ts fs) (ht : Tr k t f) (hf : Fin f) : Trs k (ts ++ [t]) (fs ++ [f]) := by
  refine ⟨by simp [h.len], fun i u g e1 e2 => ?_, fun g hg => ?_⟩
  · by_cases hi : i < ts.length
    · rw [List.getElem?_append_left hi] at e1
      rw [List.getElem?_append_left (by rw [← h.len]; exact hi)] at e2
      exact h.all i u g e1 e2
    · rw [List.getElem?_append_right (by omega)] at e1
      rw [List.getElem?_append_right (by rw [← h.len]; omega), ← h.len] at e2
      have hz : i - ts.length = 0 := by
        have := (List.getElem?_eq_some_iff.mp e1).1
        simp at this
        omega
      rw [hz] at e1 e2
      cases e1; cases e2
      exact ht
  · rcases List.mem_append.mp hg with hg | hg
    · exact h.fin g hg
    · simp only [List.mem_cons, List.not_mem_nil, or_false] at hg
      rw [hg]; exact hf
theorem Trs.app {k : Nat} {ts us : List D} {fs gs : List Met} (h : Trs k ts fs) (h' : Trs k us gs) : Trs k (ts ++ us) (fs ++ gs) := by
  refine ⟨by simp [h.len, h'.len], fun i u g e1 e2 => ?_, fun g hg => ?_⟩
  · by_cases hi : i < ts.length
    · rw [List.getElem?_append_left hi] at e1
      rw [List.getElem?_append_left (by rw [← h.len]; exact hi)] at e2
      exact h.all i u g e1 e2
    · rw [List.getElem?_append_right (by omega)] at e1
      rw [List.getElem?_append_right (by rw [← h.len]; omega), ← h.len] at e2
      exact h'.all _ u g e1 e2
  · rcases List.mem_append.mp hg with hg | hg
    · exact h.fin g hg
    · exact h'.fin g hg
theorem Trs.take {k : Nat} {ts : List D} {fs : List Met} (h : Trs k ts fs) (n : Nat) : Trs k (ts.take n) (fs.take n) := by
  refine ⟨by simp [h.len], fun i t f e1 e2 => ?_, fun f hf => h.fin f (List.mem_of_mem_take hf)⟩
  rw [List.getElem?_take] at e1 e2
  split at e1
  · rename_i hi
    rw [if_pos hi] at e2
    exact h.all i t f e1 e2
  · cases e1
theorem Trs.one {k : Nat} {t : D} {f : Met} (h : Tr k t f) (hf : Fin f) : Trs k [t] [f] := Trs.nil.snoc h hf
theorem Trs.two {k : Nat} {t u : D} {f g : Met} (h : Tr k t f) (hf : Fin f) (h' : Tr k u g) (hg : Fin g) : Trs k [t, u] [f, g] := (Trs.one h hf).snoc h' hg
theorem Trs.three {k : Nat} {t u v : D} {f g e : Met} (h : Tr k t f) (hf : Fin f) (h' : Tr k u g) (hg : Fin g) (h2 : Tr k v e) (he : Fin e) : Trs k [t, u, v] [f, g, e] := (Trs.two h hf h' hg).snoc h2 he
theorem fin_cat {fs : List Met} (h : ∀ f ∈ fs, Fin f) : Fin (catF fs) := fun g w hw => by
  unfold catF at hw
  rw [List.mem_flatten] at hw
  obtain ⟨l, hl, hw⟩ := hw
  obtain ⟨f, hf, rfl⟩ := List.mem_map.mp hl
  exact h f hf g w hw
theorem Trs.at {k i : Nat} {ts : List D} {fs : List Met} (h : Trs k ts fs) (hi : i < ts.length) : ∃ t f, ts[i]? = some t ∧ Tr k t f ∧ Fin f := by
  have hi' : i < fs.length := by rw [← h.len]; exact hi
  exact ⟨ts[i], fs[i], List.getElem?_eq_getElem hi, h.all i _ _ (List.getElem?_eq_getElem hi) (List.getElem?_eq_getElem hi'), h.fin _ (List.getElem_mem hi')⟩
/-- a comprehension of drawn trees -/
theorem lc_trees {E : PEnv} {el : T} {N n k : Nat} {g0 : Sg} {S : Store} {Q : List D → Store → Prop} (hN : N ≤ 10)
    (hd : ∀ d S', Tape S' n → Keep n S S' → Sat ((sem E el).e (g0.set 9 (some d)) S') fun d S'' => ∃ f, Tr k d f ∧ Fin f ∧ Tape S'' n ∧ Keep n S' S'') (ht : Tape S n)
    (q : ∀ ts fs S', ts.length = N → Trs k ts fs → Tape S' n → Keep n S S' → Q ts S') :
    Sat (lcLoop (.vals (Mz.intsFrom 0 N)) (sem E (.var 9)).g tsNil (sem E el).e g0 (ibound (.vals (Mz.intsFrom 0 N)) S) 0 [] S) Q := by
  have hl : (Mz.intsFrom 0 N).length = N := by simp [Mz.intsFrom]
  refine lcLoop_vals (fun i acc S' => ∃ fs : List Met, acc.length = i ∧ Trs k acc fs ∧ Tape S' n ∧ Keep n S S') (fun i d acc S' hi p => ?_) (fun acc S' p => ?_) _ 0 _ _ (by simp [ibound]) (Nat.zero_le _) ⟨[], rfl, .nil, ht, Keep.refl _ _⟩
  · obtain ⟨fs, p1, p2, p3, p4⟩ := p
    have hk : i < N := by rw [← hl]; exact (List.getElem?_eq_some_iff.mp hi).1
    refine sat_ok.mpr (sat_ok.mpr ?_)
    refine ⟨fun _ => ?_, fun h => by cases h⟩
    refine (hd d S' p3 p4).mono fun t S2 h => ?_
    obtain ⟨f, tr, fi, t2, k2⟩ := h
    exact ⟨by rw [p1, sizeLine_eq]; omega, fs ++ [f], by rw [List.length_append, p1]; rfl, p2.snoc tr fi, t2, p4.trans k2⟩
  · obtain ⟨fs, p1, p2, p3, p4⟩ := p
    exact q acc fs S' (p1.trans hl) p2 p3 p4
end k26

end

section
set_option Elab.async false
set_option linter.all false
set_option maxRecDepth 100000
set_option maxHeartbeats 4000000
local macro_rules | `(tactic| walk_at "go") => `(tactic| repeat (first | with_reducible refine Mz.k_cons ?_ | with_reducible refine Mz.k_asgS ?_ | with_reducible refine Mz.k_retS ?_ | with_reducible refine Mz.k_exS ?_ | with_reducible refine Mz.x_bin ?_ | with_reducible refine Mz.x_cmp ?_ | with_reducible refine Mz.x_sub ?_ | with_reducible refine Mz.x_call ?_ | with_reducible refine Mz.x_blt ?_ | with_reducible refine Mz.x_cons ?_ | with_reducible refine Mz.x_nil ?_ | with_reducible refine Mz.x_tup ?_ | with_reducible refine Mz.x_lst ?_ | with_reducible refine Mz.x_int ?_ | with_reducible refine Mz.x_str ?_ | with_reducible refine Mz.x_bl ?_ | with_reducible refine Mz.x_non ?_ | with_reducible refine Mz.p_add ?_ | with_reducible refine Mz.p_sub ?_ | with_reducible refine Mz.p_eqI ?_ | with_reducible refine Mz.p_neI ?_ | with_reducible refine Mz.p_eqS ?_ | with_reducible refine Mz.p_neS ?_ | with_reducible refine Mz.p_lt ?_ | with_reducible refine Mz.p_le ?_ | with_reducible refine Mz.p_ge ?_ | with_reducible refine Mz.p_gt ?_ | with_reducible refine Mz.y_cmp ?_ | with_reducible refine Mz.x_fst ?_ | with_reducible refine Mz.j_cons ?_ | with_reducible refine Mz.j_nil ?_ | with_reducible refine Mz.x_fmt ?_ | with_reducible refine Mz.x_chain ?_ | with_reducible refine Mz.y_chain ?_ | with_reducible refine Mz.p_leS ?_ | with_reducible refine Mz.p_is ?_ | with_reducible refine Mz.p_isnot ?_ | with_reducible refine Mz.p_ord ?_ | with_reducible refine Mz.p_max ?_ | with_reducible refine Mz.p_min ?_ | with_reducible refine Mz.p_abs ?_ | with_reducible refine Mz.p_itT (by decide) rfl ?_ | (with_reducible refine (?_ : Mz.Sat _ _); simp only [List.set_cons_zero, List.set_cons_succ]) | with_reducible refine Mz.x_var (by with_unfolding_all exact rfl) ?_ | with_reducible refine ⟨(by simp only [List.length_cons, List.length_nil, PySem.sizeLine_eq]; omega : (List.length _ ≤ PySem.sizeLine)), ?_⟩))
local macro_rules | `(tactic| walk_at "st") => `(tactic| simp only [Mz.startG, List.map_cons, List.map_nil, List.length_cons, List.length_nil, Nat.reduceAdd, Nat.reduceSub, List.replicate, List.cons_append, List.nil_append, Nat.zero_add])
namespace k26
open PySem PySem.Spec L2 Mz TL
theorem p_inI {S : Store} {Q : D → Store → Prop} {i : Int} {js : List Int} (q : Q (.bl (decide (i ∈ js))) S) : Sat (semCop .in_ (.int i) (.tup (js.map .int)) S) Q := by
  have e : inD (.int i) (.tup (js.map .int)) S = some (decide (i ∈ js)) := by
    have f : (js.map D.int).all flatD = true := by simp [flatD]
    have a : ((js.map D.int).any fun y => eqF y (.int i)) = decide (i ∈ js) := by
      rw [Bool.eq_iff_iff]; simp [eqF]
    show (if (flatD (.int i) && (js.map D.int).all flatD) = true then some ((js.map D.int).any fun y => eqF y (.int i)) else _) = _
    rw [f, a]; rfl
  unfold semCop
  simp only [e]
  exact sat_ok.mpr q
theorem Trs.d1 {k : Nat} {ts : List D} {fs : List Met} (h : Trs k ts fs) (n : 1 ≤ ts.length) : ∃ t f, ts[0]? = some t ∧ Tr k t f ∧ Fin f := h.at n
theorem Trs.d2 {k : Nat} {ts : List D} {fs : List Met} (h : Trs k ts fs) (n : 2 ≤ ts.length) : ∃ t f, ts[1]? = some t ∧ Tr k t f ∧ Fin f := h.at n
theorem Trs.d3 {k : Nat} {ts : List D} {fs : List Met} (h : Trs k ts fs) (n : 3 ≤ ts.length) : ∃ t f, ts[2]? = some t ∧ Tr k t f ∧ Fin f := h.at n
theorem oth {k : Nat} {kind : Str} {a : D} {pre ts : List D} {fs : List Met} (hk : kind ∈ ([("own" : Str), "minus", "sign", "and", "or", "not", "pick", "if"] : List Str)) (hp : pre.length ≤ 1) (hs : pre.all scal = true) (h : Trs k ts fs) (h5 : ts.length ≤ 5) : ∃ f, Tr (k + 1) (.tup (.str kind :: a :: (pre ++ ts))) f ∧ Fin f :=
  ⟨_, .other k kind a pre ts fs hk hp hs h.len h5 h.all, fin_cat h.fin⟩
theorem lits {way : Int} (h0 : 0 ≤ way) (h1 : way < 14) : ∃ N : Nat, [D.int 1, .int 1, .int 2, .int 1, .int 1, .int 2, .int 2, .int 2, .int 2, .int 1, .int 2, .int 2, .int 3, .int 2][way.toNat]? = some (.int (N : Int)) ∧ 1 ≤ N ∧ N ≤ 3 ∧ ((way = 2 ∨ way = 5 ∨ way = 6 ∨ way = 7 ∨ way = 8 ∨ 10 ≤ way) → 2 ≤ N) ∧ (way = 12 → N = 3) := by
  have : way = 0 ∨ way = 1 ∨ way = 2 ∨ way = 3 ∨ way = 4 ∨ way = 5 ∨ way = 6 ∨ way = 7 ∨ way = 8 ∨ way = 9 ∨ way = 10 ∨ way = 11 ∨ way = 12 ∨ way = 13 := by omega
  rcases this with rfl | rfl | rfl | rfl | rfl | rfl | rfl | rfl | rfl | rfl | rfl | rfl | rfl | rfl <;> first | exact ⟨1, rfl, by omega, by omega, by omega, by omega⟩ | exact ⟨2, rfl, by omega, by omega, by omega, by omega⟩ | exact ⟨3, rfl, by omega, by omega, by omega, by omega⟩
theorem pick3 {xs : List Str} {r : Int} (h0 : 0 ≤ r) (h1 : r < xs.length) : ∃ w, (xs.map D.str)[r.toNat]? = some (.str w) ∧ w ∈ xs := by
  have h : r.toNat < xs.length := by omega
  exact ⟨xs[r.toNat], by rw [List.getElem?_map, List.getElem?_eq_getElem h]; rfl, List.getElem_mem h⟩
theorem fin_app {f g : Met} (hf : Fin f) (hg : Fin g) : Fin (fun x => f x ++ g x) := fun x w h => by
  rcases List.mem_append.mp h with h | h
  · exact hf x w h
  · exact hg x w h
theorem treeK {n m : Nat} {ws : List Str} : ∀ (k K : Nat) (S : Store), k + 3 ≤ K → k ≤ 6 → Tape S n → Nms S m ws → m ≠ n → Sat (prg.run K "_law_tree" [.loc n, .loc m, .int (k : Int)] S) fun d S' => ∃ f, Tr k d f ∧ Fin f ∧ Tape S' n ∧ Keep n S S' := by
  intro k
  induction k with
  | zero =>
    intro K S hK _ ht hm ne
    obtain ⟨K, rfl⟩ : ∃ j, K = j + 1 := ⟨K - 1, by omega⟩
    rw [run_of (p := prg) (f := "_law_tree") rfl rfl, sat_runBody]; unfold t__law_tree
    walk_at "st"
    refine k_cons (k_par ?_)
    walk_at "go"
    refine (digK (by omega) ht (by decide) (by decide)).mono fun d1 S1 h1 => ?_
    obtain ⟨way, rfl, w0, w1, t1, k1⟩ := h1
    walk_at "go"
    refine (digK (by omega) t1 (by decide) (by decide)).mono fun d2 S2 h2 => ?_
    obtain ⟨a, rfl, a0, a1, t2, k2⟩ := h2
    refine x_nil ⟨_, _, rfl, ?_⟩
    have m2 := hm.keep (k1.trans k2) ne
    walk_at "go"
    refine k_ifS (y_or ?_)
    walk_at "go"
    refine ⟨_, rfl, fun _ => ⟨fun _ => ?_, fun h => (by cases h)⟩, fun h => (by simp at h)⟩
    walk_at "go"
    refine (closedK (by omega) t2 m2 ne).mono fun d S3 h => ?_
    obtain ⟨f, tr, fi, t3, k3⟩ := h
    exact ⟨f, tr 0, fi, t3, (k1.trans k2).trans k3⟩
  | succ k ih =>
    intro K S hK hk6 ht hm ne
    obtain ⟨K, rfl⟩ : ∃ j, K = j + 1 := ⟨K - 1, by omega⟩
    rw [run_of (p := prg) (f := "_law_tree") rfl rfl, sat_runBody]; unfold t__law_tree
    walk_at "st"
    refine k_cons (k_par ?_)
    walk_at "go"
    refine (digK (by omega) ht (by decide) (by decide)).mono fun d1 S1 h1 => ?_
    obtain ⟨way, rfl, w0, w1, t1, k1⟩ := h1
    walk_at "go"
    refine (digK (by omega) t1 (by decide) (by decide)).mono fun d2 S2 h2 => ?_
    obtain ⟨a, rfl, a0, a1, t2, k2⟩ := h2
    refine x_nil ⟨_, _, rfl, ?_⟩
    have m2 := hm.keep (k1.trans k2) ne
    walk_at "go"
    refine k_ifS (y_or ?_)
    walk_at "go"
    refine ⟨_, rfl, fun h => (by have := of_decide_eq_true h; omega), fun _ => ?_⟩
    walk_at "go"
    refine ⟨_, rfl, fun _ => ?_, fun hw => k_nil ?_⟩
    · walk_at "go"
      refine (closedK (by omega) t2 m2 ne).mono fun d S3 h => ?_
      obtain ⟨f, tr, fi, t3, k3⟩ := h
      exact ⟨f, tr (k + 1), fi, t3, (k1.trans k2).trans k3⟩
    have hw := of_decide_eq_false hw
    have kk := k1.trans k2
    clear k1 k2 t1
    refine k_cons (k_alc (x_lc (i_rng1 ?_)))
    walk_at "go"
    obtain ⟨N, e0, n0, n1, n2, n3⟩ := lits w0 w1
    refine p_itL new_at w0 e0 ?_
    refine ⟨_, rfl, rngOk_of (by omega) (by omega), ?_⟩
    have m3 : Nms (S2 ++ [Cell.lst [D.int 1, .int 1, .int 2, .int 1, .int 1, .int 2, .int 2, .int 2, .int 2, .int 1, .int 2, .int 2, .int 3, .int 2]]) m ws := ⟨app_at m2.at_, m2.l0, m2.l1, m2.ok⟩
    rw [Int.toNat_natCast]
    refine lc_trees (k := k) (n := n) (by omega) (fun d S' tS kS => ?_) t2.app fun ts fs S4 tl trs t4 k4 => ?_
    · refine x_call ?_
      walk_at "go"
      refine Sat.mono (Q := fun d S' => _) ?_ fun _ _ h => h
      have := ih K S' (by omega) (by omega) tS (m3.keep kS ne) ne
      rw [show ((k + 1 : Nat) : Int) - 1 = (k : Int) by omega]
      exact this
    have m4 : Nms (S4 ++ [Cell.lst ts]) m ws := ⟨app_at (m3.keep k4 ne).at_, m2.l0, m2.l1, m2.ok⟩
    have t5 : Tape (S4 ++ [Cell.lst ts]) n := t4.app
    have k5 : Keep n S (S4 ++ [Cell.lst ts]) := kk.trans ((Keep.app.trans k4).trans .app)
    have at5 : (S4 ++ [Cell.lst ts])[S4.length]? = some (.lst ts) := new_at
    have neL : S4.length ≠ n := Nat.ne_of_gt t4.lt
    generalize S4.length = L at at5 neL ⊢
    generalize S4 ++ [Cell.lst ts] = S5 at m4 t5 k5 at5 ⊢
    clear t4 k4 m3 t2 m2 kk ht hm
    obtain ⟨ta, fa, ea, tra, fia⟩ := trs.d1 (by omega)
    have it0 : ∀ {S' : Store} {Q : D → Store → Prop}, Keep n S5 S' → Q ta S' → Sat (semItem (.loc L) (.int 0) S') Q := fun k q => p_itL (k.at at5 neL) (by decide) ea q
    have rf : Keep n S5 S5 := .refl _ _
    walk_at "go"
    refine k_ifS ?_
    walk_at "go"
    refine ⟨_, rfl, fun _ => ?_, fun h1 => k_nil ?_⟩
    · walk_at "go"
      refine (digK (by omega) t5.app (by decide) (by decide)).mono fun d6 S6 h6 => ?_
      obtain ⟨r6, rfl, r60, r61, t6, k6⟩ := h6
      obtain ⟨w, e6, hw6⟩ := pick3 (xs := ["len", "sum", "text"]) r60 (by simpa using r61)
      refine p_itL (k6.at new_at (Nat.ne_of_gt t5.lt)) r60 e6 ?_
      walk_at "go"
      refine it0 (Keep.app.trans k6) ?_
      walk_at "go"
      obtain ⟨f, tr, fi⟩ := oth (kind := "own") (a := .int a) (pre := [.str w]) (by simp) (by simp) rfl (Trs.one tra fia) (by simp)
      exact ⟨f, tr, fi, t6, k5.trans (Keep.app.trans k6)⟩
    walk_at "go"
    refine k_ifS ?_
    walk_at "go"
    refine p_inI (js := [2, 3]) ⟨_, rfl, fun _ => ?_, fun h2 => k_nil ?_⟩
    · refine k_cons (k_alc (x_lc (i_rng1 ?_)))
      walk_at "go"
      refine (digK (by omega) t5 (by decide) (by decide)).mono fun d6 S6 h6 => ?_
      obtain ⟨r6, rfl, r60, r61, t6, k6⟩ := h6
      refine ⟨_, rfl, rngOk_of (by omega) (by omega), ?_⟩
      refine lc_trees (k := k) (n := n) (by omega) (fun d S' tS kS => ?_) t6 fun us gs S7 ul urs t7 k7 => ?_
      · refine x_call ?_
        walk_at "go"
        refine (closedK (by omega) tS (m4.keep (k6.trans kS) ne) ne).mono fun d S' h => ?_
        obtain ⟨f, tr, fi, t, kp⟩ := h
        exact ⟨f, tr k, fi, t, kp⟩
      have k67 := k6.trans k7
      refine k_cons (k_retS (x_tup (x_cons (x_str (x_cons (x_var rfl (x_cons ?_)))))))
      refine pickN (K := K) (by omega) t7.app ((m4.keep (k67.trans .app) ne)) ne rfl rfl fun w S8 ow t8 k8 => ?_
      walk_at "go"
      have k58 := (k67.trans (Keep.app (c := [Cell.lst us]))).trans k8
      refine p_addLL (k58.at at5 neL) (k8.at new_at (Nat.ne_of_gt t7.lt)) (by omega) ?_
      walk_at "go"
      refine p_tuple new_at ?_
      walk_at "go"
      have tr := trs.app urs
      exact ⟨_, .call k w _ _ _ tr.len (by simp; omega) tr.all, fin_app (fin_one ow) (fin_cat tr.fin), t8.app, k5.trans (k58.trans .app)⟩
    walk_at "go"
    refine k_ifS ?_
    walk_at "go"
    refine ⟨_, rfl, fun _ => ?_, fun h3 => k_nil ?_⟩
    · walk_at "go"
      refine it0 rf ?_
      walk_at "go"
      obtain ⟨f, tr, fi⟩ := oth (kind := "minus") (a := .int a) (pre := []) (by simp) (by simp) rfl (Trs.one tra fia) (by simp)
      exact ⟨f, tr, fi, t5, k5⟩
    walk_at "go"
    refine k_ifS ?_
    walk_at "go"
    have h2' : ¬ (way = 2 ∨ way = 3) := by simpa using of_decide_eq_false h2
    have h1' := of_decide_eq_false h1
    have h3' := of_decide_eq_false h3
    refine p_inI (js := [5, 6, 7]) ⟨_, rfl, fun h4 => ?_, fun h4 => k_nil ?_⟩
    · have h4 : way = 5 ∨ way = 6 ∨ way = 7 := by simpa using of_decide_eq_true h4
      obtain ⟨tb, fb, eb, trb, fib⟩ := trs.d2 (by have := n2 (by omega); omega)
      walk_at "go"
      refine (digK (by omega) t5.app (by decide) (by decide)).mono fun d6 S6 h6 => ?_
      obtain ⟨r6, rfl, r60, r61, t6, k6⟩ := h6
      obtain ⟨w, e6, hw6⟩ := pick3 (xs := ["+", "-", "*", "//", "rest", "==", "!=", "<", "<="]) r60 (by simpa using r61)
      refine p_itL (k6.at new_at (Nat.ne_of_gt t5.lt)) r60 e6 ?_
      walk_at "go"
      refine it0 (Keep.app.trans k6) ?_
      walk_at "go"
      refine p_itL ((Keep.app.trans k6).at at5 neL) (by decide) eb ?_
      walk_at "go"
      obtain ⟨f, tr, fi⟩ := oth (kind := "sign") (a := .int a) (pre := [.str w]) (by simp) (by simp) rfl (Trs.two tra fia trb fib) (by simp)
      exact ⟨f, tr, fi, t6, k5.trans (Keep.app.trans k6)⟩
    have h4' : ¬ (way = 5 ∨ way = 6 ∨ way = 7) := by simpa using of_decide_eq_false h4
    walk_at "go"
    refine k_ifS ?_
    walk_at "go"
    refine ⟨_, rfl, fun h5 => ?_, fun h5 => k_nil ?_⟩
    · have h5 := of_decide_eq_true h5
      obtain ⟨tb, fb, eb, trb, fib⟩ := trs.d2 (by have := n2 (by omega); omega)
      walk_at "go"
      refine (digK (by omega) t5.app (by decide) (by decide)).mono fun d6 S6 h6 => ?_
      obtain ⟨r6, rfl, r60, r61, t6, k6⟩ := h6
      obtain ⟨w, e6, hw6⟩ := pick3 (xs := ["and", "or"]) r60 (by simpa using r61)
      refine p_itL (k6.at new_at (Nat.ne_of_gt t5.lt)) r60 e6 ?_
      walk_at "go"
      refine it0 (Keep.app.trans k6) ?_
      walk_at "go"
      refine p_itL ((Keep.app.trans k6).at at5 neL) (by decide) eb ?_
      walk_at "go"
      have hk : w ∈ ([("own" : Str), "minus", "sign", "and", "or", "not", "pick", "if"] : List Str) := by
        simp only [List.mem_cons, List.not_mem_nil, or_false] at hw6 ⊢
        rcases hw6 with rfl | rfl <;> simp
      obtain ⟨f, tr, fi⟩ := oth (kind := w) (a := .int a) (pre := []) hk (by simp) rfl (Trs.two tra fia trb fib) (by simp)
      exact ⟨f, tr, fi, t6, k5.trans (Keep.app.trans k6)⟩
    have h5' := of_decide_eq_false h5
    walk_at "go"
    refine k_ifS ?_
    walk_at "go"
    refine ⟨_, rfl, fun _ => ?_, fun h6 => k_nil ?_⟩
    · walk_at "go"
      refine it0 rf ?_
      walk_at "go"
      obtain ⟨f, tr, fi⟩ := oth (kind := "not") (a := .int a) (pre := []) (by simp) (by simp) rfl (Trs.one tra fia) (by simp)
      exact ⟨f, tr, fi, t5, k5⟩
    have h6' := of_decide_eq_false h6
    obtain ⟨tb, fb, eb, trb, fib⟩ := trs.d2 (by have := n2 (by omega); omega)
    have it1 : ∀ {S' : Store} {Q : D → Store → Prop}, Keep n S5 S' → Q tb S' → Sat (semItem (.loc L) (.int 1) S') Q := fun k q => p_itL (k.at at5 neL) (by decide) eb q
    walk_at "go"
    refine k_ifS ?_
    walk_at "go"
    refine ⟨_, rfl, fun _ => ?_, fun h7 => k_nil ?_⟩
    · walk_at "go"
      refine it0 rf ?_
      walk_at "go"
      refine it1 rf ?_
      walk_at "go"
      obtain ⟨f, tr, fi⟩ := oth (kind := "pick") (a := .int a) (pre := []) (by simp) (by simp) rfl (Trs.two tra fia trb fib) (by simp)
      exact ⟨f, tr, fi, t5, k5⟩
    have h7' := of_decide_eq_false h7
    walk_at "go"
    refine k_ifS ?_
    walk_at "go"
    refine ⟨_, rfl, fun _ => ?_, fun h8 => k_nil ?_⟩
    · refine k_cons (k_retS (x_tup (x_cons (x_str (x_cons (x_var rfl (x_cons ?_)))))))
      refine pickN (K := K) (by omega) t5 m4 ne rfl rfl fun w S8 ow t8 k8 => ?_
      walk_at "go"
      refine it0 k8 ?_
      walk_at "go"
      refine it1 k8 ?_
      walk_at "go"
      exact ⟨_, .let_ k w _ _ _ _ _ tra trb, fun g v hv => (List.mem_append.mp hv).elim (fia _ v) (fib _ v), t8, k5.trans k8⟩
    have h8' := of_decide_eq_false h8
    walk_at "go"
    refine k_ifS ?_
    walk_at "go"
    refine ⟨_, rfl, fun h9 => ?_, fun h9 => k_nil ?_⟩
    · have h9 := of_decide_eq_true h9
      obtain ⟨tc, fc, ec, trc, fic⟩ := trs.d3 (by have := n3 h9; omega)
      walk_at "go"
      refine it0 rf ?_
      walk_at "go"
      refine it1 rf ?_
      walk_at "go"
      refine p_itL at5 (by decide) ec ?_
      walk_at "go"
      obtain ⟨f, tr, fi⟩ := oth (kind := "if") (a := .int a) (pre := []) (by simp) (by simp) rfl (Trs.three tra fia trb fib trc fic) (by simp)
      exact ⟨f, tr, fi, t5, k5⟩
    walk_at "go"
    refine k_ifS ?_
    walk_at "go"
    refine (digK (by omega) t5 (by decide) (by decide)).mono fun d6 S6 h6 => ?_
    obtain ⟨r6, rfl, r60, r61, t6, k6⟩ := h6
    walk_at "go"
    refine ⟨_, rfl, fun _ => ?_, fun _ => k_nil ?_⟩
    · refine k_cons (k_retS (x_tup (x_cons (x_str (x_cons (x_var rfl (x_cons (x_blt (x_cons (x_sliT rfl ?_))))))))))
      walk_at "go"
      refine (digK (by omega) t6 (by decide) (by decide)).mono fun d7 S7 h7 => ?_
      obtain ⟨r7, rfl, r70, r71, t7, k7⟩ := h7
      refine ⟨_, rfl, p_cutL ((k6.trans k7).at at5 neL) ?_⟩
      walk_at "go"
      refine p_tuple new_at ?_
      walk_at "go"
      have ec : cutD ts none (some r7) = ts.take r7.toNat := by
        obtain ⟨r, rfl⟩ : ∃ r : Nat, r7 = (r : Int) := ⟨r7.toNat, by omega⟩
        unfold cutD
        rw [HT.sIx_nat, HT.sIx_none]
        show (ts.drop 0).take _ = _
        rw [List.drop_zero, Nat.sub_zero, Int.toNat_natCast]
        by_cases h : r ≤ ts.length
        · rw [Nat.min_eq_left h]
        · rw [Nat.min_eq_right (by omega), List.take_of_length_le (by omega), List.take_of_length_le (by omega)]
      rw [ec]
      have tr := trs.take r7.toNat
      exact ⟨_, .list k _ _ _ tr.len (by rw [List.length_take]; omega) tr.all, fin_cat tr.fin, t7.app, k5.trans ((k6.trans k7).trans .app)⟩
    walk_at "go"
    refine k_ifS ?_
    walk_at "go"
    refine (digK (by omega) t6 (by decide) (by decide)).mono fun d7 S7 h7 => ?_
    obtain ⟨r7, rfl, r70, r71, t7, k7⟩ := h7
    have m7 := m4.keep (k6.trans k7) ne
    walk_at "go"
    refine ⟨_, rfl, fun _ => ?_, fun _ => k_nil ?_⟩
    · walk_at "go"
      rw [show ((k + 1 : Nat) : Int) - 1 = (k : Int) by omega]
      refine (ih K S7 (by omega) (by omega) t7 m7 ne).mono fun tz S8 h => ?_
      obtain ⟨fz, trz, fiz, t8, k8⟩ := h
      have k58 := (k6.trans k7).trans k8
      refine k_nil ?_
      walk_at "go"
      refine it0 k58 ?_
      refine x_cons ?_
      refine pickN (K := K) (by omega) t8 (m4.keep k58 ne) ne rfl rfl fun w S9 ow t9 k9 => ?_
      walk_at "go"
      refine it1 (k58.trans k9) ?_
      walk_at "go"
      refine ⟨_, .each1 k w _ _ _ _ _ _ _ tra trb trz, fun g v hv => ?_, t9, k5.trans (k58.trans k9)⟩
      rcases List.mem_append.mp hv with hv | hv
      · exact (List.mem_append.mp hv).elim (fia _ v) (fib _ v)
      · exact fiz _ v hv
    · walk_at "go"
      refine it0 (k6.trans k7) ?_
      refine x_cons ?_
      refine pickN (K := K) (by omega) t7 m7 ne rfl rfl fun w S9 ow t9 k9 => ?_
      walk_at "go"
      refine it1 ((k6.trans k7).trans k9) ?_
      walk_at "go"
      exact ⟨_, .each0 k w _ _ _ _ _ tra trb, fun g v hv => (List.mem_append.mp hv).elim (fia _ v) (fib _ v), t9, k5.trans ((k6.trans k7).trans k9)⟩
end k26

end

section
set_option Elab.async false
set_option linter.all false
set_option maxRecDepth 100000
set_option maxHeartbeats 4000000
local macro_rules | `(tactic| walk_at "go") => `(tactic| repeat (first | with_reducible refine Mz.k_cons ?_ | with_reducible refine Mz.k_asgS ?_ | with_reducible refine Mz.k_retS ?_ | with_reducible refine Mz.k_exS ?_ | with_reducible refine Mz.x_bin ?_ | with_reducible refine Mz.x_cmp ?_ | with_reducible refine Mz.x_sub ?_ | with_reducible refine Mz.x_call ?_ | with_reducible refine Mz.x_blt ?_ | with_reducible refine Mz.x_cons ?_ | with_reducible refine Mz.x_nil ?_ | with_reducible refine Mz.x_tup ?_ | with_reducible refine Mz.x_lst ?_ | with_reducible refine Mz.x_int ?_ | with_reducible refine Mz.x_str ?_ | with_reducible refine Mz.x_bl ?_ | with_reducible refine Mz.x_non ?_ | with_reducible refine Mz.p_add ?_ | with_reducible refine Mz.p_sub ?_ | with_reducible refine Mz.p_eqI ?_ | with_reducible refine Mz.p_neI ?_ | with_reducible refine Mz.p_eqS ?_ | with_reducible refine Mz.p_neS ?_ | with_reducible refine Mz.p_lt ?_ | with_reducible refine Mz.p_le ?_ | with_reducible refine Mz.p_ge ?_ | with_reducible refine Mz.p_gt ?_ | with_reducible refine Mz.y_cmp ?_ | with_reducible refine Mz.x_fst ?_ | with_reducible refine Mz.j_cons ?_ | with_reducible refine Mz.j_nil ?_ | with_reducible refine Mz.x_fmt ?_ | with_reducible refine Mz.x_chain ?_ | with_reducible refine Mz.y_chain ?_ | with_reducible refine Mz.p_leS ?_ | with_reducible refine Mz.p_is ?_ | with_reducible refine Mz.p_isnot ?_ | with_reducible refine Mz.p_ord ?_ | with_reducible refine Mz.p_max ?_ | with_reducible refine Mz.p_min ?_ | with_reducible refine Mz.p_abs ?_ | with_reducible refine Mz.p_itT (by decide) rfl ?_ | (with_reducible refine (?_ : Mz.Sat _ _); simp only [List.set_cons_zero, List.set_cons_succ]) | with_reducible refine Mz.x_var (by with_unfolding_all exact rfl) ?_ | with_reducible refine ⟨(by simp only [List.length_cons, List.length_nil, PySem.sizeLine_eq]; omega : (List.length _ ≤ PySem.sizeLine)), ?_⟩))
local macro_rules | `(tactic| walk_at "st") => `(tactic| simp only [Mz.startG, List.map_cons, List.map_nil, List.length_cons, List.length_nil, Nat.reduceAdd, Nat.reduceSub, List.replicate, List.cons_append, List.nil_append, Nat.zero_add])
namespace k26
open PySem PySem.Spec L2 Mz TL
/-! ### lists of texts compared -/
def pyS (ws : List Str) : PyData := .list (ws.map .str)
theorem py_strs {S : Store} {m : Nat} : ∀ ws : List Str, (ws.map D.str).mapM (toPy S (m + 1)) = some (ws.map PyData.str)
  | [] => rfl
  | x :: ws => by
    rw [List.map_cons, List.mapM_cons, py_strs ws]
    rfl
theorem lay_strs : ∀ ws : List Str, (∀ w ∈ ws, PyData.strOk w = true) → PyData.canLayAll0 (ws.map PyData.str) = true
  | [], _ => rfl
  | x :: ws, h => by
    show (PyData.canLay0 (.str x) && PyData.canLayAll0 (ws.map PyData.str)) = true
    rw [lay_strs ws fun w hw => h w (List.mem_cons_of_mem _ hw)]
    have := h x (List.mem_cons_self ..)
    show (PyData.strOk x && true) = true
    rw [this]; rfl
theorem dep_strs : ∀ ws : List Str, PyData.depthAll (ws.map PyData.str) = 0
  | [] => rfl
  | x :: ws => by
    show max (PyData.depth (.str x)) (PyData.depthAll (ws.map PyData.str)) = 0
    rw [dep_strs ws]; rfl
theorem p_neStrs {S : Store} {Q : D → Store → Prop} {a b : Nat} {ws : List Str} (ha : S[a]? = some (.lst (ws.map .str))) (hb : S[b]? = some (.lst (ws.map .str))) (f : ∀ w ∈ ws, PyData.strOk w = true) (q : Q (.bl false) S) : Sat (semCop .ne (.loc a) (.loc b) S) Q := by
  have la : PyData.canLay0 (pyS ws) = true := lay_strs ws f
  have sh : SeqAt.shaped (pyS ws) = true := by
    unfold SeqAt.shaped
    have h2 : PyData.depth (pyS ws) ≤ 64 := by
      show PyData.depthAll (ws.map PyData.str) + 1 ≤ 64
      rw [dep_strs]; decide
    rw [la, decide_eq_true h2]; rfl
  have e : eqD (.loc a) (.loc b) S = some true := by
    show (match toPy S 70 (.loc a), toPy S 70 (.loc b) with
      | some p, some q => if (SeqAt.shaped p && SeqAt.shaped q) = true then some (PyData.eqv p q) else none
      | _, _ => none) = _
    rw [py_loc ha, py_loc hb, py_strs]
    show (if (SeqAt.shaped (pyS ws) && SeqAt.shaped (pyS ws)) = true then some (PyData.eqv (pyS ws) (pyS ws)) else none) = _
    simp only [sh, Bool.and_self, if_true, SeqAt.eqv_refl _ la]
  unfold semCop
  simp only [e]
  exact sat_ok.mpr q
theorem keepSet {n L : Nat} {S S' : Store} {c : Cell} (k : Keep n S S') (h : S.length ≤ L) : Keep n S (S'.set L c) := ⟨by rw [List.length_set]; exact k.1, fun i h1 h2 => by
  rw [List.getElem?_set_ne (by omega)]; exact k.2 i h1 h2⟩
theorem three {a b c : Str} (h1 : a ≠ b) (h2 : a ≠ c) (h3 : b ≠ c) {l : List Str} (ha : a ∈ l) (hb : b ∈ l) (hc : c ∈ l) : 3 ≤ l.length := by
  match l with
  | [] => cases ha
  | [x] => simp at ha hb; exact absurd (ha.trans hb.symm) h1
  | [x, y] =>
    simp at ha hb hc
    rcases ha with rfl | rfl <;> rcases hb with rfl | rfl <;> rcases hc with rfl | rfl <;> simp_all
  | x :: y :: z :: r => simp
def xs3 : List Str := ["xa", "xb", "xc"]
theorem xs3_ok : okL (tl (Str.ofString "xa")) = true ∧ okL (tl (Str.ofString "xb")) = true ∧ okL (tl (Str.ofString "xc")) = true := by decide +kernel
theorem xs3_ne : (("xa" : Str) ≠ "xb") ∧ (("xa" : Str) ≠ "xc") ∧ (("xb" : Str) ≠ "xc") := by decide +kernel
def fil (ns : List Str) : List Str := xs3.filter fun w => !decide (w ∈ ns)
theorem fil_len (ns : List Str) : 3 ≤ (ns ++ fil ns).length ∧ (fil ns).length ≤ 3 := by
  have mem : ∀ w ∈ xs3, w ∈ ns ++ fil ns := fun w hw => by
    by_cases h : w ∈ ns
    · exact List.mem_append_left _ h
    · exact List.mem_append_right _ (List.mem_filter.mpr ⟨hw, by simp [h]⟩)
  refine ⟨three xs3_ne.1 xs3_ne.2.1 xs3_ne.2.2 (mem "xa" (by simp [xs3])) (mem "xb" (by simp [xs3])) (mem "xc" (by simp [xs3])), ?_⟩
  exact Nat.le_trans (List.length_filter_le _ _) (by simp [xs3])
theorem cut_take {xs : List D} {r : Nat} : cutD xs none (some (r : Int)) = xs.take r := by
  unfold cutD
  rw [HT.sIx_nat, HT.sIx_none]
  show (xs.drop 0).take _ = _
  rw [List.drop_zero, Nat.sub_zero]
  by_cases h : r ≤ xs.length
  · rw [Nat.min_eq_left h]
  · rw [Nat.min_eq_right (by omega), List.take_of_length_le (by omega), List.take_of_length_le (by omega)]
theorem take_succ_of {α : Type} {l : List α} {i : Nat} {x : α} (h : l[i]? = some x) : l.take (i + 1) = l.take i ++ [x] := by
  rw [List.take_add_one, h]; rfl
theorem namesK {K n : Nat} {S : Store} (hK : 3 ≤ K) (ht : Tape S n) : Sat (prg.run K "_law_names" [.loc n] S) fun d S' => ∃ m ws, d = .loc m ∧ S.length ≤ m ∧ Nms S' m ws ∧ Tape S' n ∧ Keep n S S' := by
  obtain ⟨K, rfl⟩ : ∃ j, K = j + 1 := ⟨K - 1, by omega⟩
  rw [run_of (p := prg) (f := "_law_names") rfl rfl, sat_runBody]; unfold t__law_names
  walk_at "st"
  walk_at "go"
  refine k_forS (i_rng1 ?_)
  walk_at "go"
  refine ⟨_, rfl, by decide, ?_⟩
  have hn : n ≠ S.length := Nat.ne_of_lt ht.lt
  refine floop_vals (fun i g S1 => ∃ v2 v3 ns, g = [some (.loc n), some (.loc S.length), v2, v3] ∧ S1[S.length]? = some (.lst (ns.map .str)) ∧ ns.length ≤ i ∧ (∀ w ∈ ns, PyData.strOk w = true) ∧ Tape S1 n ∧ Keep n S S1) (fun i d g S1 hi p => ?_) (fun g S1 p => ?_) _ 0 _ _ (by simp [ibound]) (Nat.zero_le _) ⟨_, _, [], rfl, new_at, Nat.le_refl _, fun w h => (by cases h), ht.app, .app⟩
  · obtain ⟨v2, v3, ns, rfl, p1, p2, p3, p4, p5⟩ := p
    have hi5 : i < 5 := (List.getElem?_eq_some_iff.mp hi).1
    refine sat_ok.mpr ?_
    walk_at "go"
    refine (nameK (by omega) p4).mono fun d2 S2 h2 => ?_
    obtain ⟨y, rfl, oy, t2, k2⟩ := h2
    have a2 := k2.at p1 hn.symm
    walk_at "go"
    refine k_ifS ?_
    walk_at "go"
    refine p_ninStrL a2 ⟨_, rfl, fun h => ?_, fun h => k_nil (k_nil ⟨_, _, ns, rfl, a2, by omega, p3, t2, p5.trans k2⟩)⟩
    refine k_cons (k_exS (x_mth ?_))
    walk_at "go"
    refine ⟨ty_lst rfl a2, ?_⟩
    walk_at "go"
    refine p_append a2 (by rw [List.length_map, sizeLine_eq]; omega) (k_nil (k_nil ⟨_, _, ns ++ [y], rfl, by rw [List.map_append]; exact set_at a2, by rw [List.length_append]; simp; omega, ?_, ?_, ?_⟩))
    · intro w hw
      rcases List.mem_append.mp hw with hw | hw
      · exact p3 w hw
      · simp only [List.mem_cons, List.not_mem_nil, or_false] at hw; rw [hw]; exact oy
    · obtain ⟨a, b, e, r⟩ := t2
      exact ⟨a, b, by rw [List.getElem?_set_ne hn.symm]; exact e, r⟩
    · exact keepSet (p5.trans k2) (Nat.le_refl _)
  · obtain ⟨v2, v3, ns, rfl, p1, p2, p3, p4, p5⟩ := p
    have p2 : ns.length ≤ 5 := p2
    walk_at "go"
    refine x_lc (i_eL rfl ?_)
    walk_at "go"
    refine ⟨_, _, rfl, new_at, ?_⟩
    have a1 := app_at (r := [Cell.lst [D.str "xa", .str "xb", .str "xc"]]) p1
    have a2 : (S1 ++ [Cell.lst [D.str "xa", .str "xb", .str "xc"]])[S1.length]? = some (.lst (xs3.map .str)) := new_at
    refine lcLoop_at (xs := xs3.map .str) (fun i acc S' => S' = S1 ++ [Cell.lst [D.str "xa", .str "xb", .str "xc"]] ∧ acc = ((xs3.take i).filter fun w => !decide (w ∈ ns)).map .str) (fun i acc S' h => ?_) (fun i d acc S' hi h => ?_) (fun acc S' h => ?_) _ 0 _ _ (by rw [ib_lst a2]; simp [xs3]) (Nat.zero_le _) ⟨rfl, rfl⟩
    · obtain ⟨rfl, _⟩ := h
      exact is_lst a2
    · obtain ⟨rfl, rfl⟩ := h
      have hl : i < 3 := (List.getElem?_eq_some_iff.mp hi).1
      obtain ⟨w, ew, rfl⟩ : ∃ w, xs3[i]? = some w ∧ d = .str w := by
        rw [List.getElem?_map] at hi
        cases q : xs3[i]? with
        | none => rw [q] at hi; cases hi
        | some w => rw [q] at hi; cases hi; exact ⟨w, rfl, rfl⟩
      have tk := take_succ_of ew
      refine sat_ok.mpr ?_
      refine y_cmp ?_
      walk_at "go"
      refine p_ninStrL a1 ⟨_, rfl, fun h => ?_, fun h => ?_⟩
      · walk_at "go"
        refine ⟨?_, rfl, ?_⟩
        · have := List.length_filter_le (fun w => !decide (w ∈ ns)) (xs3.take i)
          rw [List.length_map, sizeLine_eq]
          rw [List.length_take] at this
          omega
        · rw [tk, List.filter_append, List.map_append]
          simp [List.filter_cons, h]
      · refine ⟨rfl, ?_⟩
        rw [tk, List.filter_append, List.map_append]
        simp [List.filter_cons, h]
    · obtain ⟨rfl, rfl⟩ := h
      have ef : (xs3.take (xs3.map D.str).length).filter (fun w => !decide (w ∈ ns)) = fil ns := by
        rw [List.length_map, List.take_length]; rfl
      rw [ef]
      have fl := fil_len ns
      refine p_addLL (app_at a1) new_at (by rw [List.length_map, List.length_map]; omega) ?_
      refine k_cons (k_retS (x_sliT rfl ?_))
      walk_at "go"
      rw [← List.map_append]
      generalize hS3 : S1 ++ [Cell.lst [D.str "xa", .str "xb", .str "xc"]] ++ [Cell.lst (List.map D.str (fil ns))] = S3
      have k3 : Keep n S S3 := by rw [← hS3]; exact p5.trans (Keep.app.trans .app)
      have t3 : Tape S3 n := by rw [← hS3]; exact p4.app.app
      have l3 : S.length ≤ S3.length := k3.1
      refine (digK (by omega) t3.app (by decide) (by decide)).mono fun d4 S4 h4 => ?_
      obtain ⟨r, rfl, r0, r1, t4, k4⟩ := h4
      refine p_add ⟨_, rfl, p_cutL (k4.at new_at (Nat.ne_of_gt t3.lt)) ?_⟩
      obtain ⟨q, rfl⟩ : ∃ q : Nat, r = (q : Int) := ⟨r.toNat, by omega⟩
      rw [show (3 : Int) + (q : Int) = ((3 + q : Nat) : Int) by omega, cut_take, ← List.map_take]
      have kk : Keep n S S4 := k3.trans (Keep.app.trans k4)
      refine ⟨_, _, rfl, kk.1, ⟨new_at, ?_, ?_, ?_⟩, t4.app, kk.trans .app⟩
      · rw [List.length_take]; omega
      · rw [List.length_take, List.length_append]; omega
      · intro w hw
        rcases List.mem_append.mp (List.mem_of_mem_take hw) with hw | hw
        · exact p3 w hw
        · have := (List.mem_filter.mp hw).1
          simp only [xs3, List.mem_cons, List.not_mem_nil, or_false] at this
          rcases this with rfl | rfl | rfl
          · exact okL_of xs3_ok.1
          · exact okL_of xs3_ok.2.1
          · exact okL_of xs3_ok.2.2
/-! ### the law -/
theorem dd_snoc (l : List Str) (w : Str) : dd (l ++ [w]) = if w ∈ l then dd l else dd l ++ [w] := by
  unfold dd
  rw [ext_app]
  show step (ext [] l) w = _
  unfold step
  have := mem_ext l [] w
  by_cases h : w ∈ l
  · rw [if_pos h, if_pos (this.mpr (.inr h))]
  · rw [if_neg h, if_neg (fun x => (this.mp x).elim (by simp) h)]
theorem cnt6 : cnt 6 ≤ 1000000 := by decide
theorem turnK {K n : Nat} {S : Store} {v1 v3 v4 v5 v6 v7 v8 v9 v10 v11 v12 : Option D} {d0 : D} (hK : 12 ≤ K) (ht : Tape S n) (P : Sg → Store → Prop)
    (hP : ∀ w4 w5 w6 w7 w8 w9 w10 w11 w12 S', Tape S' n → P [some d0, v1, some (.loc n), v3, w4, w5, w6, w7, w8, w9, w10, w11, w12] S') {B C : Sg → Store → Prop} {Rt : D → Store → Prop} :
    SatR ((sem (prg.env (prg.run K)) (.cons (.asg (.var 4) (.call "_law_names" (.cons (.var 2) .nil))) (.cons (.asg (.var 5) (.call "_law_tree" (.cons (.var 2) (.cons (.var 4) (.cons (.call "_law_digit" (.cons (.var 2) (.cons (.int 6) .nil))) .nil))))) (.cons (.asg (.var 6) (.blt .tuple1 (.cons (.sli (.var 4) .nil (.call "_law_digit" (.cons (.var 2) (.cons (.int 5) .nil)))) .nil))) (.cons (.asg (.var 7) (.lst .nil)) (.cons (.ex (.call "_law_met" (.cons (.var 5) (.cons (.blt .list1 (.cons (.var 6) .nil)) (.cons (.var 7) .nil))))) (.cons (.alc 8 [11, 12] (.tup (.cons (.var 11) (.cons (.var 12) .nil))) (.ienum (.cons (.var 7) .nil)) (.cons (.cmp .notin (.var 12) (.sli (.var 7) .nil (.var 11))) .nil) (.var 12)) (.cons (.for_ (.var 9) (.irng (.cons (.int 2) .nil)) (.cons (.asg (.var 10) (.call "free" (.cons (.var 5) (.cons (.var 6) .nil)))) (.cons (.ifs (.or (.cmp .ne (.var 10) (.var 8)) (.nt (.isi .list (.var 10)))) (.cons (.ret (.bl false)) .nil) .nil) (.cons (.ex (.mth .append (.var 10) (.cons (.str "zz") .nil))) .nil)))) .nil)))))))).b [some d0, v1, some (.loc n), v3, v4, v5, v6, v7, v8, v9, v10, v11, v12] S) P Rt B C := by
  walk_at "go"
  refine (namesK (by omega) ht).mono fun d1 S1 h1 => ?_
  obtain ⟨m, ws, rfl, lm, m1, t1, k1⟩ := h1
  have ne : m ≠ n := by have := ht.lt; omega
  walk_at "go"
  refine (digK (by omega) t1 (by decide) (by decide)).mono fun d2 S2 h2 => ?_
  obtain ⟨r, rfl, r0, r1, t2, k2⟩ := h2
  obtain ⟨k, rfl⟩ : ∃ q : Nat, r = (q : Int) := ⟨r.toNat, by omega⟩
  have m2 := m1.keep k2 ne
  walk_at "go"
  refine (treeK k K S2 (by omega) (by omega) t2 m2 ne).mono fun t S3 h3 => ?_
  obtain ⟨f, tr, fi, t3, k3⟩ := h3
  have m3 := m2.keep k3 ne
  refine k_cons (k_asgS (x_blt (x_cons (x_sliT rfl ?_))))
  walk_at "go"
  refine (digK (by omega) t3 (by decide) (by decide)).mono fun d4 S4 h4 => ?_
  obtain ⟨r4, rfl, r40, r41, t4, k4⟩ := h4
  obtain ⟨q, rfl⟩ : ∃ q : Nat, r4 = (q : Int) := ⟨r4.toNat, by omega⟩
  have m4 := m3.keep k4 ne
  refine ⟨_, rfl, p_cutL m4.at_ ?_⟩
  rw [cut_take, ← List.map_take]
  generalize hgs : ws.take q = gs
  have lgs : gs.length ≤ 8 := by rw [← hgs, List.length_take]; have := m4.l1; omega
  walk_at "go"
  refine p_tuple new_at ?_
  have t5 : Tape (S4 ++ [Cell.lst (gs.map D.str)]) n := t4.app
  generalize S4 ++ [Cell.lst (gs.map D.str)] = S5 at t5 ⊢
  walk_at "go"
  show Sat (O.ok (D.loc (S5 ++ [Cell.lst []]).length) (S5 ++ [Cell.lst []] ++ [Cell.lst (gs.map D.str)])) _
  refine sat_ok.mpr ?_
  walk_at "go"
  have a5 : (S5 ++ [Cell.lst []] ++ [Cell.lst (gs.map D.str)])[S5.length]? = some (.lst (([] : List Str).map .str)) := app_at new_at
  have t6 : Tape (S5 ++ [Cell.lst []] ++ [Cell.lst (gs.map D.str)]) n := t5.app.app
  have lk : cnt k ≤ cnt 6 := by
    have : ∀ i, cnt i ≤ cnt (i + 1) := fun i => by show cnt i ≤ 7 * cnt i; omega
    have : ∀ j, cnt k ≤ cnt (k + j) := fun j => by induction j with | zero => exact Nat.le_refl _ | succ j ih => exact Nat.le_trans ih (this _)
    have := this (6 - k)
    rwa [show k + (6 - k) = 6 by omega] at this
  have c6 := cnt6
  refine (met_ok tr K _ _ _ gs [] (by omega) new_at a5 (by simp) (by omega) (by simp; omega)).mono fun d7 S7 h7 => ?_
  obtain ⟨a7, k7⟩ := h7
  rw [List.nil_append] at a7
  have fl := tr.len gs
  generalize hmet : f gs = met at a7 fl
  have t7 : Tape S7 n := t6.keep k7 (by have := t5.lt; omega)
  generalize S5.length = L at a7 k7 ⊢
  refine k_cons (k_alc (x_lc (i_enum (n := L) (xs := met.map .str) ?_)))
  walk_at "go"
  refine ⟨rfl, a7, ?_⟩
  refine lcLoop_at (xs := enumOf (met.map .str)) (fun i acc S' => Grow S7 S' ∧ acc = (dd (met.take i)).map .str) (fun i acc S' h => is_enum (h.1.at a7)) (fun i d acc S' hi h => ?_) (fun acc S' h => ?_) _ 0 _ _ (by rw [ib_enum a7, enumOf_len, List.length_map]; omega) (Nat.zero_le _) ⟨.refl _, rfl⟩
  · obtain ⟨g7, rfl⟩ := h
    rw [enumOf_at, List.getElem?_map] at hi
    obtain ⟨w, ew, rfl⟩ : ∃ w, met[i]? = some w ∧ d = .tup [.int (i : Nat), .str w] := by
      cases q : met[i]? with
      | none => rw [q] at hi; cases hi
      | some w => rw [q] at hi; cases hi; exact ⟨w, rfl, rfl⟩
    have tk := take_succ_of ew
    have il := (List.getElem?_eq_some_iff.mp ew).1
    refine sat_ok.mpr ?_
    refine y_cmp (x_var rfl (x_sliT rfl (x_var rfl (x_var rfl ⟨_, rfl, p_cutL (g7.at a7) ?_⟩))))
    rw [cut_take, ← List.map_take]
    refine p_ninStrL new_at ⟨_, rfl, fun h => ?_, fun h => ?_⟩
    · have h : ¬ w ∈ met.take i := by simpa using h
      walk_at "go"
      refine ⟨?_, g7.trans .one, ?_⟩
      · have := ext_len (met.take i) []
        rw [List.length_take, List.length_nil] at this
        rw [List.length_map, sizeLine_eq]
        show (ext [] (met.take i)).length < _
        omega
      · rw [tk, dd_snoc, if_neg h, List.map_append]; rfl
    · have h : w ∈ met.take i := by simpa using h
      refine ⟨g7.trans .one, ?_⟩
      rw [tk, dd_snoc, if_pos h]
  · obtain ⟨g7, rfl⟩ := h
    rw [show met.take (enumOf (met.map D.str)).length = met by rw [enumOf_len, List.length_map, List.take_length]]
    have t8 : Tape (S' ++ [Cell.lst ((dd met).map .str)]) n := (t7.grow g7).app
    have a8 : (S' ++ [Cell.lst ((dd met).map .str)])[S'.length]? = some (.lst ((dd met).map .str)) := new_at
    generalize S'.length = L8 at a8 ⊢
    generalize S' ++ [Cell.lst ((dd met).map .str)] = S8 at t8 a8 ⊢
    have okd : ∀ w ∈ dd met, PyData.strOk w = true := fun w hw => by
      have := (mem_ext met [] w).mp hw
      rcases this with h | h
      · cases h
      · rw [← hmet] at h; exact fi gs w h
    walk_at "go"
    refine k_forS (i_rng1 ?_)
    walk_at "go"
    refine ⟨_, rfl, by decide, ?_⟩
    refine floop_vals (fun i g S' => (∃ w9 w10 w11 w12, g = [some d0, v1, some (.loc n), v3, some (.loc m), some t, some (.tup (gs.map .str)), some (.loc L), some (.loc L8), w9, w10, w11, w12]) ∧ Tape S' n ∧ S'[L8]? = some (.lst ((dd met).map .str))) (fun i d g S9 hi p => ?_) (fun g S9 p => ?_) _ 0 _ _ (by simp [ibound]) (Nat.zero_le _) ⟨⟨_, _, _, _, rfl⟩, t8, a8⟩
    · obtain ⟨⟨w9, w10, w11, w12, rfl⟩, t9, a9⟩ := p
      refine sat_ok.mpr ?_
      walk_at "go"
      refine (free_ok k (by omega) t f tr K S9 gs (by omega) (by omega)).mono fun d10 S10 h10 => ?_
      obtain ⟨r10, rfl, l10, a10, g10⟩ := h10
      rw [hmet] at a10
      refine k_cons (k_ifS (y_or ?_))
      walk_at "go"
      refine p_neStrs a10 (g10.at a9) okd ⟨_, rfl, fun h => (by cases h), fun _ => y_not (y_isi ?_)⟩
      walk_at "go"
      have ei : semIsi .list (.loc r10) S10 = .ok (.bl true) S10 := by
        have : kitB "list" "list" = some true := by decide +kernel
        unfold semIsi
        simp only [tyNm, Ity.nm, a10, this]
      rw [ei]
      refine sat_ok.mpr ⟨_, rfl, fun h => (by cases h), fun _ => k_nil ?_⟩
      refine k_cons (k_exS (x_mth ?_))
      walk_at "go"
      refine ⟨ty_lst rfl a10, ?_⟩
      walk_at "go"
      have ld := ext_len met []
      refine p_append a10 (by rw [List.length_map, sizeLine_eq]; show (ext [] met).length < _; rw [List.length_nil] at ld; omega) (k_nil ⟨⟨_, _, _, _, rfl⟩, ?_, ?_⟩)
      · obtain ⟨a, b, e, r⟩ := t9.grow g10
        exact ⟨a, b, by rw [List.getElem?_set_ne (by have := t9.lt; omega)]; exact e, r⟩
      · rw [List.getElem?_set_ne (by have := lt_of a9; omega)]; exact g10.at a9
    · obtain ⟨⟨w9, w10, w11, w12, rfl⟩, t9, a9⟩ := p
      exact k_nil (hP _ _ _ _ _ _ _ _ _ _ t9)
theorem plain (ns : List Int) (hl : ns.length ≤ 63) : ∃ S, prg.run 40 "law" [.cl (ns.map .int)] [] = .ok (.bl true) S := by
  have h : Sat (prg.run 40 "law" [.cl (ns.map .int)] []) fun d _ => d = .bl true := by
    rw [run_of (p := prg) (f := "law") rfl rfl, sat_runBody]; unfold t_law
    walk_at "st"
    refine k_cons (k_forS (i_rng1 ?_))
    walk_at "go"
    show Sat (O.ok (D.int ((ns.map D.int).length : Nat)) []) _
    refine sat_ok.mpr ?_
    walk_at "go"
    refine ⟨_, rfl, rngOk_of (by split <;> split <;> omega) (by split <;> split <;> omega), ?_⟩
    generalize hj : (if (if ((ns.map D.int).length : Int) < 5 then ((ns.map D.int).length : Int) else 5) > 1 then (if ((ns.map D.int).length : Int) < 5 then ((ns.map D.int).length : Int) else 5) else 1) = j
    have j5 : j ≤ 5 := by rw [← hj]; split <;> split <;> omega
    refine floop_vals (fun i g S' => ∃ w1 w2 w3 w4 w5 w6 w7 w8 w9 w10 w11 w12, g = [some (.cl (ns.map .int)), w1, w2, w3, w4, w5, w6, w7, w8, w9, w10, w11, w12]) (fun i d g S1 hi p => ?_) (fun g S1 p => ?_) _ 0 _ _ (by simp [ibound]) (Nat.zero_le _) ⟨_, _, _, _, _, _, _, _, _, _, _, _, rfl⟩
    · obtain ⟨w1, w2, w3, w4, w5, w6, w7, w8, w9, w10, w11, w12, rfl⟩ := p
      have hi' : i < j.toNat ∧ d = .int (i : Int) := by
        unfold Mz.intsFrom at hi
        rw [List.getElem?_map] at hi
        cases q : (List.range j.toNat)[i]? with
        | none => rw [q] at hi; cases hi
        | some z =>
          rw [q] at hi
          obtain ⟨h1, h2⟩ := List.getElem?_eq_some_iff.mp q
          simp at h1 h2
          subst h2
          cases hi
          exact ⟨by omega, by simp⟩
      obtain ⟨hlt, rfl⟩ := hi'
      refine sat_ok.mpr ?_
      walk_at "go"
      refine (Tp.tapeK (p := prg) rfl (by decide) (by omega)).mono fun d2 S2 h2 => ?_
      obtain ⟨rfl, t2, g2⟩ := h2
      walk_at "go"
      refine k_forS (i_rng1 ?_)
      walk_at "go"
      refine ⟨_, rfl, by decide, ?_⟩
      refine floop_vals (fun i' g S' => Tape S' S1.length ∧ ∃ w3 w4 w5 w6 w7 w8 w9 w10 w11 w12, g = [some (.cl (ns.map .int)), some (.int (i : Int)), some (.loc S1.length), w3, w4, w5, w6, w7, w8, w9, w10, w11, w12]) (fun i' d' g S3 hi' p => ?_) (fun g S3 p => ?_) _ 0 _ _ (by simp [ibound]) (Nat.zero_le _) ⟨t2, _, _, _, _, _, _, _, _, _, _, rfl⟩
      · obtain ⟨t3, w3, w4, w5, w6, w7, w8, w9, w10, w11, w12, rfl⟩ := p
        refine sat_ok.mpr ?_
        exact turnK (by decide) t3 _ fun _ _ _ _ _ _ _ _ _ _ t => ⟨t, _, _, _, _, _, _, _, _, _, _, rfl⟩
      · obtain ⟨t3, w3, w4, w5, w6, w7, w8, w9, w10, w11, w12, rfl⟩ := p
        exact k_nil ⟨_, _, _, _, _, _, _, _, _, _, _, _, rfl⟩
    · obtain ⟨w1, w2, w3, w4, w5, w6, w7, w8, w9, w10, w11, w12, rfl⟩ := p
      walk_at "go"
      rfl
  obtain ⟨a, S, e, h⟩ := h.ex
  subst h
  exact ⟨S, e⟩
end k26

end

section
set_option Elab.async false
set_option linter.all false
set_option maxRecDepth 100000
set_option maxHeartbeats 4000000
namespace k26
open PySem PySem.Spec L2 Mz
def spLaw (K : PySem.W.Frag) : Sp := spD K 1 (prg.run 40 "law")
theorem all_mk {l : PySem.W.OpenLaw} {w : World} {K : PySem.W.Frag} {h : Heap} {mg : Str → Option Value} {fa : Addr} (X : K.In h) (G : h.Ns mainGlobals mg) (hfa : mg "law" = some (.ref fa))
    {f0 : Addr} {od0 an0 : Option Addr} {sl0 : Array (Option Value)} {oc0 kV0 dc0 pm0 cd0 ct0 : Value}
    {f1 : Addr} {od1 an1 : Option Addr} {sl1 : Array (Option Value)} {oc1 kV1 dc1 pm1 cd1 ct1 : Value}
    {f2 : Addr} {od2 an2 : Option Addr} {sl2 : Array (Option Value)} {oc2 kV2 dc2 pm2 cd2 ct2 : Value}
    {f3 : Addr} {od3 an3 : Option Addr} {sl3 : Array (Option Value)} {oc3 kV3 dc3 pm3 cd3 ct3 : Value}
    {f4 : Addr} {od4 an4 : Option Addr} {sl4 : Array (Option Value)} {oc4 kV4 dc4 pm4 cd4 ct4 : Value}
    {f5 : Addr} {od5 an5 : Option Addr} {sl5 : Array (Option Value)} {oc5 kV5 dc5 pm5 cd5 ct5 : Value}
    {f6 : Addr} {od6 an6 : Option Addr} {sl6 : Array (Option Value)} {oc6 kV6 dc6 pm6 cd6 ct6 : Value}
    {f7 : Addr} {od7 an7 : Option Addr} {sl7 : Array (Option Value)} {oc7 kV7 dc7 pm7 cd7 ct7 : Value}
    {f8 : Addr} {od8 an8 : Option Addr} {sl8 : Array (Option Value)} {oc8 kV8 dc8 pm8 cd8 ct8 : Value}
    {f9 : Addr} {od9 an9 : Option Addr} {sl9 : Array (Option Value)} {oc9 kV9 dc9 pm9 cd9 ct9 : Value}
    (a0 : PySem.W.nsIn K mainGlobals "inner" = some (some (.ref f0))) (l0 : K.lookup f0 = some ⟨oc0, od0, .func (PySem.W.fnOf "inner" "inner" (defArgs s_inner) (defBody s_inner) (defScope s_inner) .none kV0 dc0 pm0 an0 cd0 ct0), sl0⟩) (c0 : PySem.W.codeIn K cd0 "inner" = true) (k0 : PySem.W.keepIn K (.ref f0) = true)
    (a1 : PySem.W.nsIn K mainGlobals "free" = some (some (.ref f1))) (l1 : K.lookup f1 = some ⟨oc1, od1, .func (PySem.W.fnOf "free" "free" (defArgs s_free) (defBody s_free) (defScope s_free) .none kV1 dc1 pm1 an1 cd1 ct1), sl1⟩) (c1 : PySem.W.codeIn K cd1 "free" = true) (k1 : PySem.W.keepIn K (.ref f1) = true)
    (a2 : PySem.W.nsIn K mainGlobals "_law_tape" = some (some (.ref f2))) (l2 : K.lookup f2 = some ⟨oc2, od2, .func (PySem.W.fnOf "_law_tape" "_law_tape" (defArgs s__law_tape) (defBody s__law_tape) (defScope s__law_tape) .none kV2 dc2 pm2 an2 cd2 ct2), sl2⟩) (c2 : PySem.W.codeIn K cd2 "_law_tape" = true) (k2 : PySem.W.keepIn K (.ref f2) = true)
    (a3 : PySem.W.nsIn K mainGlobals "_law_digit" = some (some (.ref f3))) (l3 : K.lookup f3 = some ⟨oc3, od3, .func (PySem.W.fnOf "_law_digit" "_law_digit" (defArgs s__law_digit) (defBody s__law_digit) (defScope s__law_digit) .none kV3 dc3 pm3 an3 cd3 ct3), sl3⟩) (c3 : PySem.W.codeIn K cd3 "_law_digit" = true) (k3 : PySem.W.keepIn K (.ref f3) = true)
    (a4 : PySem.W.nsIn K mainGlobals "_law_name" = some (some (.ref f4))) (l4 : K.lookup f4 = some ⟨oc4, od4, .func (PySem.W.fnOf "_law_name" "_law_name" (defArgs s__law_name) (defBody s__law_name) (defScope s__law_name) .none kV4 dc4 pm4 an4 cd4 ct4), sl4⟩) (c4 : PySem.W.codeIn K cd4 "_law_name" = true) (k4 : PySem.W.keepIn K (.ref f4) = true)
    (a5 : PySem.W.nsIn K mainGlobals "_law_closed_tree" = some (some (.ref f5))) (l5 : K.lookup f5 = some ⟨oc5, od5, .func (PySem.W.fnOf "_law_closed_tree" "_law_closed_tree" (defArgs s__law_closed_tree) (defBody s__law_closed_tree) (defScope s__law_closed_tree) .none kV5 dc5 pm5 an5 cd5 ct5), sl5⟩) (c5 : PySem.W.codeIn K cd5 "_law_closed_tree" = true) (k5 : PySem.W.keepIn K (.ref f5) = true)
    (a6 : PySem.W.nsIn K mainGlobals "_law_tree" = some (some (.ref f6))) (l6 : K.lookup f6 = some ⟨oc6, od6, .func (PySem.W.fnOf "_law_tree" "_law_tree" (defArgs s__law_tree) (defBody s__law_tree) (defScope s__law_tree) .none kV6 dc6 pm6 an6 cd6 ct6), sl6⟩) (c6 : PySem.W.codeIn K cd6 "_law_tree" = true) (k6 : PySem.W.keepIn K (.ref f6) = true)
    (a7 : PySem.W.nsIn K mainGlobals "_law_names" = some (some (.ref f7))) (l7 : K.lookup f7 = some ⟨oc7, od7, .func (PySem.W.fnOf "_law_names" "_law_names" (defArgs s__law_names) (defBody s__law_names) (defScope s__law_names) .none kV7 dc7 pm7 an7 cd7 ct7), sl7⟩) (c7 : PySem.W.codeIn K cd7 "_law_names" = true) (k7 : PySem.W.keepIn K (.ref f7) = true)
    (a8 : PySem.W.nsIn K mainGlobals "_law_met" = some (some (.ref f8))) (l8 : K.lookup f8 = some ⟨oc8, od8, .func (PySem.W.fnOf "_law_met" "_law_met" (defArgs s__law_met) (defBody s__law_met) (defScope s__law_met) .none kV8 dc8 pm8 an8 cd8 ct8), sl8⟩) (c8 : PySem.W.codeIn K cd8 "_law_met" = true) (k8 : PySem.W.keepIn K (.ref f8) = true)
    (a9 : PySem.W.nsIn K mainGlobals "law" = some (some (.ref f9))) (l9 : K.lookup f9 = some ⟨oc9, od9, .func (PySem.W.fnOf "law" "law" (defArgs s_law) (defBody s_law) (defScope s_law) .none kV9 dc9 pm9 an9 cd9 ct9), sl9⟩) (c9 : PySem.W.codeIn K cd9 "law" = true) (k9 : PySem.W.keepIn K (.ref f9) = true)
    (z0 : PySem.W.nsIn K mainGlobals "len" = some none) (z1 : PySem.W.nsIn K mainGlobals "abs" = some none) (z2 : PySem.W.nsIn K mainGlobals "max" = some none) (z3 : PySem.W.nsIn K mainGlobals "min" = some none) (z4 : PySem.W.nsIn K mainGlobals "int" = some none) (z5 : PySem.W.nsIn K mainGlobals "str" = some none) (z6 : PySem.W.nsIn K mainGlobals "ord" = some none) (z7 : PySem.W.nsIn K mainGlobals "list" = some none) (z8 : PySem.W.nsIn K mainGlobals "tuple" = some none) (z9 : PySem.W.nsIn K mainGlobals "all" = some none) (z10 : PySem.W.nsIn K mainGlobals "any" = some none) (z11 : PySem.W.nsIn K mainGlobals "sum" = some none) (z12 : PySem.W.nsIn K mainGlobals "range" = some none) (z13 : PySem.W.nsIn K mainGlobals "enumerate" = some none) (z14 : PySem.W.nsIn K mainGlobals "zip" = some none) (z15 : PySem.W.nsIn K mainGlobals "isinstance" = some none) (z16 : PySem.W.nsIn K mainGlobals "bool" = some none) (z17 : PySem.W.nsIn K mainGlobals "sorted" = some none) (z18 : PySem.W.nsIn K mainGlobals "repr" = some none) (z19 : PySem.W.nsIn K mainGlobals "dict" = some none) (z20 : PySem.W.nsIn K mainGlobals "set" = some none)  :
    ∃ fd : FuncData, (∀ (s : Shared) (v : Value), BindsTo s fd ⟨[v], []⟩ [("_law_script", v)]) ∧ ∀ base : Heap, K.In base → base.Ns mainGlobals mg → FnOk l.prog w K mg base CX0 40 fa fd ["_law_script"] (spLaw K) := by
  have e := hfa.symm.trans (PySem.W.mg_of X G a9)
  cases e
  have F0 := fun_mk (st := s_inner) l0 c0 k0
  have B0 := F0.binds (ps := ["tree"]) fun _ _ _ _ _ _ us hl => match us, hl with | [_], _ => rfl
  have F1 := fun_mk (st := s_free) l1 c1 k1
  have B1 := F1.binds (ps := ["tree", "params"]) fun _ _ _ _ _ _ us hl => match us, hl with | [_, _], _ => rfl
  have F2 := fun_mk (st := s__law_tape) l2 c2 k2
  have B2 := F2.binds (ps := ["_law_script", "_law_start"]) fun _ _ _ _ _ _ us hl => match us, hl with | [_, _], _ => rfl
  have F3 := fun_mk (st := s__law_digit) l3 c3 k3
  have B3 := F3.binds (ps := ["_law_tape_here", "_law_many"]) fun _ _ _ _ _ _ us hl => match us, hl with | [_, _], _ => rfl
  have F4 := fun_mk (st := s__law_name) l4 c4 k4
  have B4 := F4.binds (ps := ["_law_tape_here"]) fun _ _ _ _ _ _ us hl => match us, hl with | [_], _ => rfl
  have F5 := fun_mk (st := s__law_closed_tree) l5 c5 k5
  have B5 := F5.binds (ps := ["_law_tape_here", "_law_names_here"]) fun _ _ _ _ _ _ us hl => match us, hl with | [_, _], _ => rfl
  have F6 := fun_mk (st := s__law_tree) l6 c6 k6
  have B6 := F6.binds (ps := ["_law_tape_here", "_law_names_here", "_law_deep"]) fun _ _ _ _ _ _ us hl => match us, hl with | [_, _, _], _ => rfl
  have F7 := fun_mk (st := s__law_names) l7 c7 k7
  have B7 := F7.binds (ps := ["_law_tape_here"]) fun _ _ _ _ _ _ us hl => match us, hl with | [_], _ => rfl
  have F8 := fun_mk (st := s__law_met) l8 c8 k8
  have B8 := F8.binds (ps := ["_law_tree_here", "_law_given", "_law_found"]) fun _ _ _ _ _ _ us hl => match us, hl with | [_, _, _], _ => rfl
  have F9 := fun_mk (st := s_law) l9 c9 k9
  have B9 := F9.binds (ps := ["_law_script"]) fun _ _ _ _ _ _ us hl => match us, hl with | [_], _ => rfl
  have tab : ∀ x d, prg.tab.lookup x = some d → ∃ ps N st a fd, At K mg x d ps N st a fd ∧ (chk prg.st d.body).b ⟨N, defScope st, true⟩ (defBody st) = true := by
    intro x d hx
    rcases lk_cons hx with ⟨rfl, rfl⟩ | hx
    · exact ⟨_, _, _, _, _, ⟨F0, PySem.W.mg_of X G a0, B0, sc_inner, rfl, rfl⟩, ck_inner⟩
    rcases lk_cons hx with ⟨rfl, rfl⟩ | hx
    · exact ⟨_, _, _, _, _, ⟨F1, PySem.W.mg_of X G a1, B1, sc_free, rfl, rfl⟩, ck_free⟩
    rcases lk_cons hx with ⟨rfl, rfl⟩ | hx
    · exact ⟨_, _, _, _, _, ⟨F2, PySem.W.mg_of X G a2, B2, sc__law_tape, rfl, rfl⟩, ck__law_tape⟩
    rcases lk_cons hx with ⟨rfl, rfl⟩ | hx
    · exact ⟨_, _, _, _, _, ⟨F3, PySem.W.mg_of X G a3, B3, sc__law_digit, rfl, rfl⟩, ck__law_digit⟩
    rcases lk_cons hx with ⟨rfl, rfl⟩ | hx
    · exact ⟨_, _, _, _, _, ⟨F4, PySem.W.mg_of X G a4, B4, sc__law_name, rfl, rfl⟩, ck__law_name⟩
    rcases lk_cons hx with ⟨rfl, rfl⟩ | hx
    · exact ⟨_, _, _, _, _, ⟨F5, PySem.W.mg_of X G a5, B5, sc__law_closed_tree, rfl, rfl⟩, ck__law_closed_tree⟩
    rcases lk_cons hx with ⟨rfl, rfl⟩ | hx
    · exact ⟨_, _, _, _, _, ⟨F6, PySem.W.mg_of X G a6, B6, sc__law_tree, rfl, rfl⟩, ck__law_tree⟩
    rcases lk_cons hx with ⟨rfl, rfl⟩ | hx
    · exact ⟨_, _, _, _, _, ⟨F7, PySem.W.mg_of X G a7, B7, sc__law_names, rfl, rfl⟩, ck__law_names⟩
    rcases lk_cons hx with ⟨rfl, rfl⟩ | hx
    · exact ⟨_, _, _, _, _, ⟨F8, PySem.W.mg_of X G a8, B8, sc__law_met, rfl, rfl⟩, ck__law_met⟩
    rcases lk_cons hx with ⟨rfl, rfl⟩ | hx
    · exact ⟨_, _, _, _, _, ⟨F9, PySem.W.mg_of X G a9, B9, sc_law, rfl, rfl⟩, ck_law⟩
    cases hx
  have gls : ∀ x ∈ prg.G.map (·.1), ∃ d u v, prg.G.lookup x = some d ∧ mg x = some u ∧ RelV v u ∧ ∀ m H, RV K m H d v := by
    intro x hx
    cases hx
  have blt : ∀ x ∈ bltNames, mg x = none := by
    intro x hx
    rcases List.mem_cons.mp hx with rfl | hx
    · exact PySem.W.mg_none_of X G z0
    rcases List.mem_cons.mp hx with rfl | hx
    · exact PySem.W.mg_none_of X G z1
    rcases List.mem_cons.mp hx with rfl | hx
    · exact PySem.W.mg_none_of X G z2
    rcases List.mem_cons.mp hx with rfl | hx
    · exact PySem.W.mg_none_of X G z3
    rcases List.mem_cons.mp hx with rfl | hx
    · exact PySem.W.mg_none_of X G z4
    rcases List.mem_cons.mp hx with rfl | hx
    · exact PySem.W.mg_none_of X G z5
    rcases List.mem_cons.mp hx with rfl | hx
    · exact PySem.W.mg_none_of X G z6
    rcases List.mem_cons.mp hx with rfl | hx
    · exact PySem.W.mg_none_of X G z7
    rcases List.mem_cons.mp hx with rfl | hx
    · exact PySem.W.mg_none_of X G z8
    rcases List.mem_cons.mp hx with rfl | hx
    · exact PySem.W.mg_none_of X G z9
    rcases List.mem_cons.mp hx with rfl | hx
    · exact PySem.W.mg_none_of X G z10
    rcases List.mem_cons.mp hx with rfl | hx
    · exact PySem.W.mg_none_of X G z11
    rcases List.mem_cons.mp hx with rfl | hx
    · exact PySem.W.mg_none_of X G z12
    rcases List.mem_cons.mp hx with rfl | hx
    · exact PySem.W.mg_none_of X G z13
    rcases List.mem_cons.mp hx with rfl | hx
    · exact PySem.W.mg_none_of X G z14
    rcases List.mem_cons.mp hx with rfl | hx
    · exact PySem.W.mg_none_of X G z15
    rcases List.mem_cons.mp hx with rfl | hx
    · exact PySem.W.mg_none_of X G z16
    rcases List.mem_cons.mp hx with rfl | hx
    · exact PySem.W.mg_none_of X G z17
    rcases List.mem_cons.mp hx with rfl | hx
    · exact PySem.W.mg_none_of X G z18
    rcases List.mem_cons.mp hx with rfl | hx
    · exact PySem.W.mg_none_of X G z19
    rcases List.mem_cons.mp hx with rfl | hx
    · exact PySem.W.mg_none_of X G z20
    cases hx
  refine ⟨PySem.W.fnOf "law" "law" (defArgs s_law) (defBody s_law) (defScope s_law) .none kV9 dc9 pm9 an9 cd9 ct9, fun s v => .of_eq rfl, fun base _ _ => ?_⟩
  exact prg_ok (P := l.prog) (w := w) (base := base) prg tab gls blt 40 "law" ⟨1, 13, t_law⟩ _ _ _ _ _ (by rfl) ⟨F9, PySem.W.mg_of X G a9, B9, sc_law, rfl, rfl⟩ ck_law

end k26
open PySem PySem.W PyProof.Rows
set_option maxHeartbeats 0 in
theorem PySem.Challenge.cw_leafround_k26_names_that_are_free_holds : PySem.Challenge.rw_leafround_k26_names_that_are_free.Holds := by
  w_on; o_law; k_head; (case hw => w_witness2)
  k_fill
  refine L2.walk_ofK (l := PySem.Challenge.rw_leafround_k26_names_that_are_free) (n := 63) (k := 40) (x := "_law_script") (CX := L2.CX0) (sp := k26.spLaw) rfl (by decide) rfl ⟨rfl, by decide, by decide⟩ (fun w h Y => PySem.W.kIn_of Y) ?F (fun K => Mz.law_end k26.plain) (fun _ _ _ _ h => h)
  case F =>
    intro w mg fa h KX G hmg
    refine' k26.all_mk KX G hmg ?a0 ?l0 ?c0 ?k0 ?a1 ?l1 ?c1 ?k1 ?a2 ?l2 ?c2 ?k2 ?a3 ?l3 ?c3 ?k3 ?a4 ?l4 ?c4 ?k4 ?a5 ?l5 ?c5 ?k5 ?a6 ?l6 ?c6 ?k6 ?a7 ?l7 ?c7 ?k7 ?a8 ?l8 ?c8 ?k8 ?a9 ?l9 ?c9 ?k9 ?z0 ?z1 ?z2 ?z3 ?z4 ?z5 ?z6 ?z7 ?z8 ?z9 ?z10 ?z11 ?z12 ?z13 ?z14 ?z15 ?z16 ?z17 ?z18 ?z19 ?z20
    (case a0 => k_is); (case l0 => k_is); (case c0 => k_is); (case k0 => k_is); (case a1 => k_is); (case l1 => k_is); (case c1 => k_is); (case k1 => k_is); (case a2 => k_is); (case l2 => k_is); (case c2 => k_is); (case k2 => k_is); (case a3 => k_is); (case l3 => k_is); (case c3 => k_is); (case k3 => k_is); (case a4 => k_is); (case l4 => k_is); (case c4 => k_is); (case k4 => k_is); (case a5 => k_is); (case l5 => k_is); (case c5 => k_is); (case k5 => k_is); (case a6 => k_is); (case l6 => k_is); (case c6 => k_is); (case k6 => k_is); (case a7 => k_is); (case l7 => k_is); (case c7 => k_is); (case k7 => k_is); (case a8 => k_is); (case l8 => k_is); (case c8 => k_is); (case k8 => k_is); (case a9 => k_is); (case l9 => k_is); (case c9 => k_is); (case k9 => k_is); (case z0 => k_is); (case z1 => k_is); (case z2 => k_is); (case z3 => k_is); (case z4 => k_is); (case z5 => k_is); (case z6 => k_is); (case z7 => k_is); (case z8 => k_is); (case z9 => k_is); (case z10 => k_is); (case z11 => k_is); (case z12 => k_is); (case z13 => k_is); (case z14 => k_is); (case z15 => k_is); (case z16 => k_is); (case z17 => k_is); (case z18 => k_is); (case z19 => k_is); (case z20 => k_is)


end
