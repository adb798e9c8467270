import PyProof.Rows.All
import Wide.All
import OpenK.AllK
import Wide.FinOn
import HandS.ForExc
import HandS.ForMost
import HandS.Conv
import HandS.Zip
import HandS.IsInst
import HandS.Flow
import HandS.TupAny
import HandS.TupMul
import HandS.Wide
import HandS.Deep
import KE.GoesEnum
import KE.GoesMore
import HandS.OwnEq
import HandS.HeadEnd
import HandS.HeadHook2
import HandS.Head2
import PySem.Challenge.RW_joinshelf_k38_whole_tasks_of_sizes_and_p
set_option Elab.async false
set_option linter.all false
set_option maxRecDepth 100000
set_option maxHeartbeats 4000000
namespace DL
open PySem PySem.Spec L2
open PyProof.Rows hiding St

/-- plain data -/
inductive D where
  | non | bl (b : Bool) | int (i : Int) | str (x : Str) | tup (xs : List D) | lst (xs : List D) | dct (kvs : List (Key × D)) | ins (c : Str) (fs : List (Str × D)) | scr (xs : List D) | hnd

/-- an exception: its class's name, its fields -/
structure Er where
  c : Str
  fs : List (Str × D)

/-- how a run ends: a value, an exception, or not known; h: the hand list as it stands -/
inductive R (α : Type) where
  | ok (a : α) (h : List D)
  | exc (e : Er) (h : List D)
  | stuck
def R.bind {α β : Type} : R α → (α → List D → R β) → R β
  | .ok a h, k => k a h
  | .exc e h, _ => .exc e h
  | .stuck, _ => .stuck

structure Kx where
  K : PySem.W.Frag
  mg : Str → Option Value
  p : Option Addr

mutual
def Rep (C : Kx) (H : Hp) : D → V → Prop
  | .non, v => v = .non
  | .bl b, v => v = .bl b
  | .int i, v => v = .int i
  | .str x, v => v = .str x
  | .tup ds, v => ∃ a vs, v = .ref a ∧ SqT C.K H a vs ∧ Reps C H ds vs
  | .lst ds, v => ∃ a vs, v = .ref a ∧ H a = some (.lst vs) ∧ Reps C H ds vs
  | .scr ds, v => ∃ a vs, v = .ref a ∧ SqL C.K H a vs ∧ Reps C H ds vs
  | .dct kvs, v => ∃ a vs, v = .ref a ∧ H a = some (.dK vs) ∧ RepK C H kvs vs
  | .ins c fs, v => ∃ a cl dx vs, v = .ref a ∧ C.mg c = some (.ref cl) ∧ H a = some (.ins cl dx vs) ∧ RepF C H fs vs
  | .hnd, v => ∃ p, C.p = some p ∧ v = .ref p
def Reps (C : Kx) (H : Hp) : List D → List V → Prop
  | [], vs => vs = []
  | d :: ds, vs => ∃ v r, vs = v :: r ∧ Rep C H d v ∧ Reps C H ds r
def RepK (C : Kx) (H : Hp) : List (Key × D) → List (Key × V) → Prop
  | [], vs => vs = []
  | (k, d) :: ds, vs => ∃ v r, vs = (k, v) :: r ∧ Rep C H d v ∧ RepK C H ds r
def RepF (C : Kx) (H : Hp) : List (Str × D) → List (Str × V) → Prop
  | [], vs => vs = []
  | (k, d) :: ds, vs => ∃ v r, vs = (k, v) :: r ∧ Rep C H d v ∧ RepF C H ds r
end

theorem Same.seqT {K : PySem.W.Frag} {H H' : Hp} {a : Addr} {xs : List V} (e : Same H H') (h : SqT K H a xs) : SqT K H' a xs := by
  rcases h with (h | ⟨o, h⟩) | h
  · exact .inl (.inl (e _ _ h))
  · exact .inl (.inr ⟨o, e _ _ h⟩)
  · exact .inr h

section
variable {C : Kx} {H H' : Hp}
mutual
theorem Rep.mono (s : Same H H') : ∀ (d : D) (v : V), Rep C H d v → Rep C H' d v
  | .non, v, h => by simpa [Rep] using h
  | .bl b, v, h => by simpa [Rep] using h
  | .int i, v, h => by simpa [Rep] using h
  | .str x, v, h => by simpa [Rep] using h
  | .tup ds, v, h => by
    simp only [Rep] at h ⊢
    obtain ⟨a, vs, e, h1, h2⟩ := h
    exact ⟨a, vs, e, Same.seqT s h1, Reps.mono s ds vs h2⟩
  | .lst ds, v, h => by
    simp only [Rep] at h ⊢
    obtain ⟨a, vs, e, h1, h2⟩ := h
    exact ⟨a, vs, e, s _ _ h1, Reps.mono s ds vs h2⟩
  | .scr ds, v, h => by
    simp only [Rep] at h ⊢
    obtain ⟨a, vs, e, h1, h2⟩ := h
    exact ⟨a, vs, e, s.seq h1, Reps.mono s ds vs h2⟩
  | .dct ds, v, h => by
    simp only [Rep] at h ⊢
    obtain ⟨a, vs, e, h1, h2⟩ := h
    exact ⟨a, vs, e, s _ _ h1, RepK.mono s ds vs h2⟩
  | .ins c ds, v, h => by
    simp only [Rep] at h ⊢
    obtain ⟨a, cl, dx, vs, e, h0, h1, h2⟩ := h
    exact ⟨a, cl, dx, vs, e, h0, s _ _ h1, RepF.mono s ds vs h2⟩
  | .hnd, v, h => by simpa [Rep] using h
theorem Reps.mono (s : Same H H') : ∀ (ds : List D) (vs : List V), Reps C H ds vs → Reps C H' ds vs
  | [], vs, h => by simpa [Reps] using h
  | d :: ds, vs, h => by
    simp only [Reps] at h ⊢
    obtain ⟨v, r, e, h1, h2⟩ := h
    exact ⟨v, r, e, Rep.mono s d v h1, Reps.mono s ds r h2⟩
theorem RepK.mono (s : Same H H') : ∀ (ds : List (Key × D)) (vs : List (Key × V)), RepK C H ds vs → RepK C H' ds vs
  | [], vs, h => by simpa [RepK] using h
  | (k, d) :: ds, vs, h => by
    simp only [RepK] at h ⊢
    obtain ⟨v, r, e, h1, h2⟩ := h
    exact ⟨v, r, e, Rep.mono s d v h1, RepK.mono s ds r h2⟩
theorem RepF.mono (s : Same H H') : ∀ (ds : List (Str × D)) (vs : List (Str × V)), RepF C H ds vs → RepF C H' ds vs
  | [], vs, h => by simpa [RepF] using h
  | (k, d) :: ds, vs, h => by
    simp only [RepF] at h ⊢
    obtain ⟨v, r, e, h1, h2⟩ := h
    exact ⟨v, r, e, Rep.mono s d v h1, RepF.mono s ds r h2⟩
end
end
end DL

namespace DL
open PySem PySem.Spec L2
open PyProof.Rows hiding St

theorem Rep.list {C : Kx} {H : Hp} {ds : List D} {v : V} (h : Rep C H (.lst ds) v) : ∃ a vs, v = .ref a ∧ H a = some (.lst vs) ∧ Reps C H ds vs := by simpa only [Rep] using h
theorem Rep.tuple {C : Kx} {H : Hp} {ds : List D} {v : V} (h : Rep C H (.tup ds) v) : ∃ a vs, v = .ref a ∧ SqT C.K H a vs ∧ Reps C H ds vs := by simpa only [Rep] using h
theorem Rep.of_list {C : Kx} {H : Hp} {ds : List D} {a : Addr} {vs : List V} (h : H a = some (.lst vs)) (r : Reps C H ds vs) : Rep C H (.lst ds) (.ref a) := by
  simp only [Rep]; exact ⟨a, vs, rfl, h, r⟩
theorem Rep.of_tup {C : Kx} {H : Hp} {ds : List D} {a : Addr} {vs : List V} (h : H a = some (.tup vs)) (r : Reps C H ds vs) : Rep C H (.tup ds) (.ref a) := by
  simp only [Rep]; exact ⟨a, vs, rfl, SqT.of h, r⟩
theorem Reps.nil {C : Kx} {H : Hp} : Reps C H [] [] := by simp only [Reps]
theorem Reps.cons {C : Kx} {H : Hp} {d : D} {ds : List D} {v : V} {vs : List V} (h : Rep C H d v) (hs : Reps C H ds vs) : Reps C H (d :: ds) (v :: vs) := by
  simp only [Reps]; exact ⟨v, vs, rfl, h, hs⟩
theorem Reps.nil_inv {C : Kx} {H : Hp} {vs : List V} (h : Reps C H [] vs) : vs = [] := by simpa only [Reps] using h
theorem Reps.cons_inv {C : Kx} {H : Hp} {d : D} {ds : List D} {vs : List V} (h : Reps C H (d :: ds) vs) : ∃ v r, vs = v :: r ∧ Rep C H d v ∧ Reps C H ds r := by simpa only [Reps] using h
theorem Reps.length {C : Kx} {H : Hp} : ∀ {ds : List D} {vs : List V}, Reps C H ds vs → vs.length = ds.length
  | [], vs, h => by rw [Reps.nil_inv h]; rfl
  | d :: ds, vs, h => by
    obtain ⟨v, r, rfl, _, h2⟩ := Reps.cons_inv h
    simp [Reps.length h2]
theorem Reps.get {C : Kx} {H : Hp} : ∀ {ds : List D} {vs : List V} {i : Nat} {d : D}, Reps C H ds vs → ds[i]? = some d → ∃ v, vs[i]? = some v ∧ Rep C H d v
  | [], vs, i, d, h, e => by simp at e
  | d :: ds, vs, 0, d', h, e => by
    obtain ⟨v, r, rfl, h1, h2⟩ := Reps.cons_inv h
    simp at e; subst e
    exact ⟨v, by simp, h1⟩
  | d :: ds, vs, i + 1, d', h, e => by
    obtain ⟨v, r, rfl, h1, h2⟩ := Reps.cons_inv h
    obtain ⟨v', e', h'⟩ := Reps.get h2 (i := i) (by simpa using e)
    exact ⟨v', by simpa using e', h'⟩
theorem Reps.append {C : Kx} {H : Hp} : ∀ {ds es : List D} {vs ws : List V}, Reps C H ds vs → Reps C H es ws → Reps C H (ds ++ es) (vs ++ ws)
  | [], es, vs, ws, h, h' => by rw [Reps.nil_inv h]; exact h'
  | d :: ds, es, vs, ws, h, h' => by
    obtain ⟨v, r, rfl, h1, h2⟩ := Reps.cons_inv h
    exact Reps.cons h1 (Reps.append h2 h')
theorem Reps.take {C : Kx} {H : Hp} : ∀ {ds : List D} {vs : List V} (n : Nat), Reps C H ds vs → Reps C H (ds.take n) (vs.take n)
  | _, _, 0, _ => by simpa using Reps.nil
  | [], vs, n + 1, h => by rw [Reps.nil_inv h]; simpa using Reps.nil
  | d :: ds, vs, n + 1, h => by
    obtain ⟨v, r, rfl, h1, h2⟩ := Reps.cons_inv h
    exact Reps.cons h1 (Reps.take n h2)
theorem Reps.drop {C : Kx} {H : Hp} : ∀ {ds : List D} {vs : List V} (n : Nat), Reps C H ds vs → Reps C H (ds.drop n) (vs.drop n)
  | _, _, 0, h => by simpa using h
  | [], vs, n + 1, h => by rw [Reps.nil_inv h]; simpa using Reps.nil
  | d :: ds, vs, n + 1, h => by
    obtain ⟨v, r, rfl, h1, h2⟩ := Reps.cons_inv h
    exact Reps.drop n h2
theorem Reps.set {C : Kx} {H : Hp} {d : D} {v : V} (hd : Rep C H d v) : ∀ {ds : List D} {vs : List V} (i : Nat), Reps C H ds vs → Reps C H (ds.set i d) (vs.set i v)
  | [], vs, i, h => by rw [Reps.nil_inv h]; simpa using Reps.nil
  | e :: ds, vs, 0, h => by
    obtain ⟨v', r, rfl, h1, h2⟩ := Reps.cons_inv h
    exact Reps.cons hd h2
  | e :: ds, vs, i + 1, h => by
    obtain ⟨v', r, rfl, h1, h2⟩ := Reps.cons_inv h
    exact Reps.cons h1 (Reps.set hd i h2)
theorem Reps.reverse {C : Kx} {H : Hp} : ∀ {ds : List D} {vs : List V}, Reps C H ds vs → Reps C H ds.reverse vs.reverse
  | [], vs, h => by rw [Reps.nil_inv h]; simpa using Reps.nil
  | d :: ds, vs, h => by
    obtain ⟨v, r, rfl, h1, h2⟩ := Reps.cons_inv h
    simp only [List.reverse_cons]
    exact Reps.append (Reps.reverse h2) (Reps.cons h1 Reps.nil)
theorem Reps.flatten_replicate {C : Kx} {H : Hp} {ds : List D} {vs : List V} (h : Reps C H ds vs) : ∀ n : Nat, Reps C H (List.replicate n ds).flatten (List.replicate n vs).flatten
  | 0 => by simpa using Reps.nil
  | n + 1 => by
    simp only [List.replicate_succ, List.flatten_cons]
    exact Reps.append h (Reps.flatten_replicate h n)
theorem Reps.dropLast {C : Kx} {H : Hp} {ds : List D} {vs : List V} (h : Reps C H ds vs) : Reps C H ds.dropLast vs.dropLast := by
  rw [List.dropLast_eq_take, List.dropLast_eq_take, h.length]
  exact Reps.take _ h

/-! ### the state: the frozen heap H0 within H, the hand list -/
structure Stt (C : Kx) (H0 H : Hp) (hs : List D) : Prop where
  sub : Same H0 H
  hand : ∀ a, C.p = some a → H0 a = none ∧ ∃ vs, H a = some (.lst vs) ∧ Reps C H0 hs vs
/-- from (H0, H) to (H0', H'): nothing but the hand list is changed; what is frozen anew is new -/
structure Ext (C : Kx) (H0 H H0' H' : Hp) (hs' : List D) : Prop where
  sub0 : Same H0 H0'
  new : ∀ a, H0 a = none → H0' a ≠ none → H a = none
  keep : ∀ a o, H a = some o → C.p ≠ some a → H' a = some o
  st : Stt C H0' H' hs'
section
variable {C : Kx} {H0 H H1 H1' H2 H2' : Hp} {hs hs' hs2 : List D}
theorem Stt.ext (s : Stt C H0 H hs) : Ext C H0 H H0 H hs := ⟨Same.refl _, fun a h h' => absurd h h', fun _ _ h _ => h, s⟩
theorem Ext.trans (x : Ext C H0 H H1 H1' hs') (y : Ext C H1 H1' H2 H2' hs2) : Ext C H0 H H2 H2' hs2 := by
  refine ⟨x.sub0.trans y.sub0, fun a h h' => ?_, fun a o h hp => y.keep a o (x.keep a o h hp) hp, y.st⟩
  by_cases h1 : H1 a = none
  · have e := y.new a h1 h'
    cases q : H a with
    | none => rfl
    | some o =>
      by_cases hp : C.p = some a
      · exact absurd (y.st.hand a hp).1 h'
      · rw [x.keep a o q hp] at e; cases e
  · exact x.new a h h1
theorem Stt.hand_ne (s : Stt C H0 H hs) {q : Addr} (hq : H q = none) : C.p ≠ some q := fun e => by
  obtain ⟨_, vs, h, _⟩ := s.hand q e
  rw [hq] at h; cases h
/-- a new object, frozen at once -/
theorem Stt.alloc (s : Stt C H0 H hs) {q : Addr} {o : HO} (hq : H q = none) : Ext C H0 H (upd H0 q o) (upd H q o) hs := by
  have h0 : H0 q = none := s.sub.free hq
  have hp := s.hand_ne hq
  refine ⟨fun a u e => ?_, fun a h h' => ?_, fun a u e _ => ?_, ⟨fun a u e => ?_, fun a e => ?_⟩⟩
  · rw [upd_ne (ne_of_none e h0)]; exact e
  · by_cases z : a = q
    · rw [z]; exact hq
    · rw [upd_ne z] at h'; exact absurd h h'
  · rw [upd_ne (ne_of_none e hq)]; exact e
  · by_cases z : a = q
    · subst z; rw [upd_same] at e ⊢; exact e
    · rw [upd_ne z] at e ⊢; exact s.sub a u e
  · have z : a ≠ q := fun z => hp (by rw [e, z])
    obtain ⟨h1, vs, h2, h3⟩ := s.hand a e
    refine ⟨by rw [upd_ne z]; exact h1, vs, by rw [upd_ne z]; exact h2, Reps.mono (fun b u q => ?_) _ _ h3⟩
    rw [upd_ne (ne_of_none q h0)]; exact q
/-- a new object that is not frozen -/
theorem Stt.laid (s : Stt C H0 H hs) {q : Addr} {o : HO} (hq : H q = none) : Ext C H0 H H0 (upd H q o) hs := by
  have hp := s.hand_ne hq
  refine ⟨Same.refl _, fun a h h' => absurd h h', fun a u e _ => ?_, ⟨fun a u e => ?_, fun a e => ?_⟩⟩
  · rw [upd_ne (ne_of_none e hq)]; exact e
  · rw [upd_ne (ne_of_none (s.sub _ _ e) hq)]; exact s.sub a u e
  · have z : a ≠ q := fun z => hp (by rw [e, z])
    obtain ⟨h1, vs, h2, h3⟩ := s.hand a e
    exact ⟨h1, vs, by rw [upd_ne z]; exact h2, h3⟩
end

/-! ### an exception -/
def ErR (C : Kx) (H0 H : Hp) (er : Er) (c : Value) (dd : Option Addr) : Prop :=
  ∃ cl, C.mg er.c = some (.ref cl) ∧ c = .ref cl ∧ ((er.fs = [] ∧ dd = none) ∨ (∃ d vs, dd = some d ∧ H d = some (.xd vs) ∧ RepF C H0 er.fs vs))

/-- the wish behind a run -/
def Post (C : Kx) (H0 H : Hp) (E : XK) {α β : Type} (rel : α → Hp → Hp → β → Prop) (Q : β → Hp → Prop) : R α → Prop
  | .ok a hs' => ∀ H0' H' b, Ext C H0 H H0' H' hs' → rel a H0' H' b → Q b H'
  | .exc er hs' => ∀ H0' H' c dd, Ext C H0 H H0' H' hs' → ErR C H0' H' er c dd → E c dd H'
  | .stuck => False
section
variable {C : Kx} {H0 H H1 H1' : Hp} {hs hs' : List D} {E : XK} {α β γ δ : Type} {rel : α → Hp → Hp → β → Prop} {Q : β → Hp → Prop} {rel1 : γ → Hp → Hp → δ → Prop} {Q1 : δ → Hp → Prop}
theorem Post.shift {r : R α} (x : Ext C H0 H H1 H1' hs') (h : Post C H0 H E rel Q r) : Post C H1 H1' E rel Q r := by
  cases r with
  | ok a h1 => exact fun K0 K b e q => h K0 K b (x.trans e) q
  | exc er h1 => exact fun K0 K c d e q => h K0 K c d (x.trans e) q
  | stuck => exact h
theorem Post.bind {r : R γ} {k : γ → List D → R α} (h : Post C H0 H E rel Q (r.bind k))
    (hk : ∀ a h1 K0 K b, Ext C H0 H K0 K h1 → rel1 a K0 K b → Post C K0 K E rel Q (k a h1) → Q1 b K) : Post C H0 H E rel1 Q1 r := by
  cases r with
  | ok a h1 => exact fun K0 K b e q => hk a h1 K0 K b e q (Post.shift e h)
  | exc er h1 => exact h
  | stuck => exact h
theorem Post.imp {r : R α} {rel' : α → Hp → Hp → δ → Prop} {Q' : δ → Hp → Prop} (h : Post C H0 H E rel Q r) (hk : ∀ a h1 K0 K b, Ext C H0 H K0 K h1 → rel' a K0 K b → (∀ b', rel a K0 K b' → Q b' K) → Q' b K) : Post C H0 H E rel' Q' r := by
  cases r with
  | ok a h1 => exact fun K0 K b e q => hk a h1 K0 K b e q fun b' q' => h K0 K b' e q'
  | exc er h1 => exact h
  | stuck => exact h
end
def relV (C : Kx) : D → Hp → Hp → V → Prop := fun d H0 _ v => Rep C H0 d v
def relVs (C : Kx) : List D → Hp → Hp → List V → Prop := fun d H0 _ v => Reps C H0 d v
def relB : Bool → Hp → Hp → Bool → Prop := fun d _ _ v => d = v

/-- the entry: what was frozen, the values of the slots that are raw -/
structure Go where
  h : Hp
  rw : Nat → Option V
/-! ### the slots of a body -/
inductive Sl where
  | un | val (d : D) | own (ds : List D) | raw
def SlR (C : Kx) (Hi H0 H : Hp) : Sl → Option V → Prop
  | .un, _ => True
  | .raw, _ => True
  | .val d, o => ∃ v, o = some v ∧ Rep C H0 d v
  | .own ds, o => ∃ a vs, o = some (.ref a) ∧ H a = some (.lst vs) ∧ H0 a = none ∧ Hi a = none ∧ Reps C H0 ds vs
structure SR (C : Kx) (Ho : Go) (Hi : Hp) (ρ : List Sl) (hs : List D) (σ : St) (H0 H : Hp) : Prop where
  ext : Ext C Ho.h Hi H0 H hs
  hasp : ∀ a, C.p = some a → Hi a ≠ none
  len : σ.length = ρ.length
  slot : ∀ (i : Nat) (s : Sl), ρ[i]? = some s → ∃ o, σ[i]? = some o ∧ SlR C Hi H0 H s o
  rawf : ∀ j : Nat, ρ[j]? = some .raw → σ[j]? = some (Ho.rw j)
  sep : ∀ (i j : Nat) (ds es : List D) (a : Addr), ρ[i]? = some (.own ds) → ρ[j]? = some (.own es) → σ[i]? = some (some (.ref a)) → σ[j]? = some (some (.ref a)) → i = j
section
variable {C : Kx} {Ho : Go} {Hi H0 H H0' H' : Hp} {ρ : List Sl} {hs hs' : List D} {σ : St}
theorem SR.st (s : SR C Ho Hi ρ hs σ H0 H) : Stt C H0 H hs := s.ext.st
theorem SR.step (s : SR C Ho Hi ρ hs σ H0 H) (x : Ext C H0 H H0' H' hs') : SR C Ho Hi ρ hs' σ H0' H' := by
  refine ⟨s.ext.trans x, s.hasp, s.len, fun i t e => ?_, s.rawf, s.sep⟩
  obtain ⟨o, e1, h⟩ := s.slot i t e
  refine ⟨o, e1, ?_⟩
  cases t with
  | un => trivial
  | val d =>
    obtain ⟨v, e2, h⟩ := h
    exact ⟨v, e2, h.mono x.sub0 _ _⟩
  | raw => trivial
  | own ds =>
    obtain ⟨a, vs, e2, h1, h2, h3, h4⟩ := h
    have hp : C.p ≠ some a := fun z => s.hasp a z h3
    refine ⟨a, vs, e2, x.keep a _ h1 hp, ?_, h3, h4.mono x.sub0 _ _⟩
    by_cases z : H0' a = none
    · exact z
    · have := x.new a h2 z
      rw [this] at h1; cases h1
theorem SR.var (s : SR C Ho Hi ρ hs σ H0 H) {i : Nat} {d : D} (e : ρ[i]? = some (.val d)) : ∃ v, σ[i]? = some (some v) ∧ Rep C H0 d v := by
  obtain ⟨o, e1, v, rfl, h⟩ := s.slot i _ e
  exact ⟨v, e1, h⟩
theorem getElem?_set_cases {α : Type} {l : List α} {i j : Nat} {x y : α} (h : (l.set i x)[j]? = some y) : (i = j ∧ x = y ∧ j < l.length) ∨ (i ≠ j ∧ l[j]? = some y) := by
  by_cases z : i = j
  · subst z
    by_cases hl : i < l.length
    · rw [List.getElem?_set_self hl] at h
      exact .inl ⟨rfl, Option.some.inj h, hl⟩
    · rw [List.getElem?_eq_none (by rw [List.length_set]; omega)] at h; cases h
  · rw [List.getElem?_set_ne z] at h
    exact .inr ⟨z, h⟩
theorem SR.setv (s : SR C Ho Hi ρ hs σ H0 H) {i : Nat} {d : D} {v : V} (h : Rep C H0 d v) : SR C Ho Hi (ρ.set i (.val d)) hs (σ.set i (some v)) H0 H := by
  refine ⟨s.ext, s.hasp, by rw [List.length_set, List.length_set]; exact s.len, fun j t e => ?_, fun j e => by
    rcases getElem?_set_cases e with ⟨_, z, _⟩ | ⟨z, e⟩
    · cases z
    · rw [List.getElem?_set_ne z]; exact s.rawf j e, fun j k ds es a e1 e2 e3 e4 => ?_⟩
  · rcases getElem?_set_cases e with ⟨rfl, rfl, hl⟩ | ⟨z, e⟩
    · exact ⟨some v, List.getElem?_set_self (by rw [s.len]; exact hl), v, rfl, h⟩
    · obtain ⟨o, e1, h⟩ := s.slot j t e
      exact ⟨o, by rw [List.getElem?_set_ne z]; exact e1, h⟩
  · rcases getElem?_set_cases e1 with ⟨rfl, z, hl⟩ | ⟨z1, e1⟩
    · cases z
    · rcases getElem?_set_cases e2 with ⟨rfl, z, hl⟩ | ⟨z2, e2⟩
      · cases z
      · rw [List.getElem?_set_ne z1] at e3
        rw [List.getElem?_set_ne z2] at e4
        exact s.sep j k ds es a e1 e2 e3 e4
theorem SR.setun (s : SR C Ho Hi ρ hs σ H0 H) {i : Nat} {o : Option V} : SR C Ho Hi (ρ.set i .un) hs (σ.set i o) H0 H := by
  refine ⟨s.ext, s.hasp, by rw [List.length_set, List.length_set]; exact s.len, fun j t e => ?_, fun j e => by
    rcases getElem?_set_cases e with ⟨_, z, _⟩ | ⟨z, e⟩
    · cases z
    · rw [List.getElem?_set_ne z]; exact s.rawf j e, fun j k ds es a e1 e2 e3 e4 => ?_⟩
  · rcases getElem?_set_cases e with ⟨rfl, rfl, hl⟩ | ⟨z, e⟩
    · exact ⟨o, List.getElem?_set_self (by rw [s.len]; exact hl), trivial⟩
    · obtain ⟨o, e1, h⟩ := s.slot j t e
      exact ⟨o, by rw [List.getElem?_set_ne z]; exact e1, h⟩
  · rcases getElem?_set_cases e1 with ⟨rfl, z, hl⟩ | ⟨z1, e1⟩
    · cases z
    · rcases getElem?_set_cases e2 with ⟨rfl, z, hl⟩ | ⟨z2, e2⟩
      · cases z
      · rw [List.getElem?_set_ne z1] at e3
        rw [List.getElem?_set_ne z2] at e4
        exact s.sep j k ds es a e1 e2 e3 e4
/-- a new list a at slot i, owned -/
theorem SR.seto (s : SR C Ho Hi ρ hs σ H0 H) {i : Nat} {ds : List D} {a : Addr} {vs : List V} (h : H a = some (.lst vs)) (h0 : H0 a = none) (hi : Hi a = none) (r : Reps C H0 ds vs)
    (hne : ∀ (j : Nat) (es : List D), ρ[j]? = some (.own es) → σ[j]? ≠ some (some (.ref a))) : SR C Ho Hi (ρ.set i (.own ds)) hs (σ.set i (some (.ref a))) H0 H := by
  refine ⟨s.ext, s.hasp, by rw [List.length_set, List.length_set]; exact s.len, fun j t e => ?_, fun j e => by
    rcases getElem?_set_cases e with ⟨_, z, _⟩ | ⟨z, e⟩
    · cases z
    · rw [List.getElem?_set_ne z]; exact s.rawf j e, fun j k ds es b e1 e2 e3 e4 => ?_⟩
  · rcases getElem?_set_cases e with ⟨rfl, rfl, hl⟩ | ⟨z, e⟩
    · exact ⟨_, List.getElem?_set_self (by rw [s.len]; exact hl), a, vs, rfl, h, h0, hi, r⟩
    · obtain ⟨o, e1, h⟩ := s.slot j t e
      exact ⟨o, by rw [List.getElem?_set_ne z]; exact e1, h⟩
  · rcases getElem?_set_cases e1 with ⟨rfl, z, hl⟩ | ⟨z1, e1⟩
    · rcases getElem?_set_cases e2 with ⟨rfl, z, hl⟩ | ⟨z2, e2⟩
      · rfl
      · rw [List.getElem?_set_self (by rw [s.len]; exact hl)] at e3
        rw [List.getElem?_set_ne z2] at e4
        cases e3
        exact absurd e4 (hne k _ e2)
    · rw [List.getElem?_set_ne z1] at e3
      rcases getElem?_set_cases e2 with ⟨rfl, z, hl⟩ | ⟨z2, e2⟩
      · rw [List.getElem?_set_self (by rw [s.len]; exact hl)] at e4
        cases e4
        exact absurd e3 (hne j _ e1)
      · rw [List.getElem?_set_ne z2] at e4
        exact s.sep j k _ _ b e1 e2 e3 e4
/-- what an owned slot is -/
theorem SR.own (s : SR C Ho Hi ρ hs σ H0 H) {i : Nat} {ds : List D} (e : ρ[i]? = some (.own ds)) : ∃ a vs, σ[i]? = some (some (.ref a)) ∧ H a = some (.lst vs) ∧ H0 a = none ∧ Hi a = none ∧ Reps C H0 ds vs := by
  obtain ⟨o, e1, a, vs, rfl, h⟩ := s.slot i _ e
  exact ⟨a, vs, e1, h⟩
/-- the owned list at slot i is changed -/
theorem SR.updo (s : SR C Ho Hi ρ hs σ H0 H) {i : Nat} {ds ds' : List D} {a : Addr} {vs vs' : List V} (e : ρ[i]? = some (.own ds)) (ea : σ[i]? = some (some (.ref a))) (h : H a = some (.lst vs)) (h0 : H0 a = none) (hi : Hi a = none) (r : Reps C H0 ds' vs') :
    SR C Ho Hi (ρ.set i (.own ds')) hs σ H0 (upd H a (.lst vs')) := by
  have hp : C.p ≠ some a := fun z => s.hasp a z hi
  have il : i < ρ.length := (List.getElem?_eq_some_iff.mp e).1
  refine ⟨⟨s.ext.sub0, s.ext.new, fun b o q hb => ?_, ⟨fun b o q => ?_, fun b q => ?_⟩⟩, s.hasp, by rw [List.length_set]; exact s.len, fun j t e' => ?_, fun j e => by
    rcases getElem?_set_cases e with ⟨_, z, _⟩ | ⟨z, e⟩
    · cases z
    · exact s.rawf j e, fun j k es fs b e1 e2 e3 e4 => ?_⟩
  · rw [upd_ne (ne_of_none q hi)]; exact s.ext.keep b o q hb
  · rw [upd_ne (ne_of_none q h0)]; exact s.st.sub b o q
  · have z : b ≠ a := fun z => hp (by rw [← z]; exact q)
    obtain ⟨h1, ws, h2, h3⟩ := s.st.hand b q
    exact ⟨h1, ws, by rw [upd_ne z]; exact h2, h3⟩
  · rcases getElem?_set_cases e' with ⟨rfl, rfl, hl⟩ | ⟨z, e'⟩
    · exact ⟨_, ea, a, vs', rfl, upd_same, h0, hi, r⟩
    · obtain ⟨o, e1, h⟩ := s.slot j t e'
      refine ⟨o, e1, ?_⟩
      cases t with
      | un => trivial
      | raw => trivial
      | val d => exact h
      | own es =>
        obtain ⟨b, ws, rfl, g1, g2, g3, g4⟩ := h
        have z' : b ≠ a := fun q => z (s.sep i j ds es a e e' ea (by rw [e1, q]))
        exact ⟨b, ws, rfl, by rw [upd_ne z']; exact g1, g2, g3, g4⟩
  · have f1 : ∃ xs, ρ[j]? = some (.own xs) := by
      rcases getElem?_set_cases e1 with ⟨rfl, z, hl⟩ | ⟨z1, e1⟩
      · exact ⟨ds, e⟩
      · exact ⟨_, e1⟩
    have f2 : ∃ xs, ρ[k]? = some (.own xs) := by
      rcases getElem?_set_cases e2 with ⟨rfl, z, hl⟩ | ⟨z1, e2⟩
      · exact ⟨ds, e⟩
      · exact ⟨_, e2⟩
    obtain ⟨xs, f1⟩ := f1
    obtain ⟨ys, f2⟩ := f2
    exact s.sep j k xs ys b f1 f2 e3 e4
/-- the owned list at slot i is frozen -/
theorem SR.freeze (s : SR C Ho Hi ρ hs σ H0 H) {i : Nat} {ds : List D} {a : Addr} {vs : List V} (e : ρ[i]? = some (.own ds)) (ea : σ[i]? = some (some (.ref a))) (h : H a = some (.lst vs)) (h0 : H0 a = none) (hi : Hi a = none) (r : Reps C H0 ds vs) :
    SR C Ho Hi (ρ.set i (.val (.lst ds))) hs σ (upd H0 a (.lst vs)) H ∧ Same H0 (upd H0 a (.lst vs)) := by
  have hp : C.p ≠ some a := fun z => s.hasp a z hi
  have il : i < ρ.length := (List.getElem?_eq_some_iff.mp e).1
  have sm : Same H0 (upd H0 a (.lst vs)) := fun b o q => by rw [upd_ne (ne_of_none q h0)]; exact q
  refine ⟨⟨⟨s.ext.sub0.trans sm, fun b q q' => ?_, s.ext.keep, ⟨fun b o q => ?_, fun b q => ?_⟩⟩, s.hasp, by rw [List.length_set]; exact s.len, fun j t e' => ?_, fun j e => by
    rcases getElem?_set_cases e with ⟨_, z, _⟩ | ⟨z, e⟩
    · cases z
    · exact s.rawf j e, fun j k es fs b e1 e2 e3 e4 => ?_⟩, sm⟩
  · by_cases z : b = a
    · rw [z]; exact hi
    · rw [upd_ne z] at q'; exact s.ext.new b q q'
  · by_cases z : b = a
    · subst z; rw [upd_same] at q; cases q; exact h
    · rw [upd_ne z] at q; exact s.st.sub b o q
  · have z : b ≠ a := fun z => hp (by rw [← z]; exact q)
    obtain ⟨h1, ws, h2, h3⟩ := s.st.hand b q
    exact ⟨by rw [upd_ne z]; exact h1, ws, h2, h3.mono sm _ _⟩
  · rcases getElem?_set_cases e' with ⟨rfl, rfl, hl⟩ | ⟨z, e'⟩
    · exact ⟨_, ea, _, rfl, Rep.of_list upd_same (r.mono sm _ _)⟩
    · obtain ⟨o, e1, h⟩ := s.slot j t e'
      refine ⟨o, e1, ?_⟩
      cases t with
      | un => trivial
      | raw => trivial
      | val d =>
        obtain ⟨v, rfl, h⟩ := h
        exact ⟨v, rfl, h.mono sm _ _⟩
      | own es =>
        obtain ⟨b, ws, rfl, g1, g2, g3, g4⟩ := h
        have z' : b ≠ a := fun q => z (s.sep i j ds es a e e' ea (by rw [e1, q]))
        exact ⟨b, ws, rfl, g1, by rw [upd_ne z']; exact g2, g3, g4.mono sm _ _⟩
  · rcases getElem?_set_cases e1 with ⟨rfl, z, hl⟩ | ⟨z1, e1⟩
    · cases z
    · rcases getElem?_set_cases e2 with ⟨rfl, z, hl⟩ | ⟨z2, e2⟩
      · cases z
      · exact s.sep j k _ _ b e1 e2 e3 e4
end
end DL

namespace DL
open PySem PySem.Spec L2
open PyProof.Rows hiding St

/-- what a rule asks of its place -/
structure Ctx (X : Cx) (E : XK) : Prop where
  calm : X.calm = true
  nd : X.N.Nodup
  pass : Passes (L2.CX X.prog X.w) X E
  own : PassesOwn (model X.prog X.w) X.A X.env X.xe
  un : X.A.units + 64 < cLine

abbrev Kc (X : Cx) (p : Option Addr) : Kx := ⟨X.K, X.mg, p⟩
abbrev EM := List Sl → List D → R D
abbrev TM := List Sl → List D → R Bool
abbrev AM := List Sl → List D → R (List D)
def DE (X : Cx) (E : XK) (e : Expr) (f : EM) : Prop := ∃ t, PE X e t ∧ ∀ (p : Option Addr) (Ho : Go) (Hi H0 H : Hp) (ρ : List Sl) (hs : List D) (σ : St) (Q : VK),
  SR (Kc X p) Ho Hi ρ hs σ H0 H → Post (Kc X p) H0 H E (relV (Kc X p)) Q (f ρ hs) → t σ H Q
def DT (X : Cx) (E : XK) (e : Expr) (f : TM) : Prop := ∃ t, PT X e t ∧ ∀ (p : Option Addr) (Ho : Go) (Hi H0 H : Hp) (ρ : List Sl) (hs : List D) (σ : St) (Q : Bool → Hp → Prop),
  SR (Kc X p) Ho Hi ρ hs σ H0 H → Post (Kc X p) H0 H E relB Q (f ρ hs) → t σ H Q
def DW (X : Cx) (E : XK) (e : Expr) (f : TM) : Prop := ∃ t, PW X e t ∧ ∀ (p : Option Addr) (Ho : Go) (Hi H0 H : Hp) (ρ : List Sl) (hs : List D) (σ : St) (Q : Bool → Hp → Prop),
  SR (Kc X p) Ho Hi ρ hs σ H0 H → Post (Kc X p) H0 H E relB Q (f ρ hs) → t σ H Q
def DA (X : Cx) (E : XK) (es : List Expr) (f : AM) : Prop := ∃ t, PA X es t ∧ ∀ (p : Option Addr) (Ho : Go) (Hi H0 H : Hp) (ρ : List Sl) (hs : List D) (σ : St) (Q : List V → Hp → Prop),
  SR (Kc X p) Ho Hi ρ hs σ H0 H → Post (Kc X p) H0 H E (relVs (Kc X p)) Q (f ρ hs) → t σ H Q
/-- so many values come -/
def LenA (f : AM) (n : Nat) : Prop := ∀ ρ h ds h1, f ρ h = .ok ds h1 → ds.length = n

def R.lift {α : Type} : Option α → List D → R α
  | some a, h => .ok a h
  | none, _ => .stuck

/-! ### combinators -/
def e_var (i : Nat) : EM := fun ρ h => match ρ[i]? with | some (.val d) => .ok d h | _ => .stuck
def e_k (d : D) : EM := fun _ h => .ok d h
def e_bin (g : D → D → Option D) (a b : EM) : EM := fun ρ h => (a ρ h).bind fun x h => (b ρ h).bind fun y h => R.lift (g x y) h
def e_un (g : D → Option D) (a : EM) : EM := fun ρ h => (a ρ h).bind fun x h => R.lift (g x) h
def a_nil : AM := fun _ h => .ok [] h
def a_cons (a : EM) (r : AM) : AM := fun ρ h => (a ρ h).bind fun x h => (r ρ h).bind fun xs h => .ok (x :: xs) h
def e_tup (r : AM) : EM := fun ρ h => (r ρ h).bind fun xs h => .ok (.tup xs) h
def e_lst (r : AM) : EM := fun ρ h => (r ρ h).bind fun xs h => .ok (.lst xs) h
def e_if (c : TM) (a b : EM) : EM := fun ρ h => (c ρ h).bind fun c h => if c then a ρ h else b ρ h
def e_app (g : List D → Option D) (r : AM) : EM := fun ρ h => (r ρ h).bind fun xs h => R.lift (g xs) h
def e_call (F : List D → List D → R D) (r : AM) : EM := fun ρ h => (r ρ h).bind fun xs h => F xs h
def D.bool : D → Option Bool | .bl b => some b | _ => none
def t_val (a : EM) : TM := fun ρ h => (a ρ h).bind fun x h => R.lift x.bool h
def t_not (a : TM) : TM := fun ρ h => (a ρ h).bind fun x h => .ok (!x) h
def t_and (a b : TM) : TM := fun ρ h => (a ρ h).bind fun x h => if x then b ρ h else .ok false h
def t_or (a b : TM) : TM := fun ρ h => (a ρ h).bind fun x h => if x then .ok true h else b ρ h
def e_not (a : EM) : EM := fun ρ h => (a ρ h).bind fun x h => (R.lift x.bool h).bind fun b h => .ok (.bl (!b)) h
def e_and (a b : EM) : EM := fun ρ h => (a ρ h).bind fun x h => (R.lift x.bool h).bind fun c h => if c then b ρ h else .ok (.bl false) h
def e_or (a b : EM) : EM := fun ρ h => (a ρ h).bind fun x h => (R.lift x.bool h).bind fun c h => if c then .ok (.bl true) h else b ρ h

section
variable {X : Cx} {E : XK} {e a b c : Expr} {es : List Expr} {fa fb fc : EM} {fr : AM} {pos : Pos}

theorem Post.ok {C : Kx} {H0 H : Hp} {α β : Type} {rel : α → Hp → Hp → β → Prop} {Q : β → Hp → Prop} {a : α} {h : List D} {b : β} (s : Stt C H0 H h) (hp : Post C H0 H E rel Q (.ok a h)) (r : rel a H0 H b) : Q b H := hp H0 H b s.ext r
theorem Post.lift {C : Kx} {H0 H : Hp} {α β : Type} {rel : α → Hp → Hp → β → Prop} {Q : β → Hp → Prop} {o : Option α} {h : List D} (hp : Post C H0 H E rel Q (R.lift o h)) : ∃ a, o = some a ∧ Post C H0 H E rel Q (.ok a h) := by
  cases o with
  | none => exact hp.elim
  | some a => exact ⟨a, rfl, hp⟩

theorem de_var (i : Nat) {x : Str} (hN : X.N[i]? = some x := by rfl) (hv : Vis X.env.scope x := by first | exact Or.inl rfl | exact Or.inr (Or.inl rfl) | exact Or.inr (Or.inr rfl)) (hd : (x == ("__debug__" : Str)) = false := by decide)
    (hcd : (x == ("__classdict__" : Str)) = false := by decide) : DE X E (.Name x pos) (e_var i) := by
  refine ⟨_, pe_var hN hv hd hcd, fun p Ho Hi H0 H ρ hs σ Q S hp => ?_⟩
  unfold e_var at hp
  split at hp
  · rename_i d e
    obtain ⟨v, e1, r⟩ := S.var e
    exact ⟨v, e1, hp.ok S.st r⟩
  · exact hp.elim
theorem de_k {t : TE} {v : V} {d : D} (h : PE X e t) (ht : ∀ σ H Q, Q v H → t σ H Q) (r : ∀ C H, Rep C H d v) : DE X E e (e_k d) :=
  ⟨t, h, fun p Ho Hi H0 H ρ hs σ Q S hp => ht _ _ _ (hp.ok S.st (r _ _))⟩
theorem de_int {i j} : DE X E (.Constant (.int i) j pos) (e_k (.int i)) := de_k pe_int (fun _ _ _ h => h) fun _ _ => by simp [Rep]
theorem de_bl {i j} : DE X E (.Constant (.bool i) j pos) (e_k (.bl i)) := de_k pe_bl (fun _ _ _ h => h) fun _ _ => by simp [Rep]
theorem de_non {j} : DE X E (.Constant .none j pos) (e_k .non) := de_k pe_non (fun _ _ _ h => h) fun _ _ => by simp [Rep]
theorem de_str {x j} : DE X E (.Constant (.str x) j pos) (e_k (.str x)) := de_k pe_str (fun _ _ _ h => h) fun _ _ => by simp [Rep]
theorem de_gint {x : Str} {i : Int} {t : Tok} (hm : X.mg x = some (.int i t)) (hg : Gl X x := by rfl) (hd : (x == ("__debug__" : Str)) = false := by decide) : DE X E (.Name x pos) (e_k (.int i)) :=
  de_k (pe_glob hg hm (v := .int i) ⟨_, rfl⟩ hd) (fun _ _ _ h => h) fun _ _ => by simp [Rep]

theorem da_nil : DA X E [] a_nil := ⟨_, pa_nil, fun p Ho Hi H0 H ρ hs σ Q S hp => hp.ok S.st Reps.nil⟩
theorem da_cons (ha : DE X E e fa) (hr : DA X E es fr) (hs : starEach (e :: es) X.env = (false, eval e X.env) :: starEach es X.env := by rfl) : DA X E (e :: es) (a_cons fa fr) := by
  obtain ⟨ta, pa, qa⟩ := ha
  obtain ⟨tr, pr, qr⟩ := hr
  refine ⟨_, pa_cons pa pr hs, fun p Ho Hi H0 H ρ hs σ Q S hp => ?_⟩
  refine qa p Ho Hi H0 H ρ hs σ _ S (hp.bind fun d h1 K0 K v x rv hp => ?_)
  have S1 := S.step x
  refine qr p Ho Hi K0 K ρ h1 σ _ S1 (hp.bind fun ds h2 L0 L vs y rs hp => ?_)
  exact hp.ok y.st (Reps.cons (rv.mono y.sub0 _ _) rs)
theorem R.bind_ok {α β : Type} {r : R α} {k : α → List D → R β} {b : β} {h2 : List D} (e : r.bind k = .ok b h2) : ∃ a h1, r = .ok a h1 ∧ k a h1 = .ok b h2 := by
  cases r with
  | ok a h1 => exact ⟨a, h1, rfl, e⟩
  | exc e' h1 => cases e
  | stuck => cases e
theorem len_nil : LenA a_nil 0 := fun _ _ _ _ e => by cases e; rfl
theorem len_cons {n : Nat} {fa : EM} {fr : AM} (h : LenA fr n) : LenA (a_cons fa fr) (n + 1) := fun ρ hs ds h1 e => by
  obtain ⟨a, h2, e1, e⟩ := R.bind_ok e
  obtain ⟨r, h3, e2, e⟩ := R.bind_ok e
  cases e
  rw [List.length_cons, h _ _ _ _ e2]
theorem Post.len {C : Kx} {H0 H : Hp} {Q : List V → Hp → Prop} {f : AM} {ρ : List Sl} {hs : List D} {n : Nat} (hl : LenA f n) (h : Post C H0 H E (relVs C) (fun vs H1 => vs.length = n → Q vs H1) (f ρ hs)) : Post C H0 H E (relVs C) Q (f ρ hs) := by
  cases e : f ρ hs with
  | ok a h1 =>
    rw [e] at h
    exact fun K0 K b x r => h K0 K b x r (by rw [Reps.length r]; exact hl _ _ _ _ e)
  | exc er h1 => rw [e] at h; exact h
  | stuck => rw [e] at h; exact h
theorem de_tup {k} {n : Nat} (hr : DA X E es fr) (hl : LenA fr n) (hz : n ≤ 1000 := by decide) : DE X E (.Tuple es k pos) (e_tup fr) := by
  obtain ⟨tr, pr, qr⟩ := hr
  refine ⟨_, pe_tup pr, fun p Ho Hi H0 H ρ hs σ Q S hp => ?_⟩
  refine qr p Ho Hi H0 H ρ hs σ _ S (Post.len hl (hp.bind fun ds h1 K0 K vs x rs hp hn => ?_))
  refine ⟨by rw [hn, sizeLine_eq]; omega, fun q hq => ?_⟩
  exact hp _ _ _ (x.st.alloc hq) (Rep.of_tup upd_same (rs.mono (x.st.alloc hq).sub0 _ _))
theorem de_lst {n : Nat} (hr : DA X E es fr) (hl : LenA fr n) (hz : n ≤ 1000 := by decide) : DE X E (.List es pos) (e_lst fr) := by
  obtain ⟨tr, pr, qr⟩ := hr
  refine ⟨_, pe_lst pr, fun p Ho Hi H0 H ρ hs σ Q S hp => ?_⟩
  refine qr p Ho Hi H0 H ρ hs σ _ S (Post.len hl (hp.bind fun ds h1 K0 K vs x rs hp hn => ?_))
  refine ⟨by rw [hn, sizeLine_eq]; omega, fun q hq => ?_⟩
  exact hp _ _ _ (x.st.alloc hq) (Rep.of_list upd_same (rs.mono (x.st.alloc hq).sub0 _ _))

/-! ### tests -/
theorem Post.bool {C : Kx} {H0 H : Hp} {Q : Bool → Hp → Prop} {d : D} {h : List D} {v : V} (s : Stt C H0 H h) (hp : Post C H0 H E relB Q (R.lift d.bool h)) (r : Rep C H0 d v) : ∃ b, v = .bl b ∧ Q b H := by
  obtain ⟨b, e, hp⟩ := hp.lift
  cases d <;> simp only [D.bool] at e <;> try cases e
  simp only [Rep] at r
  exact ⟨_, r, hp.ok s rfl⟩
theorem dt_val (ha : DE X E e fa) (he : ∀ whole, isTrue e X.env whole = (do let v ← whole; standAt e.pos; holding [v] (truthy v)) := by intro _; rfl) : DT X E e (t_val fa) := by
  obtain ⟨ta, pa, qa⟩ := ha
  refine ⟨_, pt_val pa he, fun p Ho Hi H0 H ρ hs σ Q S hp => ?_⟩
  exact qa p Ho Hi H0 H ρ hs σ _ S (hp.bind fun d h1 K0 K v x rv hp => hp.bool x.st rv)
theorem dt_not {f : TM} (ha : DT X E a f) : DT X E (.UnaryOp .Not a pos) (t_not f) := by
  obtain ⟨ta, pa, qa⟩ := ha
  refine ⟨_, pt_not pa, fun p Ho Hi H0 H ρ hs σ Q S hp => ?_⟩
  exact qa p Ho Hi H0 H ρ hs σ _ S (hp.bind (rel1 := relB) fun d h1 K0 K v x rv hp => by cases rv; exact hp.ok x.st rfl)
theorem dt_w {f : TM} (h : DW X E e f) : DT X E e f := by
  obtain ⟨t, p, q⟩ := h
  exact ⟨t, p.pt, q⟩
theorem dw_and1 {f : TM} (h : DT X E a f) : DW X E (.BoolOp .And [a] pos) f := by
  obtain ⟨t, p, q⟩ := h
  exact ⟨t, pw_and1 p, q⟩
theorem dw_or1 {f : TM} (h : DT X E a f) : DW X E (.BoolOp .Or [a] pos) f := by
  obtain ⟨t, p, q⟩ := h
  exact ⟨t, pw_or1 p, q⟩
theorem dw_and {f g : TM} (ha : DT X E a f) (hb : DW X E (.BoolOp .And (b :: es) pos) g) : DW X E (.BoolOp .And (a :: b :: es) pos) (t_and f g) := by
  obtain ⟨ta, pa, qa⟩ := ha
  obtain ⟨tb, pb, qb⟩ := hb
  refine ⟨_, pw_and pa pb, fun p Ho Hi H0 H ρ hs σ Q S hp => ?_⟩
  refine qa p Ho Hi H0 H ρ hs σ _ S (hp.bind (rel1 := relB) fun d h1 K0 K v x rv hp => ?_)
  cases rv
  cases d with
  | true => exact qb p Ho Hi K0 K ρ h1 σ _ (S.step x) hp
  | false => exact hp.ok x.st rfl
theorem dw_or {f g : TM} (ha : DT X E a f) (hb : DW X E (.BoolOp .Or (b :: es) pos) g) : DW X E (.BoolOp .Or (a :: b :: es) pos) (t_or f g) := by
  obtain ⟨ta, pa, qa⟩ := ha
  obtain ⟨tb, pb, qb⟩ := hb
  refine ⟨_, pw_or pa pb, fun p Ho Hi H0 H ρ hs σ Q S hp => ?_⟩
  refine qa p Ho Hi H0 H ρ hs σ _ S (hp.bind (rel1 := relB) fun d h1 K0 K v x rv hp => ?_)
  cases rv
  cases d with
  | false => exact qb p Ho Hi K0 K ρ h1 σ _ (S.step x) hp
  | true => exact hp.ok x.st rfl
/-! .. as values -/
theorem de_not (ha : DE X E a fa) : DE X E (.UnaryOp .Not a pos) (e_not fa) := by
  obtain ⟨ta, pa, qa⟩ := ha
  refine ⟨_, pe_not pa, fun p Ho Hi H0 H ρ hs σ Q S hp => ?_⟩
  refine qa p Ho Hi H0 H ρ hs σ _ S (hp.bind fun d h1 K0 K v x rv hp => ?_)
  cases d <;> simp only [D.bool, R.lift, R.bind] at hp <;> try exact hp.elim
  simp only [relV, Rep] at rv
  exact ⟨_, rv, hp.ok x.st (by simp only [relV, Rep])⟩
theorem de_one {op} (ha : DE X E a fa) : DE X E (.BoolOp op [a] pos) fa := by
  obtain ⟨ta, pa, qa⟩ := ha
  exact ⟨_, pe_one pa, qa⟩
theorem de_and (ha : DE X E a fa) (hb : DE X E (.BoolOp .And (b :: es) pos) fb) : DE X E (.BoolOp .And (a :: b :: es) pos) (e_and fa fb) := by
  obtain ⟨ta, pa, qa⟩ := ha
  obtain ⟨tb, pb, qb⟩ := hb
  refine ⟨_, pe_and pa pb, fun p Ho Hi H0 H ρ hs σ Q S hp => ?_⟩
  refine qa p Ho Hi H0 H ρ hs σ _ S (hp.bind fun d h1 K0 K v x rv hp => ?_)
  cases d <;> simp only [D.bool, R.lift, R.bind] at hp <;> try exact hp.elim
  simp only [relV, Rep] at rv
  rename_i c
  refine ⟨_, rv, ?_⟩
  cases c with
  | true => exact qb p Ho Hi K0 K ρ h1 σ _ (S.step x) hp
  | false => exact hp.ok x.st (by simp only [relV, Rep])
theorem de_or (ha : DE X E a fa) (hb : DE X E (.BoolOp .Or (b :: es) pos) fb) : DE X E (.BoolOp .Or (a :: b :: es) pos) (e_or fa fb) := by
  obtain ⟨ta, pa, qa⟩ := ha
  obtain ⟨tb, pb, qb⟩ := hb
  refine ⟨_, pe_or pa pb, fun p Ho Hi H0 H ρ hs σ Q S hp => ?_⟩
  refine qa p Ho Hi H0 H ρ hs σ _ S (hp.bind fun d h1 K0 K v x rv hp => ?_)
  cases d <;> simp only [D.bool, R.lift, R.bind] at hp <;> try exact hp.elim
  simp only [relV, Rep] at rv
  rename_i c
  refine ⟨_, rv, ?_⟩
  cases c with
  | false => exact qb p Ho Hi K0 K ρ h1 σ _ (S.step x) hp
  | true => exact hp.ok x.st (by simp only [relV, Rep])
theorem de_if {f : TM} (hc : DT X E c f) (ha : DE X E a fa) (hb : DE X E b fb) : DE X E (.IfExp c a b pos) (e_if f fa fb) := by
  obtain ⟨tc, pc, qc⟩ := hc
  obtain ⟨ta, pa, qa⟩ := ha
  obtain ⟨tb, pb, qb⟩ := hb
  refine ⟨_, pe_ifExp pc pa pb, fun p Ho Hi H0 H ρ hs σ Q S hp => ?_⟩
  refine qc p Ho Hi H0 H ρ hs σ _ S (hp.bind (rel1 := relB) fun d h1 K0 K v x rv hp => ?_)
  cases rv
  cases d with
  | true => exact qa p Ho Hi K0 K ρ h1 σ _ (S.step x) hp
  | false => exact qb p Ho Hi K0 K ρ h1 σ _ (S.step x) hp

/-! ### operations by values -/
/-- a two-place operation behaves as g on data -/
def Op2 (X : Cx) (r : R2) (g : D → D → Option D) : Prop := ∀ (p : Option Addr) (H0 H : Hp) (hs : List D) (x y d : D) (vx vy : V) (Q : VK), Stt (Kc X p) H0 H hs → Rep (Kc X p) H0 x vx → Rep (Kc X p) H0 y vy → g x y = some d →
  (∀ H0' H' v, Ext (Kc X p) H0 H H0' H' hs → Rep (Kc X p) H0' d v → Q v H') → r vx vy H Q
def Op1 (X : Cx) (r : V → Hp → VK → Prop) (g : D → Option D) : Prop := ∀ (p : Option Addr) (H0 H : Hp) (hs : List D) (x d : D) (vx : V) (Q : VK), Stt (Kc X p) H0 H hs → Rep (Kc X p) H0 x vx → g x = some d →
  (∀ H0' H' v, Ext (Kc X p) H0 H H0' H' hs → Rep (Kc X p) H0' d v → Q v H') → r vx H Q
def OpN (X : Cx) (r : List V → Hp → VK → Prop) (g : List D → Option D) : Prop := ∀ (p : Option Addr) (H0 H : Hp) (hs : List D) (xs : List D) (d : D) (vs : List V) (Q : VK), Stt (Kc X p) H0 H hs → Reps (Kc X p) H0 xs vs → g xs = some d →
  (∀ H0' H' v, Ext (Kc X p) H0 H H0' H' hs → Rep (Kc X p) H0' d v → Q v H') → r vs H Q
theorem de_bin {op : Operator} {r : R2} {g : D → D → Option D} (ho : OpR X (binaryOp op) r) (hg : Op2 X r g) (ha : DE X E a fa) (hb : DE X E b fb) : DE X E (.BinOp a op b pos) (e_bin g fa fb) := by
  obtain ⟨ta, pa, qa⟩ := ha
  obtain ⟨tb, pb, qb⟩ := hb
  refine ⟨_, pe_op ho pa pb, fun p Ho Hi H0 H ρ hs σ Q S hp => ?_⟩
  refine qa p Ho Hi H0 H ρ hs σ _ S (hp.bind fun d h1 K0 K v x rv hp => ?_)
  refine qb p Ho Hi K0 K ρ h1 σ _ (S.step x) (hp.bind fun d' h2 L0 L v' y rv' hp => ?_)
  obtain ⟨z, e, hp⟩ := hp.lift
  exact hg p L0 L h2 d d' z v v' Q y.st (rv.mono y.sub0 _ _) rv' e hp
theorem de_cmp {op : CmpOp} {r : R2} {g : D → D → Option D} (ho : OpR X (compareOp op) r) (hg : Op2 X r g) (hm : behindInMarks op b = false) (ha : DE X E a fa) (hb : DE X E b fb) : DE X E (.Compare a [op] [b] pos) (e_bin g fa fb) := by
  obtain ⟨ta, pa, qa⟩ := ha
  obtain ⟨tb, pb, qb⟩ := hb
  refine ⟨_, pe_cmpR ho pa pb hm, fun p Ho Hi H0 H ρ hs σ Q S hp => ?_⟩
  refine qa p Ho Hi H0 H ρ hs σ _ S (hp.bind fun d h1 K0 K v x rv hp => ?_)
  refine qb p Ho Hi K0 K ρ h1 σ _ (S.step x) (hp.bind fun d' h2 L0 L v' y rv' hp => ?_)
  obtain ⟨z, e, hp⟩ := hp.lift
  exact hg p L0 L h2 d d' z v v' Q y.st (rv.mono y.sub0 _ _) rv' e hp
theorem dt_cmp {op : CmpOp} {r : R2} {g : D → D → Option D} (ho : OpR X (compareOp op) r) (hg : Op2 X r g) (hm : behindInMarks op b = false) (ha : DE X E a fa) (hb : DE X E b fb) : DT X E (.Compare a [op] [b] pos) (t_val (e_bin g fa fb)) := by
  obtain ⟨ta, pa, qa⟩ := ha
  obtain ⟨tb, pb, qb⟩ := hb
  refine ⟨_, pt_cmpR ho pa pb hm, fun p Ho Hi H0 H ρ hs σ Q S hp => ?_⟩
  have hp : Post (Kc X p) H0 H E relB Q ((e_bin g fa fb ρ hs).bind fun x h => R.lift x.bool h) := hp
  have hp : Post (Kc X p) H0 H E (relV (Kc X p)) (fun x H' => ∃ k, x = .bl k ∧ Q k H') (e_bin g fa fb ρ hs) := hp.bind fun d h1 K0 K v x rv hp => hp.bool x.st rv
  refine qa p Ho Hi H0 H ρ hs σ _ S (hp.bind fun d h1 K0 K v x rv hp => ?_)
  refine qb p Ho Hi K0 K ρ h1 σ _ (S.step x) (hp.bind fun d' h2 L0 L v' y rv' hp => ?_)
  obtain ⟨z, e, hp⟩ := hp.lift
  exact hg p L0 L h2 d d' z v v' _ y.st (rv.mono y.sub0 _ _) rv' e hp
theorem de_un {op : UnaryOp} {r : V → Hp → VK → Prop} {g : D → Option D} (ho : UnR X (unaryOp op) r) (hg : Op1 X r g) (ha : DE X E a fa) : DE X E (.UnaryOp op a pos) (e_un g fa) := by
  obtain ⟨ta, pa, qa⟩ := ha
  refine ⟨_, pe_un ho pa, fun p Ho Hi H0 H ρ hs σ Q S hp => ?_⟩
  refine qa p Ho Hi H0 H ρ hs σ _ S (hp.bind fun d h1 K0 K v x rv hp => ?_)
  obtain ⟨z, e, hp⟩ := hp.lift
  exact hg p K0 K h1 d z v Q x.st rv e hp
/-- a chain of two comparisons -/
def e_chain (g g' : D → D → Option D) (a b c : EM) : EM := fun ρ h => (a ρ h).bind fun x h => (b ρ h).bind fun y h => (R.lift ((g x y).bind D.bool) h).bind fun k h => if k then (c ρ h).bind fun z h => R.lift (g' y z) h else .ok (.bl false) h
theorem chain_mono {r r' : R2} {ta tb tc : TE} : True := trivial
theorem de_chain {op op' : CmpOp} {r r' : R2} {g g' : D → D → Option D} (ho : OpR X (compareOp op) r) (ho' : OpR X (compareOp op') r') (hg : Op2 X r g) (hg' : Op2 X r' g') (ha : DE X E a fa) (hb : DE X E b fb) (hc : DE X E c fc)
    (hm : lastMarks [op, op'] [b, c] = false := by with_unfolding_all rfl) : DE X E (.Compare a [op, op'] [b, c] pos) (e_chain g g' fa fb fc) := by
  obtain ⟨ta, pa, qa⟩ := ha
  obtain ⟨tb, pb, qb⟩ := hb
  obtain ⟨tc, pc, qc⟩ := hc
  refine ⟨_, pe_chain ho ho' pa pb pc hm, fun p Ho Hi H0 H ρ hs σ Q S hp => ?_⟩
  refine qa p Ho Hi H0 H ρ hs σ _ S (hp.bind fun d h1 K0 K v x rv hp => ?_)
  refine qb p Ho Hi K0 K ρ h1 σ _ (S.step x) (hp.bind fun d' h2 L0 L v' y rv' hp => ?_)
  have S2 := (S.step x).step y
  cases e : g d d' with
  | none => rw [e] at hp; exact hp.elim
  | some z =>
    rw [e] at hp
    refine hg p L0 L h2 d d' z v v' _ y.st (rv.mono y.sub0 _ _) rv' e fun M0 M u w rw' => ?_
    have hp : Post (Kc X p) L0 L E (relV (Kc X p)) Q ((R.lift (D.bool z) h2).bind fun k h => if k then (fc ρ h).bind fun z h => R.lift (g' d' z) h else .ok (.bl false) h) := hp
    cases z with
    | bl k =>
     simp only [Rep] at rw'
     refine ⟨k, rw', ?_⟩
     cases k with
     | false => exact (Post.shift w hp).ok w.st (by simp only [relV, Rep])
     | true =>
       have hp : Post (Kc X p) L0 L E (relV (Kc X p)) Q ((fc ρ h2).bind fun z h => R.lift (g' d' z) h) := hp
       refine qc p Ho Hi M0 M ρ h2 σ _ (S2.step w) ((Post.shift w hp).bind fun d3 h3 N0 N v3 y3 rv3 hp => ?_)
       obtain ⟨z3, e3, hp⟩ := hp.lift
       exact hg' p N0 N h3 d' d3 z3 v' v3 Q y3.st ((rv'.mono w.sub0 _ _).mono y3.sub0 _ _) rv3 e3 hp
    | _ => exact (show False from hp).elim
theorem dt_chain {op op' : CmpOp} {r r' : R2} {g g' : D → D → Option D} (ho : OpR X (compareOp op) r) (ho' : OpR X (compareOp op') r') (hg : Op2 X r g) (hg' : Op2 X r' g') (ha : DE X E a fa) (hb : DE X E b fb) (hc : DE X E c fc)
    (hm : lastMarks [op, op'] [b, c] = false := by with_unfolding_all rfl) : DT X E (.Compare a [op, op'] [b, c] pos) (t_val (e_chain g g' fa fb fc)) := by
  obtain ⟨ta, pa, qa⟩ := ha
  obtain ⟨tb, pb, qb⟩ := hb
  obtain ⟨tc, pc, qc⟩ := hc
  refine ⟨_, pt_chain ho ho' pa pb pc hm, fun p Ho Hi H0 H ρ hs σ Q S hp => ?_⟩
  have hp : Post (Kc X p) H0 H E relB Q ((e_chain g g' fa fb fc ρ hs).bind fun x h => R.lift x.bool h) := hp
  have hp : Post (Kc X p) H0 H E (relV (Kc X p)) (fun x H' => ∃ k, x = .bl k ∧ Q k H') (e_chain g g' fa fb fc ρ hs) := hp.bind fun d h1 K0 K v x rv hp => hp.bool x.st rv
  refine qa p Ho Hi H0 H ρ hs σ _ S (hp.bind fun d h1 K0 K v x rv hp => ?_)
  refine qb p Ho Hi K0 K ρ h1 σ _ (S.step x) (hp.bind fun d' h2 L0 L v' y rv' hp => ?_)
  have S2 := (S.step x).step y
  cases e : g d d' with
  | none => rw [e] at hp; exact hp.elim
  | some z =>
    rw [e] at hp
    refine hg p L0 L h2 d d' z v v' _ y.st (rv.mono y.sub0 _ _) rv' e fun M0 M u w rw' => ?_
    have hp : Post (Kc X p) L0 L E (relV (Kc X p)) (fun x H' => ∃ k, x = .bl k ∧ Q k H') ((R.lift (D.bool z) h2).bind fun k h => if k then (fc ρ h).bind fun z h => R.lift (g' d' z) h else .ok (.bl false) h) := hp
    cases z with
    | bl k =>
     simp only [Rep] at rw'
     refine ⟨k, rw', ?_⟩
     cases k with
     | false => exact (Post.shift w hp).ok w.st (by simp only [relV, Rep])
     | true =>
       have hp : Post (Kc X p) L0 L E (relV (Kc X p)) (fun x H' => ∃ k, x = .bl k ∧ Q k H') ((fc ρ h2).bind fun z h => R.lift (g' d' z) h) := hp
       refine qc p Ho Hi M0 M ρ h2 σ _ (S2.step w) ((Post.shift w hp).bind fun d3 h3 N0 N v3 y3 rv3 hp => ?_)
       obtain ⟨z3, e3, hp⟩ := hp.lift
       exact hg' p N0 N h3 d' d3 z3 v' v3 _ y3.st ((rv'.mono w.sub0 _ _).mono y3.sub0 _ _) rv3 e3 hp
    | _ => exact (show False from hp).elim
end
end DL

namespace DL
open PySem PySem.Spec L2
open PyProof.Rows hiding St

theorem rep_int {C : Kx} {H : Hp} {i : Int} {v : V} : Rep C H (.int i) v ↔ v = .int i := by simp only [Rep]
theorem rep_bl {C : Kx} {H : Hp} {i : Bool} {v : V} : Rep C H (.bl i) v ↔ v = .bl i := by simp only [Rep]
theorem rep_non {C : Kx} {H : Hp} {v : V} : Rep C H .non v ↔ v = .non := by simp only [Rep]
theorem rep_str {C : Kx} {H : Hp} {i : Str} {v : V} : Rep C H (.str i) v ↔ v = .str i := by simp only [Rep]

/-! ### arithmetic -/
def addD : D → D → Option D
  | .int a, .int b => some (.int (a + b))
  | .tup xs, .tup ys => if xs.length + ys.length ≤ 16777216 then some (.tup (xs ++ ys)) else none
  | .lst xs, .lst ys => if xs.length + ys.length ≤ 16777216 then some (.lst (xs ++ ys)) else none
  | _, _ => none
def subD : D → D → Option D
  | .int a, .int b => some (.int (a - b))
  | _, _ => none
def mulOk (a b : Int) : Bool := decide (a.natAbs < 2 ^ 64) || decide (b.natAbs < 2 ^ 64) || (decide (a.natAbs < 2 ^ 4000) && decide (b.natAbs < 2 ^ 4000))
def mulD : D → D → Option D
  | .int a, .int b => if mulOk a b then some (.int (a * b)) else none
  | .tup xs, .int k => if k = 1 then some (.tup xs) else if 2 ≤ k ∧ k ≤ 1000 ∧ xs ≠ [] ∧ xs.length ≤ 1000 then some (.tup (List.replicate k.toNat xs).flatten) else none
  | .lst xs, .int k => if k < 2 ^ 62 ∧ -(2 ^ 62) ≤ k ∧ xs.length * k.toNat ≤ 16777216 then some (.lst (List.replicate k.toNat xs).flatten) else none
  | _, _ => none
def modD : D → D → Option D
  | .int a, .int b => if 0 < b then some (.int (a % b)) else none
  | _, _ => none
def divD : D → D → Option D
  | .int a, .int b => if 0 < b ∧ b.natAbs < 2 ^ 8000 then some (.int (a / b)) else none
  | _, _ => none
def powD : D → D → Option D
  | .int a, .int b => if 0 ≤ b ∧ b ≤ 1000 ∧ a.natAbs < 2 ^ 64 then some (.int (a ^ b.toNat)) else none
  | _, _ => none
def negD : D → Option D
  | .int a => some (.int (-a))
  | _ => none
def ltD : D → D → Option D
  | .int a, .int b => some (.bl (decide (a < b)))
  | _, _ => none
def leD : D → D → Option D
  | .int a, .int b => some (.bl (decide (a ≤ b)))
  | _, _ => none
def gtD (x y : D) := ltD y x
def geD (x y : D) := leD y x
def isND : D → Option D
  | .non => some (.bl true)
  | _ => some (.bl false)
def notND : D → Option D
  | .non => some (.bl false)
  | _ => some (.bl true)

section
variable {X : Cx} {E : XK} {e a b c : Expr} {es : List Expr} {fa fb fc : EM} {fr : AM} {pos : Pos}
theorem Op2.int {X : Cx} {r : R2} {g : D → D → Option D} (h : ∀ x y z, g x y = some z → ∃ i j, x = .int i ∧ y = .int j ∧ ((∃ k, z = .int k ∧ ∀ H Q, Q (.int k) H → r (.int i) (.int j) H Q) ∨ ∃ k, z = .bl k ∧ ∀ H Q, Q (.bl k) H → r (.int i) (.int j) H Q)) : Op2 X r g := by
  intro p H0 H hs x y d vx vy Q s rx ry e q
  obtain ⟨i, j, rfl, rfl, h⟩ := h x y d e
  rw [rep_int] at rx ry
  subst rx ry
  rcases h with ⟨k, rfl, h⟩ | ⟨k, rfl, h⟩
  · exact h _ _ (q H0 H _ s.ext (rep_int.mpr rfl))
  · exact h _ _ (q H0 H _ s.ext (rep_bl.mpr rfl))
theorem og_sub : Op2 X (rI0 fun i j => .int (i - j)) subD := .int fun x y z e => by
  cases x <;> cases y <;> simp only [subD] at e <;> cases e
  exact ⟨_, _, rfl, rfl, .inl ⟨_, rfl, fun H Q q => ⟨_, _, rfl, rfl, q⟩⟩⟩
theorem og_mod : Op2 X (rI (fun _ j => 0 < j) fun i j => .int (i % j)) modD := .int fun x y z e => by
  cases x <;> cases y <;> simp only [modD] at e <;> try cases e
  split at e
  · rename_i h
    cases e
    exact ⟨_, _, rfl, rfl, .inl ⟨_, rfl, fun H Q q => ⟨_, _, rfl, rfl, h, q⟩⟩⟩
  · cases e
theorem og_div : Op2 X (rI CDivW fun i j => .int (i / j)) divD := .int fun x y z e => by
  cases x <;> cases y <;> simp only [divD] at e <;> try cases e
  split at e
  · rename_i h
    cases e
    exact ⟨_, _, rfl, rfl, .inl ⟨_, rfl, fun H Q q => ⟨_, _, rfl, rfl, wide_div h.1 h.2 (by omega) (by omega), q⟩⟩⟩
  · cases e
theorem og_pow : Op2 X (rI CPow fun i j => .int (i ^ j.toNat)) powD := .int fun x y z e => by
  cases x <;> cases y <;> simp only [powD] at e <;> try cases e
  split at e
  · rename_i h
    cases e
    exact ⟨_, _, rfl, rfl, .inl ⟨_, rfl, fun H Q q => ⟨_, _, rfl, rfl, ⟨h.1, by omega, h.2.2⟩, q⟩⟩⟩
  · cases e
theorem og_lt : Op2 X (rI0 fun i j => .bl (decide (i < j))) ltD := .int fun x y z e => by
  cases x <;> cases y <;> simp only [ltD] at e <;> cases e
  exact ⟨_, _, rfl, rfl, .inr ⟨_, rfl, fun H Q q => ⟨_, _, rfl, rfl, q⟩⟩⟩
theorem og_le : Op2 X (rI0 fun i j => .bl (decide (i ≤ j))) leD := .int fun x y z e => by
  cases x <;> cases y <;> simp only [leD] at e <;> cases e
  exact ⟨_, _, rfl, rfl, .inr ⟨_, rfl, fun H Q q => ⟨_, _, rfl, rfl, q⟩⟩⟩
theorem og_gt : Op2 X (rI0 fun i j => .bl (decide (j < i))) gtD := .int fun x y z e => by
  cases x <;> cases y <;> simp only [gtD, ltD] at e <;> cases e
  exact ⟨_, _, rfl, rfl, .inr ⟨_, rfl, fun H Q q => ⟨_, _, rfl, rfl, q⟩⟩⟩
theorem og_ge : Op2 X (rI0 fun i j => .bl (decide (j ≤ i))) geD := .int fun x y z e => by
  cases x <;> cases y <;> simp only [geD, leD] at e <;> cases e
  exact ⟨_, _, rfl, rfl, .inr ⟨_, rfl, fun H Q q => ⟨_, _, rfl, rfl, q⟩⟩⟩
theorem og_neg : Op1 X (rU fun i => .int (-i)) negD := by
  intro p H0 H hs x d vx Q s rx e q
  cases x <;> simp only [negD] at e <;> cases e
  rw [rep_int] at rx
  exact ⟨_, rx, q H0 H _ s.ext (rep_int.mpr rfl)⟩
/-- what is frozen anew: a tuple, a list -/
theorem new_tup {C : Kx} {H0 H : Hp} {hs : List D} {ds : List D} {vs : List V} {Q : VK} (s : Stt C H0 H hs) (r : Reps C H0 ds vs) (q : ∀ H0' H' v, Ext C H0 H H0' H' hs → Rep C H0' (.tup ds) v → Q v H') :
    ∀ p, H p = none → Q (.ref p) (upd H p (.tup vs)) := fun p hp => q _ _ _ (s.alloc hp) (Rep.of_tup upd_same (r.mono (s.alloc hp).sub0 _ _))
theorem new_lst {C : Kx} {H0 H : Hp} {hs : List D} {ds : List D} {vs : List V} {Q : VK} (s : Stt C H0 H hs) (r : Reps C H0 ds vs) (q : ∀ H0' H' v, Ext C H0 H H0' H' hs → Rep C H0' (.lst ds) v → Q v H') :
    ∀ p, H p = none → Q (.ref p) (upd H p (.lst vs)) := fun p hp => q _ _ _ (s.alloc hp) (Rep.of_list upd_same (r.mono (s.alloc hp).sub0 _ _))
def rPlus (K : PySem.W.Frag) : R2 := fun x y H Q => (rI0 fun i j => .int (i + j)) x y H Q ∨ (rCatA K x y H Q ∨ rCat x y H Q)
theorem op_plus : OpR X (binaryOp .Add) (rPlus X.K) := op_add.or (op_catA.or op_cat)
theorem og_plus : Op2 X (rPlus X.K) addD := by
  intro p H0 H hs x y d vx vy Q s rx ry e q
  cases x with
  | int i =>
    cases y <;> simp only [addD] at e <;> cases e
    rw [rep_int] at rx ry
    exact .inl ⟨_, _, rx, ry, q H0 H _ s.ext (rep_int.mpr rfl)⟩
  | tup xs =>
    cases y with
    | tup ys =>
      simp only [addD] at e
      split at e
      · rename_i hz
        cases e
        obtain ⟨a, vs, rfl, ha, r1⟩ := rx.tuple
        obtain ⟨b, ws, rfl, hb, r2⟩ := ry.tuple
        refine .inr (.inl ⟨a, b, vs, ws, rfl, rfl, Same.seqT s.sub ha, Same.seqT s.sub hb, by rw [r1.length, r2.length, sizeLine_eq]; exact hz, fun e1 => ?_, fun _ e1 => ?_, fun _ _ => ?_⟩)
        · subst e1
          have : xs = [] := by have := r1.length; simpa using this.symm
          subst this
          exact q H0 H _ s.ext (by simp only [Rep]; exact ⟨b, ws, rfl, hb, by simpa using r2⟩)
        · subst e1
          have : ys = [] := by have := r2.length; simpa using this.symm
          subst this
          exact q H0 H _ s.ext (by simp only [Rep]; exact ⟨a, vs, rfl, ha, by simpa using r1⟩)
        · exact new_tup s (r1.append r2) q
      · cases e
    | _ => simp only [addD] at e; cases e
  | lst xs =>
    cases y with
    | lst ys =>
      simp only [addD] at e
      split at e
      · rename_i hz
        cases e
        obtain ⟨a, vs, rfl, ha, r1⟩ := rx.list
        obtain ⟨b, ws, rfl, hb, r2⟩ := ry.list
        exact .inr (.inr ⟨a, b, vs, ws, rfl, rfl, s.sub _ _ ha, s.sub _ _ hb, by rw [r1.length, r2.length, sizeLine_eq]; exact hz, new_lst s (r1.append r2) q⟩)
      · cases e
    | _ => simp only [addD] at e; cases e
  | _ => cases y <;> simp only [addD] at e <;> cases e
/-- t * 1 is t -/
theorem tuple_mul1 (l : Addr) (items : Array Value) (n : Nat) (dd : Option Addr) (sl : Array (Option Value)) (u : Tok) :
    Meets (Builtin.«tuple.__mul__» ⟨[.ref l, .int 1 u], []⟩) (fun _ R s => s.heap.get? l = some { cls := .type "tuple", dict := dd, data := .seq items n, slots := sl } ∧
      R (.ok (.ret (Value.ref l))) s) :=
  .of_wp fun prog w A R s h => by
    obtain ⟨hp, g, d, tk, os⟩ := s
    obtain ⟨hl, h⟩ := h
    have f1 := AutoSeq1.idx_int
    have c1 : (items.isEmpty || (1 : Int) == 1) = true := by simp
    wp_walk using PySem.AutoSeq1.wpAny_loadPart' hl
    exact ⟨_, rfl, h⟩
def rRep1 (K : PySem.W.Frag) : R2 := fun x y H Q => ∃ l xs, x = .ref l ∧ y = .int 1 ∧ SqT K H l xs ∧ Q (.ref l) H
theorem op_rep1 : OpR X (binaryOp .Mult) (rRep1 X.K) := by
  intro pins s σ H x y v u Q I rx ry h
  obtain ⟨l, xs, rfl, rfl, hT, q⟩ := h
  cases rx
  obtain ⟨t, rfl⟩ := ry
  obtain ⟨its, r, ⟨⟨cls, dd, data, sl⟩, ho, hc, n, hd⟩, hs⟩ := I.tuple hT
  simp only at hc hd
  subst hc hd
  refine wpAny_binaryOp_repeat_ref (T := "tuple") (U := "int") (by decide) ⟨_, ho, rfl⟩ (fun s' => typeIs_int s' 1 t) noFill_tuple_mul F.fills_int_mul F.slot_int_rmul repeat_tuple F.slot_int_index.lookup
    (call_meets F.slot_int_rmul (typeIs_int s 1 t) F.entry_int_rmul (F.args_int_rmul_2 _ _) (int_rmul_tuple 1 t l its.toArray n dd sl)
      ⟨ho, rfl, ⟨_, ho, rfl⟩, call_meets F.slot_tuple_mul ⟨_, ho, rfl⟩ F.entry_tuple_mul (F.args_tuple_mul_2 _ _) (tuple_mul1 l its.toArray n dd sl t) ⟨ho, ?_⟩⟩)
  exact ⟨.ref l, H, I, rfl, q⟩
def rTimes (K : PySem.W.Frag) : R2 := fun x y H Q => (rI CMul fun i j => .int (i * j)) x y H Q ∨ ((rI CMulW fun i j => .int (i * j)) x y H Q ∨ (rRepT K x y H Q ∨ (rRep x y H Q ∨ rRep1 K x y H Q)))
theorem op_times : OpR X (binaryOp .Mult) (rTimes X.K) := op_mul.or (op_mulW.or (op_repT.or (op_rep.or op_rep1)))
theorem og_times : Op2 X (rTimes X.K) mulD := by
  intro p H0 H hs x y d vx vy Q s rx ry e q
  cases x with
  | int i =>
    cases y with
    | int j =>
      simp only [mulD] at e
      split at e
      · rename_i hz
        cases e
        rw [rep_int] at rx ry
        unfold mulOk at hz
        rw [Bool.or_eq_true, Bool.or_eq_true, Bool.and_eq_true, decide_eq_true_eq, decide_eq_true_eq, decide_eq_true_eq, decide_eq_true_eq] at hz
        rcases hz with (hz | hz) | hz
        · exact .inl ⟨_, _, rx, ry, .inl (by omega), q H0 H _ s.ext (rep_int.mpr rfl)⟩
        · exact .inl ⟨_, _, rx, ry, .inr (by omega), q H0 H _ s.ext (rep_int.mpr rfl)⟩
        · exact .inr (.inl ⟨_, _, rx, ry, wide_mul hz.1 hz.2 (by omega) (by omega) (by omega), q H0 H _ s.ext (rep_int.mpr rfl)⟩)
      · cases e
    | _ => simp only [mulD] at e; cases e
  | tup xs =>
    cases y with
    | int k =>
      simp only [mulD] at e
      split at e
      · rename_i hz
        cases e
        subst hz
        obtain ⟨a, vs, rfl, ha, r1⟩ := rx.tuple
        rw [rep_int] at ry
        exact .inr (.inr (.inr (.inr ⟨a, vs, rfl, ry, Same.seqT s.sub ha, q H0 H _ s.ext (by simp only [Rep]; exact ⟨a, vs, rfl, ha, r1⟩)⟩)))
      split at e
      · rename_i hz
        cases e
        obtain ⟨a, vs, rfl, ha, r1⟩ := rx.tuple
        rw [rep_int] at ry
        refine .inr (.inr (.inl ⟨a, k, vs, rfl, ry, Same.seqT s.sub ha, fun z => ?_, hz.1, hz.2.1, by rw [r1.length]; exact hz.2.2.2, new_tup s (r1.flatten_replicate _) q⟩))
        subst z
        have := r1.length
        exact hz.2.2.1 (by simpa using this.symm)
      · cases e
    | _ => simp only [mulD] at e; cases e
  | lst xs =>
    cases y with
    | int k =>
      simp only [mulD] at e
      split at e
      · rename_i hz
        cases e
        obtain ⟨a, vs, rfl, ha, r1⟩ := rx.list
        rw [rep_int] at ry
        exact .inr (.inr (.inr (.inl ⟨a, k, vs, rfl, ry, s.sub _ _ ha, by omega, by omega, by rw [r1.length, sizeLine_eq]; exact hz.2.2, new_lst s (r1.flatten_replicate _) q⟩)))
      · cases e
    | _ => simp only [mulD] at e; cases e
  | _ => cases y <;> simp only [mulD] at e <;> cases e
end

/-! ### ==, in -/
mutual
def toPD : D → PyData
  | .non => .none
  | .bl b => .bool b
  | .int i => .int i
  | .str x => .str x
  | .tup xs => .tuple (toPDs xs)
  | .lst xs => .list (toPDs xs)
  | .scr xs => .list (toPDs xs)
  | .dct _ => .dict []
  | .ins _ _ => .dict []
  | .hnd => .dict []
def toPDs : List D → List PyData
  | [] => []
  | d :: ds => toPD d :: toPDs ds
end
theorem toPDs_eq : ∀ ds : List D, toPDs ds = ds.map toPD
  | [] => rfl
  | d :: ds => by simp only [toPDs, List.map_cons, toPDs_eq ds]
theorem canLay_tup {xs : List PyData} : PyData.canLay0 (.tuple xs) = PyData.canLayAll0 xs := by simp [PyData.canLay0]
section
variable {C : Kx} {H : Hp}
mutual
theorem Rep.dp : ∀ (d : D) (v : V), Rep C H d v → PyData.canLay0 (toPD d) = true → Dp C.K H v (toPD d)
  | .non, v, h, _ => by rw [rep_non] at h; subst h; exact .non
  | .bl b, v, h, _ => by rw [rep_bl] at h; subst h; exact .bl b
  | .int i, v, h, _ => by rw [rep_int] at h; subst h; exact .int i
  | .str x, v, h, _ => by rw [rep_str] at h; subst h; exact .str x
  | .tup xs, v, h, l => by
    obtain ⟨a, vs, rfl, ha, r⟩ := h.tuple
    exact .tup ha (Reps.dp xs vs r (by simpa [toPD, PyData.canLay0] using l))
  | .lst xs, v, h, l => by
    obtain ⟨a, vs, rfl, ha, r⟩ := h.list
    exact .lst (SqL.of ha) (Reps.dp xs vs r (by simpa [toPD, PyData.canLay0] using l))
  | .scr xs, v, h, l => by
    simp only [Rep] at h
    obtain ⟨a, vs, rfl, ha, r⟩ := h
    exact .lst ha (Reps.dp xs vs r (by simpa [toPD, PyData.canLay0] using l))
  | .dct _, v, h, l => by simp [toPD, PyData.canLay0] at l
  | .ins _ _, v, h, l => by simp [toPD, PyData.canLay0] at l
  | .hnd, v, h, l => by simp [toPD, PyData.canLay0] at l
theorem Reps.dp : ∀ (ds : List D) (vs : List V), Reps C H ds vs → PyData.canLayAll0 (toPDs ds) = true → DpAll C.K H vs (toPDs ds)
  | [], vs, h, _ => by rw [Reps.nil_inv h]; exact .nil
  | d :: ds, vs, h, l => by
    obtain ⟨v, r, rfl, h1, h2⟩ := h.cons_inv
    have l' : PyData.canLay0 (toPD d) = true ∧ PyData.canLayAll0 (toPDs ds) = true := by simpa [toPDs, PyData.canLayAll0] using l
    exact .cons (Rep.dp d v h1 l'.1) (Reps.dp ds r h2 l'.2)
end
end
def shp (d : D) : Bool := SeqAt.shaped (toPD d)
def eqv (x y : D) : Bool := PyData.eqv (toPD x) (toPD y)
def eqD (x y : D) : Option D := if shp x && shp y then some (.bl (eqv x y)) else none
def neD (x y : D) : Option D := if shp x && shp y then some (.bl (!eqv x y)) else none
def flatD : D → Bool
  | .non => true
  | .bl _ => true
  | .int _ => true
  | .str _ => true
  | _ => false
def inList (x : D) (ds : List D) (neg : Bool) : Option D :=
  if flatD x && ds.all flatD then some (.bl (neg != ds.any fun z => eqv z x)) else none
def inD (x y : D) : Option D := match y with
  | .tup ds => inList x ds false
  | .lst ds => if shp x && shp (.lst ds) then some (.bl (ds.any fun z => eqv z x)) else inList x ds false
  | _ => none
def notInD (x y : D) : Option D := match y with
  | .tup ds => inList x ds true
  | .lst ds => if shp x && shp (.lst ds) then some (.bl (!ds.any fun z => eqv z x)) else inList x ds true
  | _ => none
section
variable {X : Cx} {E : XK} {e a b c : Expr} {es : List Expr} {fa fb fc : EM} {fr : AM} {pos : Pos}
theorem shp_lay {d : D} (h : shp d = true) : PyData.canLay0 (toPD d) = true := SeqAt.canLay_of_shaped h
theorem Stt.dp {C : Kx} {H0 H : Hp} {hs : List D} {d : D} {v : V} (s : Stt C H0 H hs) (r : Rep C H0 d v) (h : shp d = true) : Dp C.K H v (toPD d) := Rep.dp d v (r.mono s.sub _ _) (shp_lay h)
theorem og_eq : Op2 X (rEqD X.K) eqD := by
  intro p H0 H hs x y d vx vy Q s rx ry e q
  unfold eqD at e
  split at e
  · rename_i hz
    cases e
    rw [Bool.and_eq_true] at hz
    exact ⟨_, _, s.dp rx hz.1, s.dp ry hz.2, hz.1, hz.2, q H0 H _ s.ext (rep_bl.mpr rfl)⟩
  · cases e
theorem og_ne : Op2 X (rNeD X.K) neD := by
  intro p H0 H hs x y d vx vy Q s rx ry e q
  unfold neD at e
  split at e
  · rename_i hz
    cases e
    rw [Bool.and_eq_true] at hz
    exact ⟨_, _, s.dp rx hz.1, s.dp ry hz.2, hz.1, hz.2, q H0 H _ s.ext (rep_bl.mpr rfl)⟩
  · cases e
theorem flat_rep {C : Kx} {H : Hp} {d : D} {v : V} (f : flatD d = true) (r : Rep C H d v) : flatV v = true := by
  cases d <;> simp only [flatD] at f <;> first | (simp only [Rep] at r; subst r; rfl) | cases f
theorem flat_eqv {C : Kx} {H : Hp} {x y : D} {v u : V} (fx : flatD x = true) (fy : flatD y = true) (rx : Rep C H x v) (ry : Rep C H y u) : eqV v u = eqv x y := by
  cases x <;> simp only [flatD] at fx <;> try cases fx
  all_goals
    cases y <;> simp only [flatD] at fy <;> try cases fy
  all_goals
    simp only [Rep] at rx ry
    subst rx ry
    first
      | rfl
      | simp [eqV, eqv, toPD, PyData.eqv]
theorem flats_rep {C : Kx} {H : Hp} {x : D} {u : V} (fx : flatD x = true) (rx : Rep C H x u) : ∀ {ds : List D} {vs : List V}, ds.all flatD = true → Reps C H ds vs → vs.all flatV = true ∧ inV u vs = ds.any fun z => eqv z x
  | [], vs, f, r => by rw [Reps.nil_inv r]; exact ⟨rfl, rfl⟩
  | d :: ds, vs, f, r => by
    obtain ⟨v, w, rfl, h1, h2⟩ := r.cons_inv
    rw [List.all_cons, Bool.and_eq_true] at f
    obtain ⟨i1, i2⟩ := flats_rep fx rx f.2 h2
    refine ⟨by rw [List.all_cons, flat_rep f.1 h1, i1]; rfl, ?_⟩
    unfold inV at i2 ⊢
    rw [List.any_cons, List.any_cons, i2, flat_eqv f.1 fx h1 rx]
def rInA (K : PySem.W.Frag) : R2 := fun x y H Q => rIn K false x y H Q ∨ rInD K x y H Q
def rNotInA (K : PySem.W.Frag) : R2 := fun x y H Q => rIn K true x y H Q ∨ rNotInD K x y H Q
theorem op_inA (hu : X.A.units + 65 < cLine) : OpR X (compareOp .In) (rInA X.K) := op_in_seq.or (op_inD hu)
theorem op_notInA (hu : X.A.units + 65 < cLine) : OpR X (compareOp .NotIn) (rNotInA X.K) := op_notIn_seq.or (op_notInD hu)
theorem og_in : Op2 X (rInA X.K) inD := by
  intro p H0 H hs x y d vx vy Q s rx ry e q
  have flat : ∀ (ds : List D) (a : Addr) (vs : List V), vy = .ref a → (SqL X.K H a vs ∨ SqT X.K H a vs) → Reps (Kc X p) H0 ds vs → inList x ds false = some d → rInA X.K vx vy H Q := fun ds a vs e1 hq r e => by
    unfold inList at e
    split at e
    · rename_i hz
      cases e
      rw [Bool.and_eq_true] at hz
      obtain ⟨g1, g2⟩ := flats_rep hz.1 rx hz.2 r
      refine .inl ⟨a, vs, e1, hq, flat_rep hz.1 rx, g1, ?_⟩
      have : (if false = true then !inV vx vs else inV vx vs) = inV vx vs := rfl
      rw [this, g2]
      exact q H0 H _ s.ext (by rw [rep_bl]; simp)
    · cases e
  cases y with
  | tup ds =>
    obtain ⟨a, vs, e1, ha, r⟩ := ry.tuple
    exact flat ds a vs e1 (.inr (Same.seqT s.sub ha)) r e
  | lst ds =>
    obtain ⟨a, vs, e1, ha, r⟩ := ry.list
    simp only [inD] at e
    split at e
    · rename_i hz
      cases e
      rw [Bool.and_eq_true] at hz
      have hd := s.dp ry hz.2
      refine .inr ⟨_, toPDs ds, s.dp rx hz.1, hd, hz.1, hz.2, ?_⟩
      have e2 : ((toPDs ds).any fun z => PyData.eqv z (toPD x)) = ds.any fun z => eqv z x := by
        rw [toPDs_eq, List.any_map]; rfl
      rw [e2]
      exact q H0 H _ s.ext (rep_bl.mpr rfl)
    · exact flat ds a vs e1 (.inl (SqL.of (s.sub _ _ ha))) r e
  | _ => simp only [inD] at e; cases e
theorem og_notIn : Op2 X (rNotInA X.K) notInD := by
  intro p H0 H hs x y d vx vy Q s rx ry e q
  have flat : ∀ (ds : List D) (a : Addr) (vs : List V), vy = .ref a → (SqL X.K H a vs ∨ SqT X.K H a vs) → Reps (Kc X p) H0 ds vs → inList x ds true = some d → rNotInA X.K vx vy H Q := fun ds a vs e1 hq r e => by
    unfold inList at e
    split at e
    · rename_i hz
      cases e
      rw [Bool.and_eq_true] at hz
      obtain ⟨g1, g2⟩ := flats_rep hz.1 rx hz.2 r
      refine .inl ⟨a, vs, e1, hq, flat_rep hz.1 rx, g1, ?_⟩
      have : (if true = true then !inV vx vs else inV vx vs) = !inV vx vs := rfl
      rw [this, g2]
      exact q H0 H _ s.ext (by rw [rep_bl]; simp)
    · cases e
  cases y with
  | tup ds =>
    obtain ⟨a, vs, e1, ha, r⟩ := ry.tuple
    exact flat ds a vs e1 (.inr (Same.seqT s.sub ha)) r e
  | lst ds =>
    obtain ⟨a, vs, e1, ha, r⟩ := ry.list
    simp only [notInD] at e
    split at e
    · rename_i hz
      cases e
      rw [Bool.and_eq_true] at hz
      have hd := s.dp ry hz.2
      refine .inr ⟨_, toPDs ds, s.dp rx hz.1, hd, hz.1, hz.2, ?_⟩
      have e2 : ((toPDs ds).any fun z => PyData.eqv z (toPD x)) = ds.any fun z => eqv z x := by
        rw [toPDs_eq, List.any_map]; rfl
      rw [e2]
      exact q H0 H _ s.ext (rep_bl.mpr rfl)
    · exact flat ds a vs e1 (.inl (SqL.of (s.sub _ _ ha))) r e
  | _ => simp only [notInD] at e; cases e
/-- is None -/
def D.isNon : D → Bool
  | .non => true
  | _ => false
theorem rep_isnon {C : Kx} {H : Hp} {d : D} {v : V} (r : Rep C H d v) : (decide (v = .non)) = d.isNon := by
  cases d with
  | non => rw [rep_non] at r; subst r; rfl
  | bl => rw [rep_bl] at r; subst r; rfl
  | int => rw [rep_int] at r; subst r; rfl
  | str => rw [rep_str] at r; subst r; rfl
  | tup => obtain ⟨a, _, rfl, _⟩ := r.tuple; rfl
  | lst => obtain ⟨a, _, rfl, _⟩ := r.list; rfl
  | dct => simp only [Rep] at r; obtain ⟨a, _, rfl, _⟩ := r; rfl
  | ins => simp only [Rep] at r; obtain ⟨a, _, _, _, rfl, _⟩ := r; rfl
  | scr => simp only [Rep] at r; obtain ⟨a, _, rfl, _⟩ := r; rfl
  | hnd => simp only [Rep] at r; obtain ⟨a, _, rfl⟩ := r; rfl
def isD (x y : D) : Option D := match y with | .non => some (.bl x.isNon) | _ => none
def isNotD (x y : D) : Option D := match y with | .non => some (.bl (!x.isNon)) | _ => none
theorem og_is : Op2 X (fun x y H Q => y = .non ∧ Q (.bl (decide (x = .non))) H) isD := by
  intro p H0 H hs x y d vx vy Q s rx ry e q
  cases y <;> simp only [isD] at e <;> try cases e
  rw [rep_non] at ry
  exact ⟨ry, q H0 H _ s.ext (by rw [rep_bl, rep_isnon rx])⟩
theorem og_isNot : Op2 X (fun x y H Q => y = .non ∧ Q (.bl (!decide (x = .non))) H) isNotD := by
  intro p H0 H hs x y d vx vy Q s rx ry e q
  cases y <;> simp only [isNotD] at e <;> try cases e
  rw [rep_non] at ry
  exact ⟨ry, q H0 H _ s.ext (by rw [rep_bl, rep_isnon rx])⟩
end
end DL

namespace DL
open PySem PySem.Spec L2
open PyProof.Rows hiding St

/-! ### own classes -/
structure OwnC (K : PySem.W.Frag) (mg : Str → Option Value) (c : Str) (C : Addr) : Prop where
  mg : mg c = some (.ref C)
  cl : Cls K C
  ha : PySem.W.findIn K (.ref C) "__class__" = some (some (.builtin "object.__class__"))
  hn : PySem.W.specialIn K (.builtin "object.__class__") "__get__" = some (some (.builtin "getset_descriptor.__get__"))
  htk : PySem.W.takesIn K (.builtin "object.__class__") = some true
  hm : PySem.W.mroIn K C (.type "object") = some true
  n1 : PySem.W.kitOne K (.ref C) (.type "int") = some false
  n2 : PySem.W.kitOne K (.ref C) (.type "bool") = some false
  n3 : PySem.W.kitOne K (.ref C) (.type "tuple") = some false
  n4 : PySem.W.kitOne K (.ref C) (.type "list") = some false
  n5 : PySem.W.kitOne K (.ref C) (.type "str") = some false
  o0 : PySem.W.kitOne K (.type "NoneType") (.ref C) = some false
  o1 : PySem.W.kitOne K (.type "int") (.ref C) = some false
  o2 : PySem.W.kitOne K (.type "bool") (.ref C) = some false
  o3 : PySem.W.kitOne K (.type "tuple") (.ref C) = some false
  o4 : PySem.W.kitOne K (.type "list") (.ref C) = some false
  o5 : PySem.W.kitOne K (.type "str") (.ref C) = some false
  o6 : PySem.W.kitOne K (.type "dict") (.ref C) = some false
/-- a datum's kind, as one of the built-in classes -/
def kindOf : D → Option String
  | .non => some "NoneType" | .bl _ => some "bool" | .int _ => some "int" | .str _ => some "str" | .tup _ => some "tuple" | .lst _ => some "list" | .dct _ => some "dict" | _ => none
def isB (n : String) : D → Bool
  | .bl _ => n == "int" || n == "bool"
  | .int _ => n == "int"
  | .str _ => n == "str"
  | .tup _ => n == "tuple"
  | .lst _ => n == "list"
  | .dct _ => n == "dict"
  | _ => false
def kinds : List String := ["NoneType", "bool", "int", "str", "tuple", "list", "dict"]
def tyNames : List String := ["int", "bool", "tuple", "list", "str"]
theorem kit_table : ∀ k ∈ kinds, ∀ n ∈ tyNames, kitB k n = some (k == n || (k == "bool" && n == "int")) := by decide +kernel
section
variable {K : PySem.W.Frag} {mg : Str → Option Value} {p : Option Addr} {H : Hp}
theorem rep_ty {d : D} {v : V} {k : String} (r : Rep ⟨K, mg, p⟩ H d v) (e : kindOf d = some k) : TyX K H v (.type k) := by
  cases d with
  | non => cases e; rw [rep_non] at r; subst r; exact .base .non
  | bl b => cases e; rw [rep_bl] at r; subst r; exact .base (.bl b)
  | int b => cases e; rw [rep_int] at r; subst r; exact .base (.int b)
  | str b => cases e; rw [rep_str] at r; subst r; exact .base (.str b)
  | tup xs =>
    cases e
    obtain ⟨a, vs, rfl, ha, _⟩ := r.tuple
    rcases ha with (h | ⟨o, h⟩) | ⟨o, its, n, h1, h2, h3, _⟩
    · exact .base (.tup h)
    · exact .fTuple h
    · exact .kTuple h1 h2
  | lst xs =>
    cases e
    obtain ⟨a, vs, rfl, ha, _⟩ := r.list
    exact .base (.lst ha)
  | dct xs =>
    cases e
    simp only [Rep] at r
    obtain ⟨a, vs, rfl, ha, _⟩ := r
    exact .base (.dK ha)
  | _ => cases e
theorem own_ty {c : Str} {C : Addr} {fs : List (Str × D)} {v : V} (O : OwnC K mg c C) (r : Rep ⟨K, mg, p⟩ H (.ins c fs) v) : TyX K H v (.ref C) := by
  simp only [Rep] at r
  obtain ⟨a, cl, dx, vs, rfl, e, ha, _⟩ := r
  rw [O.mg] at e
  cases e
  exact .base (.ins ha O.cl O.ha O.hn O.htk O.hm)
end
/-- isinstance(x, n) for a built-in class n; cs: the own classes that may come -/
def isTy (cs : List Str) (n : String) : D → Option D
  | .ins c _ => if cs.contains c then some (.bl false) else none
  | .scr _ => none
  | .hnd => none
  | d => some (.bl (isB n d))
/-- isinstance(x, C) for an own class -/
def isOwn (cs : List Str) (c : Str) : D → Option D
  | .ins c' _ => if c' = c then some (.bl true) else if cs.contains c' then some (.bl false) else none
  | .scr _ => none
  | .hnd => none
  | _ => some (.bl false)
/-- the own classes of a text -/
structure Owns (K : PySem.W.Frag) (mg : Str → Option Value) (cs : List Str) : Prop where
  at_ : ∀ c ∈ cs, ∃ C, OwnC K mg c C
  apart : ∀ c ∈ cs, ∀ c' ∈ cs, c ≠ c' → ∀ C C', mg c = some (.ref C) → mg c' = some (.ref C') → PySem.W.kitOne K (.ref C) (.ref C') = some false
section
variable {X : Cx} {E : XK} {e a b c : Expr} {es : List Expr} {fa fb fc : EM} {fr : AM} {pos : Pos}
theorem kind_some {d : D} (h1 : ∀ c fs, d ≠ .ins c fs) (h2 : ∀ xs, d ≠ .scr xs) (h3 : d ≠ .hnd) : ∃ k, kindOf d = some k ∧ k ∈ kinds := by
  cases d <;> first | exact ⟨_, rfl, by decide⟩ | exact absurd rfl (h1 _ _) | exact absurd rfl (h2 _) | exact absurd rfl h3
theorem isB_eq {d : D} {k n : String} (hk : kindOf d = some k) (hn : n ∈ tyNames) : isB n d = (k == n || (k == "bool" && n == "int")) := by
  have : n = "int" ∨ n = "bool" ∨ n = "tuple" ∨ n = "list" ∨ n = "str" := by simpa [tyNames] using hn
  cases d <;> cases hk <;> rcases this with rfl | rfl | rfl | rfl | rfl <;> rfl
theorem self_kit {K : PySem.W.Frag} {C : Addr} : PySem.W.kitOne K (.ref C) (.ref C) = some true := by
  unfold PySem.W.kitOne
  rw [if_pos (by simp)]
theorem OwnC.nots {K : PySem.W.Frag} {mg : Str → Option Value} {c : Str} {C : Addr} (O : OwnC K mg c C) {n : String} (hn : n ∈ tyNames) : PySem.W.kitOne K (.ref C) (.type n) = some false := by
  have : n = "int" ∨ n = "bool" ∨ n = "tuple" ∨ n = "list" ∨ n = "str" := by simpa [tyNames] using hn
  rcases this with rfl | rfl | rfl | rfl | rfl
  · exact O.n1
  · exact O.n2
  · exact O.n3
  · exact O.n4
  · exact O.n5
theorem OwnC.others {K : PySem.W.Frag} {mg : Str → Option Value} {c : Str} {C : Addr} (O : OwnC K mg c C) {k : String} (hk : k ∈ kinds) : PySem.W.kitOne K (.type k) (.ref C) = some false := by
  have : k = "NoneType" ∨ k = "bool" ∨ k = "int" ∨ k = "str" ∨ k = "tuple" ∨ k = "list" ∨ k = "dict" := by simpa [kinds] using hk
  rcases this with rfl | rfl | rfl | rfl | rfl | rfl | rfl
  · exact O.o0
  · exact O.o2
  · exact O.o1
  · exact O.o5
  · exact O.o3
  · exact O.o4
  · exact O.o6
/-- what isinstance of one class answers -/
theorem kit_isTys {cs : List Str} (O : Owns X.K X.mg cs) {p : Option Addr} {H : Hp} {d : D} {v : V} {n₀ : String} {z : D} (r : Rep (Kc X p) H d v) (e₀ : isTy cs n₀ d = some z) : ∃ t, TyX X.K H v t ∧ ∀ n ∈ tyNames, ∀ b, isTy cs n d = some (.bl b) → PySem.W.kitOne X.K t (.type n) = some b := by
  by_cases h : ∃ c fs, d = .ins c fs
  · obtain ⟨c, fs, rfl⟩ := h
    simp only [isTy] at e₀
    split at e₀
    · rename_i hc
      obtain ⟨C, o⟩ := O.at_ c (by simpa using hc)
      refine ⟨_, own_ty o r, fun n hn b e => ?_⟩
      simp only [isTy] at e
      rw [if_pos hc] at e
      cases e
      exact o.nots hn
    · cases e₀
  · have h1 : ∀ c fs, d ≠ .ins c fs := fun c fs z => h ⟨c, fs, z⟩
    have h2 : ∀ xs, d ≠ .scr xs := fun xs z => by subst z; cases e₀
    have h3 : d ≠ .hnd := fun z => by subst z; cases e₀
    obtain ⟨k, hk, hm⟩ := kind_some h1 h2 h3
    refine ⟨_, rep_ty r hk, fun n hn b e => kit_ty ?_⟩
    rw [kit_table k hm n hn, ← isB_eq hk hn]
    cases d <;> first | (cases e; rfl) | exact absurd rfl (h1 _ _) | exact absurd rfl (h2 _) | exact absurd rfl h3
theorem kit_isTy {cs : List Str} (O : Owns X.K X.mg cs) {p : Option Addr} {H : Hp} {d : D} {v : V} {n : String} {b : Bool} (hn : n ∈ tyNames) (r : Rep (Kc X p) H d v) (e : isTy cs n d = some (.bl b)) : ∃ t, TyX X.K H v t ∧ PySem.W.kitOne X.K t (.type n) = some b := by
  obtain ⟨t, h1, h2⟩ := kit_isTys O r e
  exact ⟨t, h1, h2 n hn b e⟩
theorem kit_isOwn {cs : List Str} (O : Owns X.K X.mg cs) {p : Option Addr} {H : Hp} {d : D} {v : V} {c : Str} {C : Addr} {b : Bool} (hc : c ∈ cs) (hC : X.mg c = some (.ref C)) (r : Rep (Kc X p) H d v) (e : isOwn cs c d = some (.bl b)) : ∃ t, TyX X.K H v t ∧ PySem.W.kitOne X.K t (.ref C) = some b := by
  obtain ⟨C0, o⟩ := O.at_ c hc
  have e0 := o.mg
  rw [hC] at e0
  cases e0
  by_cases h : ∃ c fs, d = .ins c fs
  · obtain ⟨c', fs, rfl⟩ := h
    simp only [isOwn] at e
    split at e
    · rename_i hcc
      cases e
      subst hcc
      exact ⟨_, own_ty o r, self_kit⟩
    · rename_i hcc
      split at e
      · rename_i hc'
        cases e
        have hc' : c' ∈ cs := by simpa using hc'
        obtain ⟨C', o'⟩ := O.at_ c' hc'
        exact ⟨_, own_ty o' r, O.apart c' hc' c hc hcc C' C o'.mg hC⟩
      · cases e
  · have h1 : ∀ c fs, d ≠ .ins c fs := fun c fs z => h ⟨c, fs, z⟩
    have h2 : ∀ xs, d ≠ .scr xs := fun xs z => by subst z; cases e
    have h3 : d ≠ .hnd := fun z => by subst z; cases e
    obtain ⟨k, hk, hm⟩ := kind_some h1 h2 h3
    refine ⟨_, rep_ty r hk, ?_⟩
    rw [o.others hm]
    cases d <;> first | (cases e; rfl) | exact absurd rfl (h1 _ _) | exact absurd rfl (h2 _) | exact absurd rfl h3
theorem isTy_bl {cs : List Str} {n : String} {d z : D} (e : isTy cs n d = some z) : ∃ b, z = .bl b := by
  cases d with
  | ins c fs => simp only [isTy] at e; split at e <;> cases e; exact ⟨_, rfl⟩
  | scr xs => cases e
  | hnd => cases e
  | _ => cases e; exact ⟨_, rfl⟩
theorem isOwn_bl {cs : List Str} {n : Str} {d z : D} (e : isOwn cs n d = some z) : ∃ b, z = .bl b := by
  cases d with
  | ins c fs =>
    simp only [isOwn] at e
    split at e
    · cases e; exact ⟨_, rfl⟩
    · split at e <;> cases e; exact ⟨_, rfl⟩
  | scr xs => cases e
  | hnd => cases e
  | _ => cases e; exact ⟨_, rfl⟩
variable {x : Str} {pp pn : Pos}
/-- isinstance(e, T), T a built-in class -/
theorem de_isi {cs : List Str} (O : Owns X.K X.mg cs) {n : String} {y : Str} (hgI : Gl X "isinstance") (hmI : X.mg "isinstance" = none) (hg : Gl X y) (hm : X.mg y = none) (hv : bootBuiltins y = some (.type n)) (hn : n ∈ tyNames) (ha : DE X E e fa)
    (hy : y ≠ "__name__" := by decide) (hy2 : (y == ("__debug__" : Str)) = false := by decide)
    (he : starEach [e, .Name y pn] X.env = (false, eval e X.env) :: starEach [.Name y pn] X.env := by rfl) (hs1 : starEach [.Name y pn] X.env = (false, eval (.Name y pn) X.env) :: starEach [] X.env := by rfl) (hpl : (backTo pos (starEach [.Name y pn] X.env)).any (·.1) = false := by rfl) :
    DE X E (.Call (.Name "isinstance" pp) [e, .Name y pn] [] pos) (e_un (isTy cs n) fa) := by
  obtain ⟨ta, pa, qa⟩ := ha
  refine ⟨_, pe_callB call_isi hgI hmI boot_isinstance (pa_cons pa (pa_cons (pe_bltn (v := .ty n) hg hm hv rfl hy hy2) pa_nil hs1) he) (by decide) (by decide) he hpl, fun p Ho Hi H0 H ρ hs σ Q S hp => ?_⟩
  refine qa p Ho Hi H0 H ρ hs σ _ S (hp.bind fun d h1 K0 K v x rv hp => ?_)
  obtain ⟨z, ez, hp⟩ := hp.lift
  obtain ⟨b, rfl⟩ := isTy_bl ez
  obtain ⟨t, ty, kt⟩ := kit_isTy O hn (rv.mono x.st.sub _ _) ez
  exact ⟨v, .ty n, t, _, b, rfl, .ty n, ty, kt, hp.ok x.st (rep_bl.mpr rfl)⟩
/-- isinstance(e, C), C an own class -/
theorem de_isiC {cs : List Str} (O : Owns X.K X.mg cs) {C : Addr} {y : Str} (hgI : Gl X "isinstance") (hmI : X.mg "isinstance" = none) (hg : Gl X y) (hm : X.mg y = some (.ref C)) (hn : y ∈ cs) (ha : DE X E e fa)
    (hy2 : (y == ("__debug__" : Str)) = false := by decide)
    (he : starEach [e, .Name y pn] X.env = (false, eval e X.env) :: starEach [.Name y pn] X.env := by rfl) (hs1 : starEach [.Name y pn] X.env = (false, eval (.Name y pn) X.env) :: starEach [] X.env := by rfl) (hpl : (backTo pos (starEach [.Name y pn] X.env)).any (·.1) = false := by rfl) :
    DE X E (.Call (.Name "isinstance" pp) [e, .Name y pn] [] pos) (e_un (isOwn cs y) fa) := by
  obtain ⟨ta, pa, qa⟩ := ha
  refine ⟨_, pe_callB call_isi hgI hmI boot_isinstance (pa_cons pa (pa_cons (pe_glob (v := .ref C) hg hm rfl hy2) pa_nil hs1) he) (by decide) (by decide) he hpl, fun p Ho Hi H0 H ρ hs σ Q S hp => ?_⟩
  refine qa p Ho Hi H0 H ρ hs σ _ S (hp.bind fun d h1 K0 K v x rv hp => ?_)
  obtain ⟨z, ez, hp⟩ := hp.lift
  obtain ⟨b, rfl⟩ := isOwn_bl ez
  obtain ⟨t, ty, kt⟩ := kit_isOwn O hn hm (rv.mono x.st.sub _ _) ez
  exact ⟨v, .ref C, t, _, b, rfl, .own C, ty, kt, hp.ok x.st (rep_bl.mpr rfl)⟩
/-- isinstance(e, (T1, T2)), built-in classes -/
def isTy2 (cs : List Str) (n m : String) (d : D) : Option D := match isTy cs n d, isTy cs m d with
  | some (.bl a), some (.bl b) => some (.bl (a || b))
  | _, _ => none
theorem de_isi2 {cs : List Str} (O : Owns X.K X.mg cs) {n m : String} {y z : Str} {py pz : Pos} {tk} (hgI : Gl X "isinstance") (hmI : X.mg "isinstance" = none) (hg : Gl X y) (hm : X.mg y = none) (hv : bootBuiltins y = some (.type n)) (hn : n ∈ tyNames)
    (hg' : Gl X z) (hm' : X.mg z = none) (hv' : bootBuiltins z = some (.type m)) (hn' : m ∈ tyNames) (ha : DE X E e fa)
    (hy : y ≠ "__name__" := by decide) (hy2 : (y == ("__debug__" : Str)) = false := by decide) (hz : z ≠ "__name__" := by decide) (hz2 : (z == ("__debug__" : Str)) = false := by decide)
    (he : starEach [e, .Tuple [.Name y py, .Name z pz] tk pn] X.env = (false, eval e X.env) :: starEach [.Tuple [.Name y py, .Name z pz] tk pn] X.env := by rfl)
    (hs1 : starEach [.Tuple [.Name y py, .Name z pz] tk pn] X.env = (false, eval (.Tuple [.Name y py, .Name z pz] tk pn) X.env) :: starEach [] X.env := by rfl)
    (hs2 : starEach [.Name y py, .Name z pz] X.env = (false, eval (.Name y py) X.env) :: starEach [.Name z pz] X.env := by rfl)
    (hs3 : starEach [.Name z pz] X.env = (false, eval (.Name z pz) X.env) :: starEach [] X.env := by rfl)
    (hpl : (backTo pos (starEach [.Tuple [.Name y py, .Name z pz] tk pn] X.env)).any (·.1) = false := by rfl) :
    DE X E (.Call (.Name "isinstance" pp) [e, .Tuple [.Name y py, .Name z pz] tk pn] [] pos) (e_un (isTy2 cs n m) fa) := by
  obtain ⟨ta, pa, qa⟩ := ha
  refine ⟨_, pe_callB call_isiT hgI hmI boot_isinstance (pa_cons pa (pa_cons (pe_tup (pa_cons (pe_bltn (v := .ty n) hg hm hv rfl hy hy2) (pa_cons (pe_bltn (v := .ty m) hg' hm' hv' rfl hz hz2) pa_nil hs3) hs2)) pa_nil hs1) he) (by decide) (by decide) he hpl, fun p Ho Hi H0 H ρ hs σ Q S hp => ?_⟩
  refine qa p Ho Hi H0 H ρ hs σ _ S (hp.bind fun d h1 K0 K v x rv hp => ?_)
  obtain ⟨w, ew, hp⟩ := hp.lift
  unfold isTy2 at ew
  split at ew
  · rename_i b1 b2 e1 e2
    cases ew
    refine ⟨by show 2 ≤ sizeLine; rw [sizeLine_eq]; omega, fun q hq => ?_⟩
    have x2 := x.st.alloc (o := .tup [.ty n, .ty m]) hq
    have rv2 := (rv.mono x2.sub0 _ _).mono x2.st.sub _ _
    obtain ⟨t, ty, kk⟩ := kit_isTys O rv2 e1
    have kt := kk n hn _ e1
    have same := kk m hn' _ e2
    refine ⟨v, q, _, t, [.type n, .type m], b1 || b2, rfl, upd_same, .cons (.ty n) (.cons (.ty m) .nil), ty, kitAny_cons kt (fun hb => ?_) (fun hb => by rw [hb]; rfl), hp _ _ _ x2 (rep_bl.mpr rfl)⟩
    subst hb
    exact kitAny_cons same (fun hb => by subst hb; rfl) (fun hb => by subst hb; rfl)
  · cases ew
end
end DL

namespace DL
open PySem PySem.Spec L2
open PyProof.Rows hiding St
section
variable {X : Cx} {E : XK} {e a b c : Expr} {es : List Expr} {fa fb fc : EM} {fr : AM} {pos pp : Pos} {x : Str}

/-! ### built-in calls -/
theorem de_app {t : TE} {ta : TA} {r : List V → Hp → VK → Prop} {g : List D → Option D} (h : PA X es ta → PE X e (fun σ H Q => ta σ H fun vs H1 => r vs H1 Q)) (hg : OpN X r g) (ha : DA X E es fr) : True := trivial
theorem de_callB {id : String} {r : List V → Hp → VK → Prop} {g : List D → Option D} (hc : CallR X (.builtin id) r) (hgo : OpN X r g) (hg : Gl X x) (hm : X.mg x = none) (hv : bootBuiltins x = some (.builtin id)) (ha : DA X E (e :: es) fr) (hn : x ≠ "__name__" := by decide) (hdb : (x == ("__debug__" : Str)) = false := by decide)
    (he : starEach (e :: es) X.env = (false, eval e X.env) :: starEach es X.env := by rfl) (hpl : (backTo pos (starEach es X.env)).any (·.1) = false := by rfl) : DE X E (.Call (.Name x pp) (e :: es) [] pos) (e_app g fr) := by
  obtain ⟨ta, pa, qa⟩ := ha
  refine ⟨_, pe_callB hc hg hm hv pa hn hdb he hpl, fun p Ho Hi H0 H ρ hs σ Q S hp => ?_⟩
  refine qa p Ho Hi H0 H ρ hs σ _ S (hp.bind fun d h1 K0 K v x rv hp => ?_)
  obtain ⟨z, ez, hp⟩ := hp.lift
  exact hgo p K0 K h1 d z v Q x.st rv ez hp
theorem de_callTy {T : String} {r : List V → Hp → VK → Prop} {g : List D → Option D} (hc : CallR X (.type T) r) (hgo : OpN X r g) (hg : Gl X x) (hm : X.mg x = none) (hv : bootBuiltins x = some (.type T)) (ha : DA X E (e :: es) fr) (hn : x ≠ "__name__" := by decide) (hdb : (x == ("__debug__" : Str)) = false := by decide)
    (he : starEach (e :: es) X.env = (false, eval e X.env) :: starEach es X.env := by rfl) (hpl : (backTo pos (starEach es X.env)).any (·.1) = false := by rfl) : DE X E (.Call (.Name x pp) (e :: es) [] pos) (e_app g fr) := by
  obtain ⟨ta, pa, qa⟩ := ha
  refine ⟨_, pe_callTy hc hg hm hv pa hn hdb he hpl, fun p Ho Hi H0 H ρ hs σ Q S hp => ?_⟩
  refine qa p Ho Hi H0 H ρ hs σ _ S (hp.bind fun d h1 K0 K v x rv hp => ?_)
  obtain ⟨z, ez, hp⟩ := hp.lift
  exact hgo p K0 K h1 d z v Q x.st rv ez hp
def on1 (g : D → Option D) : List D → Option D
  | [x] => g x
  | _ => none
def on2 (g : D → D → Option D) : List D → Option D
  | [x, y] => g x y
  | _ => none
theorem OpN.one {r : List V → Hp → VK → Prop} {g : D → Option D} (h : ∀ (p : Option Addr) (H0 H : Hp) (hs : List D) (x d : D) (vx : V) (Q : VK), Stt (Kc X p) H0 H hs → Rep (Kc X p) H0 x vx → g x = some d → (∀ H0' H' v, Ext (Kc X p) H0 H H0' H' hs → Rep (Kc X p) H0' d v → Q v H') → r [vx] H Q) : OpN X r (on1 g) := by
  intro p H0 H hs xs d vs Q s r e q
  match xs, e with
  | [x], e =>
    obtain ⟨v, w, rfl, h1, h2⟩ := r.cons_inv
    rw [h2.nil_inv]
    exact h p H0 H hs x d v Q s h1 e q
theorem OpN.two {r : List V → Hp → VK → Prop} {g : D → D → Option D} (h : ∀ (p : Option Addr) (H0 H : Hp) (hs : List D) (x y d : D) (vx vy : V) (Q : VK), Stt (Kc X p) H0 H hs → Rep (Kc X p) H0 x vx → Rep (Kc X p) H0 y vy → g x y = some d → (∀ H0' H' v, Ext (Kc X p) H0 H H0' H' hs → Rep (Kc X p) H0' d v → Q v H') → r [vx, vy] H Q) : OpN X r (on2 g) := by
  intro p H0 H hs xs d vs Q s r e q
  match xs, e with
  | [x, y], e =>
    obtain ⟨v, w, rfl, h1, h2⟩ := r.cons_inv
    obtain ⟨v', w', rfl, h3, h4⟩ := h2.cons_inv
    rw [h4.nil_inv]
    exact h p H0 H hs x y d v v' Q s h1 h3 e q
def lenD : D → Option D
  | .tup xs => some (.int xs.length)
  | .lst xs => some (.int xs.length)
  | .scr xs => some (.int xs.length)
  | .str z => if z.length ≤ 16777216 then some (.int z.length) else none
  | _ => none
theorem og_len : OpN X (fun xs H Q => ∃ x n, xs = [x] ∧ LenV X.K x H n ∧ Q (.int n) H) (on1 lenD) := .one fun p H0 H hs x d vx Q s rx e q => by
  cases x with
  | tup xs =>
    cases e
    obtain ⟨a, vs, rfl, ha, r⟩ := rx.tuple
    exact ⟨_, xs.length, rfl, .inr ⟨vs, Same.seqT s.sub ha, r.length.symm⟩, q H0 H _ s.ext (rep_int.mpr rfl)⟩
  | lst xs =>
    cases e
    obtain ⟨a, vs, rfl, ha, r⟩ := rx.list
    exact ⟨_, xs.length, rfl, .inl ⟨vs, SqL.of (s.sub _ _ ha), r.length.symm⟩, q H0 H _ s.ext (rep_int.mpr rfl)⟩
  | scr xs =>
    cases e
    simp only [Rep] at rx
    obtain ⟨a, vs, rfl, ha, r⟩ := rx
    exact ⟨_, xs.length, rfl, .inl ⟨vs, s.sub.seq ha, r.length.symm⟩, q H0 H _ s.ext (rep_int.mpr rfl)⟩
  | str z =>
    simp only [lenD] at e
    split at e
    · rename_i hz
      cases e
      rw [rep_str] at rx
      subst rx
      exact ⟨_, z.length, rfl, ⟨by rw [sizeLine_eq]; exact hz, rfl⟩, q H0 H _ s.ext (rep_int.mpr rfl)⟩
    · cases e
  | _ => cases e
def intD : D → Option D
  | .int i => some (.int i)
  | .bl b => some (.int (if b then 1 else 0))
  | _ => none
theorem og_int : OpN X (fun xs H Q => (∃ i, xs = [.int i] ∧ Q (.int i) H) ∨ ∃ k, xs = [.bl k] ∧ Q (.int (if k then 1 else 0)) H) (on1 intD) := .one fun p H0 H hs x d vx Q s rx e q => by
  cases x with
  | int i =>
    cases e
    rw [rep_int] at rx; subst rx
    exact .inl ⟨i, rfl, q H0 H _ s.ext (rep_int.mpr rfl)⟩
  | bl i =>
    cases e
    rw [rep_bl] at rx; subst rx
    exact .inr ⟨i, rfl, q H0 H _ s.ext (rep_int.mpr rfl)⟩
  | _ => cases e
def absD : D → Option D
  | .int i => some (.int (if i < 0 then -i else i))
  | _ => none
theorem og_abs : OpN X (fun xs H Q => ∃ i, xs = [.int i] ∧ Q (.int (if i < 0 then -i else i)) H) (on1 absD) := .one fun p H0 H hs x d vx Q s rx e q => by
  cases x with
  | int i =>
    cases e
    rw [rep_int] at rx; subst rx
    exact ⟨i, rfl, q H0 H _ s.ext (rep_int.mpr rfl)⟩
  | _ => cases e
def min2D : D → D → Option D
  | .int i, .int j => some (.int (if j < i then j else i))
  | _, _ => none
def max2D : D → D → Option D
  | .int i, .int j => some (.int (if j > i then j else i))
  | _, _ => none
theorem og_min2 : OpN X (fun xs H Q => ∃ i j, xs = [.int i, .int j] ∧ Q (.int (if j < i then j else i)) H) (on2 min2D) := .two fun p H0 H hs x y d vx vy Q s rx ry e q => by
  cases x <;> cases y <;> cases e
  rw [rep_int] at rx ry
  subst rx ry
  exact ⟨_, _, rfl, q H0 H _ s.ext (rep_int.mpr rfl)⟩
theorem og_max2 : OpN X (fun xs H Q => ∃ i j, xs = [.int i, .int j] ∧ Q (.int (if j > i then j else i)) H) (on2 max2D) := .two fun p H0 H hs x y d vx vy Q s rx ry e q => by
  cases x <;> cases y <;> cases e
  rw [rep_int] at rx ry
  subst rx ry
  exact ⟨_, _, rfl, q H0 H _ s.ext (rep_int.mpr rfl)⟩
/-- a list of toInts, of toBools -/
def toInts : List D → Option (List Int)
  | [] => some []
  | .int i :: r => (toInts r).map (i :: ·)
  | _ => none
def toBools : List D → Option (List Bool)
  | [] => some []
  | .bl i :: r => (toBools r).map (i :: ·)
  | _ => none
theorem toInts_map : ∀ ns : List Int, toInts (ns.map D.int) = some ns
  | [] => rfl
  | n :: r => by simp only [List.map_cons, toInts, toInts_map r, Option.map_some]
theorem toBools_map : ∀ ns : List Bool, toBools (ns.map D.bl) = some ns
  | [] => rfl
  | n :: r => by simp only [List.map_cons, toBools, toBools_map r, Option.map_some]
theorem ints_rep {C : Kx} {H : Hp} : ∀ {ds : List D} {ns : List Int} {vs : List V}, toInts ds = some ns → Reps C H ds vs → vs = ns.map V.int
  | [], ns, vs, e, r => by cases e; rw [r.nil_inv]; rfl
  | d :: ds, ns, vs, e, r => by
    cases d <;> simp only [toInts] at e <;> try cases e
    obtain ⟨v, w, rfl, h1, h2⟩ := r.cons_inv
    obtain ⟨ms, e1, rfl⟩ := Option.map_eq_some_iff.mp e
    rw [rep_int] at h1
    rw [h1, ints_rep e1 h2]; rfl
theorem bools_rep {C : Kx} {H : Hp} : ∀ {ds : List D} {ns : List Bool} {vs : List V}, toBools ds = some ns → Reps C H ds vs → vs = ns.map V.bl
  | [], ns, vs, e, r => by cases e; rw [r.nil_inv]; rfl
  | d :: ds, ns, vs, e, r => by
    cases d <;> simp only [toBools] at e <;> try cases e
    obtain ⟨v, w, rfl, h1, h2⟩ := r.cons_inv
    obtain ⟨ms, e1, rfl⟩ := Option.map_eq_some_iff.mp e
    rw [rep_bl] at h1
    rw [h1, bools_rep e1 h2]; rfl
/-! sum -/
theorem sum_rawT {prog : Program} {w : World} {A : Around} {E : Value → Shared → Prop} {s : Shared} {l : Addr} {its : List Value} {ns : List Int} {Q : Value → Shared → Prop} (hh : A.handled = none) (hl : s.heap.IsTuple l its.toArray) (hi : IntsAre its ns)
    (h : ∀ h' tk t', (∀ b o, s.heap.get? b = some o → h'.get? b = some o) → Q (.int ns.sum t') { s with heap := h', toks := tk }) : wpAny (model prog w) A (call (.builtin "sum") [.ref l]) Q E s := by
  obtain ⟨xs, e⟩ := hi.allInts.items
  have hn : numsOf (intItems xs).toList = ns := by rw [← e]; exact hi.numsOf
  rw [nums_intItems] at hn
  rw [e] at hl
  have hlt : l < s.heap.objs.size := by obtain ⟨_, e, _⟩ := hl; exact Heap.lt_size e
  refine call_sum_walkG (wpAny_pyIter_tuple hl ⟨s.heap.objs.size, _, _, _, _, _, numAt xs, rfl, Walks.tuple (A := A.in1) hh _ l (Nat.ne_of_lt hlt) (intItems xs), ⟨⟨_, Heap.get?_push_size _ rfl, rfl, rfl⟩, hl.at fun o e => Heap.get?_push_of_some _ e⟩, fun b hb => ?_, (fun _ _ => intItems_at), fun h' tk t' hk => ?_⟩)
  · show b < (s.heap.push _).objs.size
    rw [Heap.size_push]
    rcases List.mem_cons.mp hb with rfl | hb
    · exact Nat.lt_succ_self _
    · rcases List.mem_cons.mp hb with rfl | hb
      · exact Nat.lt_succ_of_lt hlt
      · cases hb
  · have := h h' tk t' fun b o e => hk b o (by
      intro hb
      have : b = s.heap.objs.size := by simpa using hb
      exact absurd (this ▸ Heap.lt_size e) (Nat.lt_irrefl _)) (Heap.get?_push_of_some _ e)
    have e2 : preSum (numAt xs) (intItems xs).size = ns.sum := by
      rw [preSum_eq, List.take_of_length_le (by simp [intItems]), hn]
    rw [e2]; exact this
def rSumA (K : PySem.W.Frag) : List V → Hp → VK → Prop := fun vs H Q => rSum K vs H Q ∨ ∃ (a : Addr) (ns : List Int), vs = [V.ref a] ∧ SqT K H a (ns.map V.int) ∧ Q (.int ns.sum) H
theorem cr_sumA (hc : X.calm = true) : CallR X (.builtin "sum") (rSumA X.K) := by
  intro pins s σ H vs us Q I r h
  rcases h with h | h
  · exact cr_sum hc pins s σ H vs us Q I r h
  · obtain ⟨a, ns, rfl, hs, q⟩ := h
    obtain ⟨its, rv, hl, _⟩ := I.tuple hs
    rw [Vals.ref1 r]
    exact sum_rawT (I.ok.hd hc) (show s.heap.IsTuple a its.toArray from hl) rv.ints fun h' tk t' hk => ⟨.int _, H, I.kept hk, ⟨_, rfl⟩, q⟩
def sumD : D → Option D
  | .lst xs => (toInts xs).map fun ns => .int ns.sum
  | .tup xs => (toInts xs).map fun ns => .int ns.sum
  | _ => none
theorem og_sum : OpN X (rSumA X.K) (on1 sumD) := .one fun p H0 H hs x d vx Q s rx e q => by
  cases x with
  | tup xs =>
    obtain ⟨ns, e1, rfl⟩ := Option.map_eq_some_iff.mp e
    obtain ⟨a, vs, rfl, ha, r⟩ := rx.tuple
    have := ints_rep e1 r
    subst this
    exact .inr ⟨a, ns, rfl, Same.seqT s.sub ha, q H0 H _ s.ext (rep_int.mpr rfl)⟩
  | lst xs =>
    obtain ⟨ns, e1, rfl⟩ := Option.map_eq_some_iff.mp e
    obtain ⟨a, vs, rfl, ha, r⟩ := rx.list
    have := ints_rep e1 r
    subst this
    exact .inl ⟨a, ns, rfl, SqL.of (s.sub _ _ ha), q H0 H _ s.ext (rep_int.mpr rfl)⟩
  | _ => cases e
/-! all, any, max, min of lists -/
def allD : D → Option D
  | .lst xs => (toBools xs).map fun ns => .bl (ns.all id)
  | _ => none
def anyD : D → Option D
  | .lst xs => (toBools xs).map fun ns => .bl (ns.any id)
  | _ => none
theorem og_all : OpN X (rAll X.K) (on1 allD) := .one fun p H0 H hs x d vx Q s rx e q => by
  cases x with
  | lst xs =>
    obtain ⟨ns, e1, rfl⟩ := Option.map_eq_some_iff.mp e
    obtain ⟨a, vs, rfl, ha, r⟩ := rx.list
    have := bools_rep e1 r
    subst this
    exact ⟨a, ns, rfl, SqL.of (s.sub _ _ ha), q H0 H _ s.ext (rep_bl.mpr rfl)⟩
  | _ => cases e
theorem og_any : OpN X (rAny X.K) (on1 anyD) := .one fun p H0 H hs x d vx Q s rx e q => by
  cases x with
  | lst xs =>
    obtain ⟨ns, e1, rfl⟩ := Option.map_eq_some_iff.mp e
    obtain ⟨a, vs, rfl, ha, r⟩ := rx.list
    have := bools_rep e1 r
    subst this
    exact ⟨a, ns, rfl, SqL.of (s.sub _ _ ha), q H0 H _ s.ext (rep_bl.mpr rfl)⟩
  | _ => cases e
def maxL : List Int → Option Int
  | [] => none
  | x :: r => match maxL r with | none => some x | some y => some (if x < y then y else x)
def minL : List Int → Option Int
  | [] => none
  | x :: r => match minL r with | none => some x | some y => some (if y < x then y else x)
theorem maxL_spec : ∀ {ns : List Int} {m : Int}, maxL ns = some m → m ∈ ns ∧ ∀ y ∈ ns, y ≤ m
  | [], m, e => by cases e
  | x :: r, m, e => by
    simp only [maxL] at e
    cases h : maxL r with
    | none =>
      rw [h] at e; cases e
      cases r with
      | nil => simp
      | cons z r => simp only [maxL] at h; split at h <;> cases h
    | some y =>
      rw [h] at e; cases e
      obtain ⟨h1, h2⟩ := maxL_spec h
      by_cases hxy : x < y
      · rw [if_pos hxy]
        refine ⟨List.mem_cons_of_mem _ h1, fun z hz => ?_⟩
        rcases List.mem_cons.mp hz with rfl | hz
        · omega
        · exact h2 z hz
      · rw [if_neg hxy]
        refine ⟨List.mem_cons_self, fun z hz => ?_⟩
        rcases List.mem_cons.mp hz with rfl | hz
        · omega
        · have := h2 z hz; omega
theorem minL_spec : ∀ {ns : List Int} {m : Int}, minL ns = some m → m ∈ ns ∧ ∀ y ∈ ns, m ≤ y
  | [], m, e => by cases e
  | x :: r, m, e => by
    simp only [minL] at e
    cases h : minL r with
    | none =>
      rw [h] at e; cases e
      cases r with
      | nil => simp
      | cons z r => simp only [minL] at h; split at h <;> cases h
    | some y =>
      rw [h] at e; cases e
      obtain ⟨h1, h2⟩ := minL_spec h
      by_cases hxy : y < x
      · rw [if_pos hxy]
        refine ⟨List.mem_cons_of_mem _ h1, fun z hz => ?_⟩
        rcases List.mem_cons.mp hz with rfl | hz
        · omega
        · exact h2 z hz
      · rw [if_neg hxy]
        refine ⟨List.mem_cons_self, fun z hz => ?_⟩
        rcases List.mem_cons.mp hz with rfl | hz
        · omega
        · have := h2 z hz; omega
theorem maxL_uniq {ns : List Int} {m k : Int} (e : maxL ns = some m) (h1 : k ∈ ns) (h2 : ∀ y ∈ ns, y ≤ k) : k = m := by
  obtain ⟨a, b⟩ := maxL_spec e
  have := h2 m a
  have := b k h1
  omega
theorem minL_uniq {ns : List Int} {m k : Int} (e : minL ns = some m) (h1 : k ∈ ns) (h2 : ∀ y ∈ ns, k ≤ y) : k = m := by
  obtain ⟨a, b⟩ := minL_spec e
  have := h2 m a
  have := b k h1
  omega
def maxD : D → Option D
  | .lst xs => (toInts xs).bind fun ns => (maxL ns).map .int
  | _ => none
def minD : D → Option D
  | .lst xs => (toInts xs).bind fun ns => (minL ns).map .int
  | _ => none
theorem og_max : OpN X (rMax X.K) (on1 maxD) := .one fun p H0 H hs x d vx Q s rx e q => by
  cases x with
  | lst xs =>
    obtain ⟨ns, e1, e2⟩ := Option.bind_eq_some_iff.mp e
    obtain ⟨m, e3, rfl⟩ := Option.map_eq_some_iff.mp e2
    obtain ⟨a, vs, rfl, ha, r⟩ := rx.list
    have := ints_rep e1 r
    subst this
    refine ⟨a, ns, rfl, SqL.of (s.sub _ _ ha), ?_, fun k h1 h2 => ?_⟩
    · cases ns with
      | nil => cases e2
      | cons _ _ => exact Nat.succ_pos _
    · rw [maxL_uniq e3 h1 h2]
      exact q H0 H _ s.ext (rep_int.mpr rfl)
  | _ => cases e
theorem og_min : OpN X (rMin X.K) (on1 minD) := .one fun p H0 H hs x d vx Q s rx e q => by
  cases x with
  | lst xs =>
    obtain ⟨ns, e1, e2⟩ := Option.bind_eq_some_iff.mp e
    obtain ⟨m, e3, rfl⟩ := Option.map_eq_some_iff.mp e2
    obtain ⟨a, vs, rfl, ha, r⟩ := rx.list
    have := ints_rep e1 r
    subst this
    refine ⟨a, ns, rfl, SqL.of (s.sub _ _ ha), ?_, fun k h1 h2 => ?_⟩
    · cases ns with
      | nil => cases e2
      | cons _ _ => exact Nat.succ_pos _
    · rw [minL_uniq e3 h1 h2]
      exact q H0 H _ s.ext (rep_int.mpr rfl)
  | _ => cases e
/-! tuple(x), list(x) -/
def tupleD : D → Option D
  | .lst xs => some (.tup xs)
  | .tup xs => some (.tup xs)
  | _ => none
def listD : D → Option D
  | .lst xs => some (.lst xs)
  | .tup xs => some (.lst xs)
  | _ => none
theorem og_tuple : OpN X (fun xs H Q => ∃ p ys, xs = [.ref p] ∧ ((SqL X.K H p ys ∧ ∀ l, H l = none → Q (.ref l) (upd H l (.tup ys))) ∨ (SqT X.K H p ys ∧ Q (.ref p) H))) (on1 tupleD) := .one fun p H0 H hs x d vx Q s rx e q => by
  cases x with
  | tup xs =>
    cases e
    obtain ⟨a, vs, rfl, ha, r⟩ := rx.tuple
    exact ⟨a, vs, rfl, .inr ⟨Same.seqT s.sub ha, q H0 H _ s.ext (by simp only [Rep]; exact ⟨a, vs, rfl, ha, r⟩)⟩⟩
  | lst xs =>
    cases e
    obtain ⟨a, vs, rfl, ha, r⟩ := rx.list
    exact ⟨a, vs, rfl, .inl ⟨SqL.of (s.sub _ _ ha), new_tup s r q⟩⟩
  | _ => cases e
theorem og_list : OpN X (fun xs H Q => ∃ p ys, xs = [.ref p] ∧ (SqL X.K H p ys ∨ SqT X.K H p ys) ∧ ∀ l, H l = none → Q (.ref l) (upd H l (.lst ys))) (on1 listD) := .one fun p H0 H hs x d vx Q s rx e q => by
  cases x with
  | tup xs =>
    cases e
    obtain ⟨a, vs, rfl, ha, r⟩ := rx.tuple
    exact ⟨a, vs, rfl, .inr (Same.seqT s.sub ha), new_lst s r q⟩
  | lst xs =>
    cases e
    obtain ⟨a, vs, rfl, ha, r⟩ := rx.list
    exact ⟨a, vs, rfl, .inl (SqL.of (s.sub _ _ ha)), new_lst s r q⟩
  | _ => cases e

/-! ### subscripts, slices -/
def ixD : D → D → Option D
  | .tup xs, .int i => atI xs i
  | .lst xs, .int i => atI xs i
  | _, _ => none
theorem atI_rep {C : Kx} {H : Hp} {ds : List D} {vs : List V} {i : Int} {d : D} (r : Reps C H ds vs) (e : atI ds i = some d) : ∃ v, atI vs i = some v ∧ Rep C H d v := by
  unfold atI at e ⊢
  rw [r.length]
  obtain ⟨j, e1, e2⟩ := Option.bind_eq_some_iff.mp e
  obtain ⟨v, e3, h⟩ := r.get e2
  exact ⟨v, by rw [e1]; exact e3, h⟩
theorem og_ix : Op2 X (rIx X.K) ixD := by
  intro p H0 H hs x y d vx vy Q s rx ry e q
  cases x with
  | tup xs =>
    cases y <;> simp only [ixD] at e <;> try cases e
    obtain ⟨a, vs, rfl, ha, r⟩ := rx.tuple
    rw [rep_int] at ry
    obtain ⟨v, e1, h⟩ := atI_rep r e
    exact .inr (.inl ⟨a, vs, _, v, rfl, ry, Same.seqT s.sub ha, e1, q H0 H v s.ext h⟩)
  | lst xs =>
    cases y <;> simp only [ixD] at e <;> try cases e
    obtain ⟨a, vs, rfl, ha, r⟩ := rx.list
    rw [rep_int] at ry
    obtain ⟨v, e1, h⟩ := atI_rep r e
    exact .inl ⟨a, vs, _, v, rfl, ry, SqL.of (s.sub _ _ ha), e1, q H0 H v s.ext h⟩
  | _ => cases y <;> cases e
theorem de_ix (hs : PlainIx b) (ha : DE X E a fa) (hb : DE X E b fb) : DE X E (.Subscript a b pos) (e_bin ixD fa fb) := by
  obtain ⟨ta, pa, qa⟩ := ha
  obtain ⟨tb, pb, qb⟩ := hb
  refine ⟨_, pe_ix ix_seq pa pb hs, fun p Ho Hi H0 H ρ hs σ Q S hp => ?_⟩
  refine qa p Ho Hi H0 H ρ hs σ _ S (hp.bind fun d h1 K0 K v x rv hp => ?_)
  refine qb p Ho Hi K0 K ρ h1 σ _ (S.step x) (hp.bind fun d' h2 L0 L v' y rv' hp => ?_)
  obtain ⟨z, e, hp⟩ := hp.lift
  exact og_ix p L0 L h2 d d' z v v' Q y.st (rv.mono y.sub0 _ _) rv' e hp
def cutD {α : Type} (xs : List α) (lo hi : Option Int) : List α := (xs.drop (HT.sIx xs.length 0 lo)).take (HT.sIx xs.length xs.length hi - HT.sIx xs.length 0 lo)
theorem Reps.cut {C : Kx} {H : Hp} {ds : List D} {vs : List V} (r : Reps C H ds vs) (lo hi : Option Int) : Reps C H (cutD ds lo hi) (cutV vs lo hi) := by
  unfold cutD cutV
  rw [r.length]
  exact (r.drop _).take _
def sliceD (lo hi : Option Int) : D → Option D
  | .tup xs => some (.tup (cutD xs lo hi))
  | .lst xs => some (.lst (cutD xs lo hi))
  | .scr xs => some (.lst (cutD xs lo hi))
  | _ => none
def rSlAny (K : PySem.W.Frag) : V → Option Int → Option Int → Hp → VK → Prop := fun x lo hi H Q => rSlA K x lo hi H Q ∨ rSlL K x lo hi H Q
theorem sl_any : L2.SlR X (rSlAny X.K) := sl_tupA.or sl_list
theorem cut_whole {α : Type} {xs : List α} {lo hi : Option Int} (h : HT.sIx xs.length 0 lo = 0 ∧ HT.sIx xs.length xs.length hi = xs.length) : cutD xs lo hi = xs := by
  unfold cutD
  rw [h.1, h.2]
  simp
theorem og_slice {p : Option Addr} {H0 H : Hp} {hs : List D} {x d : D} {vx : V} {lo hi : Option Int} {Q : VK} (s : Stt (Kc X p) H0 H hs) (rx : Rep (Kc X p) H0 x vx) (e : sliceD lo hi x = some d)
    (q : ∀ H0' H' v, Ext (Kc X p) H0 H H0' H' hs → Rep (Kc X p) H0' d v → Q v H') : rSlAny X.K vx lo hi H Q := by
  cases x with
  | tup xs =>
    cases e
    obtain ⟨a, vs, rfl, ha, r⟩ := rx.tuple
    refine .inl ⟨a, vs, rfl, Same.seqT s.sub ha, fun hw => ?_, fun _ => new_tup s (r.cut lo hi) q⟩
    rw [r.length] at hw
    exact q H0 H _ s.ext (by rw [cut_whole hw]; simp only [Rep]; exact ⟨a, vs, rfl, ha, r⟩)
  | lst xs =>
    cases e
    obtain ⟨a, vs, rfl, ha, r⟩ := rx.list
    exact .inr ⟨a, vs, rfl, SqL.of (s.sub _ _ ha), new_lst s (r.cut lo hi) q⟩
  | scr xs =>
    cases e
    simp only [Rep] at rx
    obtain ⟨a, vs, rfl, ha, r⟩ := rx
    exact .inr ⟨a, vs, rfl, s.sub.seq ha, new_lst s (r.cut lo hi) q⟩
  | _ => cases e
/-- a part of a slice -/
abbrev OM := List Sl → List D → R (Option Int)
def D.toInt : D → Option Int | .int i => some i | _ => none
def o_none : OM := fun _ h => .ok none h
def o_some (a : EM) : OM := fun ρ h => (a ρ h).bind fun x h => (R.lift x.toInt h).bind fun i h => .ok (some i) h
def DO (X : Cx) (E : XK) (o : Option Expr) (f : OM) : Prop := ∃ t, PO X o t ∧ ∀ (p : Option Addr) (Ho : Go) (Hi H0 H : Hp) (ρ : List Sl) (hs : List D) (σ : St) (Q : Option Int → Hp → Prop),
  SR (Kc X p) Ho Hi ρ hs σ H0 H → Post (Kc X p) H0 H E (fun (a : Option Int) (_ _ : Hp) (b : Option Int) => a = b) Q (f ρ hs) → t σ H Q
theorem do_none : DO X E none o_none := ⟨_, po_none, fun p Ho Hi H0 H ρ hs σ Q S hp => hp.ok S.st rfl⟩
theorem do_some (ha : DE X E a fa) : DO X E (some a) (o_some fa) := by
  obtain ⟨ta, pa, qa⟩ := ha
  refine ⟨_, po_some pa, fun p Ho Hi H0 H ρ hs σ Q S hp => ?_⟩
  refine qa p Ho Hi H0 H ρ hs σ _ S (hp.bind fun d h1 K0 K v x rv hp => ?_)
  cases d with
  | int i => exact ⟨i, rep_int.mp rv, hp.ok x.st rfl⟩
  | _ => exact (show False from hp).elim
def e_slice (a : EM) (lo hi : OM) : EM := fun ρ h => (a ρ h).bind fun x h => (lo ρ h).bind fun l h => (hi ρ h).bind fun u h => R.lift (sliceD l u x) h
theorem de_slice {lo hi : Option Expr} {fl fh : OM} {p2 : Pos} (ha : DE X E a fa) (hl : DO X E lo fl) (hh : DO X E hi fh) : DE X E (.Subscript a (.Slice lo hi none p2) pos) (e_slice fa fl fh) := by
  obtain ⟨ta, pa, qa⟩ := ha
  obtain ⟨tl, pl, ql⟩ := hl
  obtain ⟨th, ph, qh⟩ := hh
  refine ⟨_, pe_slice sl_any pa pl ph, fun p Ho Hi H0 H ρ hs σ Q S hp => ?_⟩
  refine qa p Ho Hi H0 H ρ hs σ _ S (hp.bind fun d h1 K0 K v x rv hp => ?_)
  have S1 := S.step x
  refine ql p Ho Hi K0 K ρ h1 σ _ S1 (hp.bind (rel1 := fun (a : Option Int) (_ _ : Hp) (b : Option Int) => a = b) fun l h2 L0 L v2 x2 e2 hp => ?_)
  subst e2
  have S2 := S1.step x2
  refine qh p Ho Hi L0 L ρ h2 σ _ S2 (hp.bind (rel1 := fun (a : Option Int) (_ _ : Hp) (b : Option Int) => a = b) fun u h3 M0 M v3 x3 e3 hp => ?_)
  subst e3
  obtain ⟨z, e, hp⟩ := hp.lift
  exact og_slice x3.st ((rv.mono x2.sub0 _ _).mono x3.sub0 _ _) e hp

/-! ### an attribute of an instance -/
def fldD (cs : List Str) (f : Str) : D → Option D
  | .ins c fs => if cs.contains c then fs.lookup f else none
  | _ => none
theorem RepF.lookup {C : Kx} {H : Hp} {f : Str} {d : D} : ∀ {fs : List (Str × D)} {vs : List (Str × V)}, RepF C H fs vs → fs.lookup f = some d → ∃ v, vs.lookup f = some v ∧ Rep C H d v
  | [], vs, r, e => by cases e
  | (k, d') :: fs, vs, r, e => by
    simp only [RepF] at r
    obtain ⟨v, w, rfl, h1, h2⟩ := r
    by_cases hk : f = k
    · subst hk
      simp [List.lookup] at e
      subst e
      exact ⟨v, by simp [List.lookup], h1⟩
    · have hb : (f == k) = false := beq_eq_false_iff_ne.mpr hk
      simp only [List.lookup, hb] at e
      obtain ⟨u, e1, h⟩ := RepF.lookup h2 e
      exact ⟨u, by simp only [List.lookup, hb]; exact e1, h⟩
theorem de_fld {cs : List Str} {f : Str} (O : ∀ c ∈ cs, ∃ C, X.mg c = some (.ref C) ∧ Cls X.K C ∧ NoAttr X.K C f) (hb : attributeBase a f X.env (eval a X.env) = eval a X.env) (ha : DE X E a fa) : DE X E (.Attribute a f pos) (e_un (fldD cs f) fa) := by
  obtain ⟨ta, pa, qa⟩ := ha
  refine ⟨_, pe_fld pa hb, fun p Ho Hi H0 H ρ hs σ Q S hp => ?_⟩
  refine qa p Ho Hi H0 H ρ hs σ _ S (hp.bind fun d h1 K0 K v x rv hp => ?_)
  obtain ⟨z, ez, hp2⟩ := hp.lift
  cases d with
  | ins c fs =>
    simp only [fldD] at ez
    split at ez
    · rename_i hc
      obtain ⟨C, h1, h2, h3⟩ := O c (by simpa using hc)
      simp only [relV, Rep] at rv
      obtain ⟨a, cl, dx, vs, rfl, e1, e2, r⟩ := rv
      rw [h1] at e1
      cases e1
      obtain ⟨u, e3, h4⟩ := RepF.lookup r ez
      exact ⟨a, C, dx, vs, u, rfl, x.st.sub _ _ e2, h2, h3, e3, hp2.ok x.st h4⟩
    · cases ez
  | _ => cases ez

/-! ### calls of defs -/
/-- what a def promises: it behaves as F -/
def spD (K : PySem.W.Frag) (mg : Str → Option Value) (n : Nat) (F : List D → List D → R D) : Sp := fun vs H Q E => vs.length = n ∧ ∃ (p : Option Addr) (H0 : Hp) (ds hs : List D), Stt ⟨K, mg, p⟩ H0 H hs ∧ Reps ⟨K, mg, p⟩ H0 ds vs ∧
  Post ⟨K, mg, p⟩ H0 H E (relV ⟨K, mg, p⟩) Q (F ds hs)
theorem de_call (C : Ctx X E) {k n : Nat} {f : Addr} {fd : FuncData} {ps : List Str} {F : List D → List D → R D} (G : FnOk X.prog X.w X.K X.mg X.base (L2.CX X.prog X.w) k f fd ps (spD X.K X.mg n F)) (hr : Room k X.A) (hm : X.mg x = some (.ref f)) (hk : PySem.W.keepIn X.K (.ref f) = true) (hb : Binds X.K fd ps [])
    (ha : DA X E (e :: es) fr) (hl : LenA fr n) (hg : Gl X x := by rfl) (hdb : (x == ("__debug__" : Str)) = false := by decide) (he : starEach (e :: es) X.env = (false, eval e X.env) :: starEach es X.env := by rfl) (hpl : (backTo pos (starEach es X.env)).any (·.1) = false := by rfl) :
    DE X E (.Call (.Name x pp) (e :: es) [] pos) (e_call F fr) := by
  obtain ⟨ta, pa, qa⟩ := ha
  refine ⟨_, pe_call G hr hg hm hk hb .nil C.pass pa hdb he hpl, fun p Ho Hi H0 H ρ hs σ Q S hp => ?_⟩
  refine qa p Ho Hi H0 H ρ hs σ _ S (Post.len hl (hp.bind fun d h1 K0 K v x rv hp hn => ?_))
  refine ⟨by rw [List.append_nil]; exact hn, p, K0, d, h1, x.st, by rw [List.append_nil]; exact rv, hp⟩
end
end DL

namespace DL
open PySem PySem.Spec L2
open PyProof.Rows hiding St

/-! ### the readings by themselves -/
def tDE (K : PySem.W.Frag) (mg : Str → Option Value) (E : XK) (f : EM) : TE := fun σ H Q => ∃ (p : Option Addr) (Ho : Go) (Hi H0 : Hp) (ρ : List Sl) (hs : List D), SR ⟨K, mg, p⟩ Ho Hi ρ hs σ H0 H ∧ Post ⟨K, mg, p⟩ H0 H E (relV ⟨K, mg, p⟩) Q (f ρ hs)
def tDT (K : PySem.W.Frag) (mg : Str → Option Value) (E : XK) (f : TM) : TT := fun σ H Q => ∃ (p : Option Addr) (Ho : Go) (Hi H0 : Hp) (ρ : List Sl) (hs : List D), SR ⟨K, mg, p⟩ Ho Hi ρ hs σ H0 H ∧ Post ⟨K, mg, p⟩ H0 H E relB Q (f ρ hs)
theorem DE.pe {X : Cx} {E : XK} {e : Expr} {f : EM} (h : DE X E e f) : PE X e (tDE X.K X.mg E f) := by
  obtain ⟨t, p, q⟩ := h
  exact ⟨fun pins s σ H Q I ⟨p', Ho, Hi, H0, ρ, hs, S, hp⟩ => p.run pins s σ H Q I (q p' Ho Hi H0 H ρ hs σ Q S hp)⟩
theorem DT.pt {X : Cx} {E : XK} {e : Expr} {f : TM} (h : DT X E e f) : PT X e (tDT X.K X.mg E f) := by
  obtain ⟨t, p, q⟩ := h
  exact ⟨fun pins s σ H Q I ⟨p', Ho, Hi, H0, ρ, hs, S, hp⟩ => p.run pins s σ H Q I (q p' Ho Hi H0 H ρ hs σ Q S hp)⟩

/-! ### a new list that is not frozen yet -/
def relF (C : Kx) (H : Hp) : List D → Hp → Hp → V → Prop := fun ds H0' H' v => ∃ q vs, v = .ref q ∧ H q = none ∧ H' q = some (.lst vs) ∧ H0' q = none ∧ Reps C H0' ds vs
def DF (X : Cx) (E : XK) (e : Expr) (f : AM) : Prop := ∃ t, PE X e t ∧ ∀ (p : Option Addr) (Ho : Go) (Hi H0 H : Hp) (ρ : List Sl) (hs : List D) (σ : St) (Q : VK),
  SR (Kc X p) Ho Hi ρ hs σ H0 H → Post (Kc X p) H0 H E (relF (Kc X p) H) Q (f ρ hs) → t σ H Q
section
variable {C : Kx} {H0 H H0' H' K0 K : Hp} {hs hs' : List D}
theorem Ext.gone (x : Ext C H0 H K0 K hs) {q : Addr} (s : Stt C H0 H hs') (h : K q = none) : H q = none := by
  cases e : H q with
  | none => rfl
  | some o =>
    by_cases hp : C.p = some q
    · obtain ⟨_, vs, h2, _⟩ := x.st.hand q hp
      rw [h] at h2; cases h2
    · rw [x.keep q o e hp] at h; cases h
/-- the list at q is frozen -/
theorem Ext.frz (x : Ext C H0 H K0 K hs) {q : Addr} {vs : List V} (hq : H q = none) (h : K q = some (.lst vs)) (h0 : K0 q = none) (hp : C.p ≠ some q) : Ext C H0 H (upd K0 q (.lst vs)) K hs := by
  have sm : Same K0 (upd K0 q (.lst vs)) := fun b o e => by rw [upd_ne (ne_of_none e h0)]; exact e
  refine ⟨x.sub0.trans sm, fun a h1 h2 => ?_, x.keep, ⟨fun b o e => ?_, fun b e => ?_⟩⟩
  · by_cases z : a = q
    · rw [z]; exact hq
    · rw [upd_ne z] at h2; exact x.new a h1 h2
  · by_cases z : b = q
    · subst z; rw [upd_same] at e; cases e; exact h
    · rw [upd_ne z] at e; exact x.st.sub b o e
  · obtain ⟨h1, ws, h2, h3⟩ := x.st.hand b e
    have z : b ≠ q := fun z => hp (by rw [← z]; exact e)
    exact ⟨by rw [upd_ne z]; exact h1, ws, h2, h3.mono sm _ _⟩
/-- the new object at q is changed -/
theorem Ext.updq (x : Ext C H0 H K0 K hs) {q : Addr} {o : HO} (hq : H q = none) (h0 : K0 q = none) (hp : C.p ≠ some q) : Ext C H0 H K0 (upd K q o) hs := by
  refine ⟨x.sub0, x.new, fun a u e hpa => ?_, ⟨fun b u e => ?_, fun b e => ?_⟩⟩
  · rw [upd_ne (ne_of_none e hq)]; exact x.keep a u e hpa
  · rw [upd_ne (ne_of_none e h0)]; exact x.st.sub b u e
  · obtain ⟨h1, ws, h2, h3⟩ := x.st.hand b e
    have z : b ≠ q := fun z => hp (by rw [← z]; exact e)
    exact ⟨h1, ws, by rw [upd_ne z]; exact h2, h3⟩
end
section
variable {X : Cx} {E : XK} {e a b c : Expr} {es : List Expr} {fa fb fc : EM} {fr : AM} {pos pp : Pos} {x : Str}
theorem Post.frz {C : Kx} {H0 H : Hp} {hs : List D} {Q : VK} {r : R (List D)} (s : Stt C H0 H hs) (hp : Post C H0 H E (relV C) Q (r.bind fun xs h => .ok (.lst xs) h)) : Post C H0 H E (relF C H) Q r := by
  cases r with
  | ok ds h1 =>
    intro K0 K v x ⟨q, vs, e, hq, hk, h0, r⟩
    subst e
    have hpq : C.p ≠ some q := s.hand_ne hq
    have sm : Same K0 (upd K0 q (.lst vs)) := fun b o e => by rw [upd_ne (ne_of_none e h0)]; exact e
    exact hp _ K _ (x.frz hq hk h0 hpq) (Rep.of_list upd_same (r.mono sm _ _))
  | exc er h1 => exact hp
  | stuck => exact hp
/-- frozen at once -/
theorem de_of_df {f : AM} (h : DF X E e f) : DE X E e (e_lst f) := by
  obtain ⟨t, p, q⟩ := h
  exact ⟨t, p, fun p' Ho Hi H0 H ρ hs σ Q S hp => q p' Ho Hi H0 H ρ hs σ Q S (Post.frz S.st hp)⟩
theorem R.bind_pure {α : Type} (r : R α) : r.bind .ok = r := by cases r <;> rfl
theorem df_lst {n : Nat} (hr : DA X E es fr) (hl : LenA fr n) (hz : n ≤ 1000 := by decide) : DF X E (.List es pos) fr := by
  obtain ⟨tr, pr, qr⟩ := hr
  refine ⟨_, pe_lst pr, fun p Ho Hi H0 H ρ hs σ Q S hp => ?_⟩
  rw [← R.bind_pure (fr ρ hs)] at hp
  refine qr p Ho Hi H0 H ρ hs σ _ S (Post.len hl (hp.bind fun ds h1 K0 K vs x rs hp hn => ?_))
  refine ⟨by rw [hn, sizeLine_eq]; omega, fun q hq => ?_⟩
  have y := x.st.laid (o := .lst vs) hq
  exact hp _ _ _ y ⟨q, vs, rfl, x.gone S.st hq, upd_same, x.st.sub.free hq, rs⟩

/-! ### what is walked -/
/-- the iterator yields these -/
def YJ (C : Kx) (J : It) (H0 : Hp) (ds : List D) : Prop := ∀ (i : Nat) (K0 K : Hp) (hs : List D), Same H0 K0 → Stt C K0 K hs →
  (∀ d, ds[i]? = some d → J.go i K ∧ ∀ x K', J.yld i K x K' → ∃ K0', Ext C K0 K K0' K' hs ∧ Rep C K0' d x) ∧ (ds.length ≤ i → J.stop i K)
def relI (C : Kx) : List D → Hp → Hp → It → Prop := fun ds H0 _ J => YJ C J H0 ds
def DI (X : Cx) (E : XK) (tg e : Expr) (f : AM) : Prop := ∃ t, PI X tg e t ∧ ∀ (p : Option Addr) (Ho : Go) (Hi H0 H : Hp) (ρ : List Sl) (hs : List D) (σ : St) (R : It → Hp → Prop),
  SR (Kc X p) Ho Hi ρ hs σ H0 H → Post (Kc X p) H0 H E (relI (Kc X p)) R (f ρ hs) → t σ H R
def itemsD : D → Option (List D)
  | .tup xs => some xs
  | .lst xs => some xs
  | _ => none
def i_of (a : EM) : AM := fun ρ h => (a ρ h).bind fun x h => R.lift (itemsD x) h
def lstItems : D → Option (List D)
  | .lst xs => some xs
  | _ => none
def tupItems : D → Option (List D)
  | .tup xs => some xs
  | _ => none
theorem yj_list {C : Kx} {H0 : Hp} {a : Addr} {vs : List V} {ds : List D} (h : H0 a = some (.lst vs)) (r : Reps C H0 ds vs) : YJ C (Itl C.K a) H0 ds := fun i K0 K hs sm s => by
  have hK : K a = some (.lst vs) := s.sub _ _ (sm _ _ h)
  refine ⟨fun d e => ?_, fun hi => ⟨vs, SqL.of hK, by rw [r.length]; exact hi⟩⟩
  obtain ⟨v, e1, rv⟩ := r.get e
  refine ⟨⟨vs, v, SqL.of hK, e1⟩, fun x K' ⟨e2, h2⟩ => ?_⟩
  subst e2
  have := h2 vs (SqL.of hK)
  rw [e1] at this; cases this
  exact ⟨K0, s.ext, rv.mono sm _ _⟩
theorem yj_tup {C : Kx} {H0 : Hp} {a : Addr} {vs : List V} {ds : List D} (h : SqT C.K H0 a vs) (r : Reps C H0 ds vs) : YJ C (Itt C.K a) H0 ds := fun i K0 K hs sm s => by
  have hK : SqT C.K K a vs := Same.seqT s.sub (Same.seqT sm h)
  refine ⟨fun d e => ?_, fun hi => ⟨vs, hK, by rw [r.length]; exact hi⟩⟩
  obtain ⟨v, e1, rv⟩ := r.get e
  refine ⟨⟨vs, v, hK, e1⟩, fun x K' ⟨e2, h2⟩ => ?_⟩
  subst e2
  have := h2 vs hK
  rw [e1] at this; cases this
  exact ⟨K0, s.ext, rv.mono sm _ _⟩
/-- a list or a tuple, by any expression -/
theorem pi_seq {tg l : Expr} {tl : TE} (hl : PE X l tl) : PI X tg l (fun σ H R => tl σ H fun x H1 => (∃ a, x = .ref a ∧ (∃ xs, SqL X.K H1 a xs) ∧ R (Itl X.K a) H1) ∨ ∃ a, x = .ref a ∧ (∃ xs, SqT X.K H1 a xs) ∧ R (Itt X.K a) H1) := by
  refine ⟨fun pins s σ H R I h => ?_⟩
  refine thn (hl.run pins s σ H _ I h) fun v s1 ⟨x, H1, I1, r1, q1⟩ => ?_
  rcases q1 with ⟨a, e, ⟨xs, hq⟩, q⟩ | ⟨a, e, ⟨xs, hq⟩, q⟩
  · subst e
    cases r1
    obtain ⟨its, rv, p, hz⟩ := I1.list hq
    refine wpAny_pyIter_list p.isList ?_
    refine ⟨s1.heap.objs.size, [s1.heap.objs.size], _, _, H1, rfl, I1.kept (t' := s1.toks) fun b o e => Heap.get?_push_of_some _ e, turn_list a _, ⟨_, Heap.get?_push_size _ rfl, rfl, rfl⟩, fun b hb => ?_, q⟩
    have e : b = s1.heap.objs.size := by simpa using hb
    subst e
    exact I1.fpOk (Nat.le_refl _) (I1.hok.fresh (Nat.le_refl _))
  · subst e
    cases r1
    obtain ⟨its, rv, p, hz⟩ := I1.tuple hq
    refine wpAny_pyIter_tuple (show s1.heap.IsTuple a its.toArray from p) ?_
    refine ⟨s1.heap.objs.size, [s1.heap.objs.size], _, _, H1, rfl, I1.kept (t' := s1.toks) fun b o e => Heap.get?_push_of_some _ e, turn_tuple a _, ⟨_, Heap.get?_push_size _ rfl, rfl, rfl⟩, fun b hb => ?_, q⟩
    have e : b = s1.heap.objs.size := by simpa using hb
    subst e
    exact I1.fpOk (Nat.le_refl _) (I1.hok.fresh (Nat.le_refl _))
theorem di_seq {tg : Expr} (ha : DE X E e fa) : DI X E tg e (i_of fa) := by
  obtain ⟨ta, pa, qa⟩ := ha
  refine ⟨_, pi_seq pa, fun p Ho Hi H0 H ρ hs σ R S hp => ?_⟩
  refine qa p Ho Hi H0 H ρ hs σ _ S (hp.bind fun d h1 K0 K v x rv hp => ?_)
  obtain ⟨ds, e1, hp2⟩ := hp.lift
  cases d with
  | tup xs =>
    cases e1
    obtain ⟨a, vs, rfl, ha, r⟩ := Rep.tuple rv
    exact .inr ⟨a, rfl, ⟨vs, Same.seqT x.st.sub ha⟩, hp2.ok x.st (yj_tup ha r)⟩
  | lst xs =>
    cases e1
    obtain ⟨a, vs, rfl, ha, r⟩ := Rep.list rv
    exact .inl ⟨a, rfl, ⟨vs, SqL.of (x.st.sub _ _ ha)⟩, hp2.ok x.st (yj_list ha r)⟩
  | _ => cases e1
/-! ranges -/
def rangeL (lo : Int) (n : Nat) : List D := (List.range n).map fun i : Nat => D.int (lo + i)
theorem rangeL_get {lo : Int} {n i : Nat} : (rangeL lo n)[i]? = if i < n then some (.int (lo + i)) else none := by
  unfold rangeL
  rw [List.getElem?_map]
  by_cases h : i < n
  · rw [if_pos h, List.getElem?_range h]; rfl
  · rw [if_neg h, List.getElem?_eq_none (by simp; omega)]; rfl
theorem rangeL_len {lo : Int} {n : Nat} : (rangeL lo n).length = n := by simp [rangeL]
theorem yj_range {C : Kx} {H0 : Hp} (lo : Int) (n : Nat) : YJ C (Itr lo n) H0 (rangeL lo n) := fun i K0 K hs sm s => by
  refine ⟨fun d e => ?_, fun hi => by rw [rangeL_len] at hi; exact hi⟩
  rw [rangeL_get] at e
  split at e
  · rename_i h
    cases e
    exact ⟨h, fun x K' ⟨e1, e2⟩ => by subst e1 e2; exact ⟨K0, s.ext, rep_int.mpr rfl⟩⟩
  · cases e
@[irreducible] def inI (i : Int) : Bool := decide (-(2 ^ 62) ≤ i) && decide (i < 2 ^ 62)
def rangeD : List D → Option (List D)
  | [.int j] => if inI j then some (rangeL 0 j.toNat) else none
  | [.int i, .int j] => if inI i && inI j then some (rangeL i (j - i).toNat) else none
  | _ => none
def i_range (r : AM) : AM := fun ρ h => (r ρ h).bind fun xs h => R.lift (rangeD xs) h
theorem di_range1 {tg : Expr} (hm : X.mg "range" = none) (ha : DE X E a fa) (hg : Gl X "range" := by rfl) (hs : starEach [a] X.env = [(false, eval a X.env)] := by rfl) : DI X E tg (.Call (.Name "range" pp) [a] [] pos) (i_range (a_cons fa a_nil)) := by
  obtain ⟨ta, pa, qa⟩ := da_cons ha da_nil hs
  refine ⟨_, pi_range1 hg hm pa hs, fun p Ho Hi H0 H ρ hs σ R S hp => ?_⟩
  refine qa p Ho Hi H0 H ρ hs σ _ S (Post.len (len_cons len_nil) (hp.bind fun ds h1 K0 K vs x rv hp hn => ?_))
  obtain ⟨z, e, hp2⟩ := hp.lift
  match ds, e, rv with
  | [.int j], e, rv =>
    simp only [rangeD] at e
    split at e
    · rename_i h
      cases e
      unfold inI at h
      rw [Bool.and_eq_true, decide_eq_true_eq, decide_eq_true_eq] at h
      obtain ⟨v, w, rfl, h1, h2⟩ := Reps.cons_inv rv
      rw [rep_int] at h1
      rw [Reps.nil_inv h2, h1]
      exact ⟨j, rfl, h.1, h.2, hp2.ok x.st (yj_range 0 j.toNat)⟩
    · cases e
  | [.int i, .int j], e, rv =>
    obtain ⟨v, w, rfl, h1, h2⟩ := Reps.cons_inv rv
    obtain ⟨v', w', rfl, h3, h4⟩ := Reps.cons_inv h2
    simp at hn
theorem di_range2 {tg : Expr} (hm : X.mg "range" = none) (ha : DE X E a fa) (hb : DE X E b fb) (hg : Gl X "range" := by rfl) (hs : starEach [a, b] X.env = [(false, eval a X.env), (false, eval b X.env)] := by rfl) (hs2 : starEach [b] X.env = [(false, eval b X.env)] := by rfl) : DI X E tg (.Call (.Name "range" pp) [a, b] [] pos) (i_range (a_cons fa (a_cons fb a_nil))) := by
  obtain ⟨ta, pa, qa⟩ := da_cons ha (da_cons hb da_nil hs2) (by rw [hs, hs2])
  refine ⟨_, pi_range2 hg hm pa hs hs2, fun p Ho Hi H0 H ρ hs σ R S hp => ?_⟩
  refine qa p Ho Hi H0 H ρ hs σ _ S (Post.len (len_cons (len_cons len_nil)) (hp.bind fun ds h1 K0 K vs x rv hp hn => ?_))
  obtain ⟨z, e, hp2⟩ := hp.lift
  match ds, e, rv with
  | [.int j], e, rv =>
    obtain ⟨v, w, rfl, h1, h2⟩ := Reps.cons_inv rv
    rw [Reps.nil_inv h2] at hn
    simp at hn
  | [.int i, .int j], e, rv =>
    simp only [rangeD] at e
    split at e
    · rename_i h
      cases e
      unfold inI at h
      rw [Bool.and_eq_true, Bool.and_eq_true, Bool.and_eq_true, decide_eq_true_eq, decide_eq_true_eq, decide_eq_true_eq, decide_eq_true_eq] at h
      obtain ⟨v, w, rfl, h1, h2⟩ := Reps.cons_inv rv
      obtain ⟨v', w', rfl, h3, h4⟩ := Reps.cons_inv h2
      rw [rep_int] at h1 h3
      rw [Reps.nil_inv h4, h1, h3]
      exact ⟨i, j, rfl, ⟨h.1.1, h.1.2, h.2.1, h.2.2⟩, hp2.ok x.st (yj_range i (j - i).toNat)⟩
    · cases e
/-! pairs: enumerate, zip -/
theorem yj_pair {C : Kx} {H0 : Hp} {J : It} {ds : List D} (h : ∀ (i : Nat) (K0 K : Hp) (hs : List D), Same H0 K0 → Stt C K0 K hs →
    (∀ d, ds[i]? = some d → J.go i K ∧ ∃ d1 d2, d = .tup [d1, d2] ∧ ∀ x K', J.yld i K x K' → ∃ T x1 x2, x = .ref T ∧ K T = none ∧ K' = upd K T (.tup [x1, x2]) ∧ Rep C K0 d1 x1 ∧ Rep C K0 d2 x2) ∧ (ds.length ≤ i → J.stop i K)) : YJ C J H0 ds := fun i K0 K hs sm s => by
  obtain ⟨h1, h2⟩ := h i K0 K hs sm s
  refine ⟨fun d e => ?_, h2⟩
  obtain ⟨g, d1, d2, rfl, h3⟩ := h1 d e
  refine ⟨g, fun x K' y => ?_⟩
  obtain ⟨T, x1, x2, rfl, hT, rfl, r1, r2⟩ := h3 x K' y
  have y := s.alloc (o := .tup [x1, x2]) hT
  exact ⟨_, y, Rep.of_tup upd_same (Reps.cons (r1.mono y.sub0 _ _) (Reps.cons (r2.mono y.sub0 _ _) Reps.nil))⟩
def enumL (ds : List D) : List D := (ds.zipIdx).map fun x => D.tup [.int (x.2 : Nat), x.1]
theorem enumL_get {ds : List D} {i : Nat} : (enumL ds)[i]? = (ds[i]?).map fun x => D.tup [.int (i : Nat), x] := by
  unfold enumL
  rw [List.getElem?_map, List.getElem?_zipIdx, Option.map_map, Nat.zero_add]
  rfl
theorem enumL_len {ds : List D} : (enumL ds).length = ds.length := by simp [enumL]
end
end DL

namespace DL
open PySem PySem.Spec L2
open PyProof.Rows hiding St

/-! ### enumerate(tuple) -/
def IteT (K : PySem.W.Frag) (a : Addr) : It :=
  ⟨fun i H => ∃ (xs : List V) (x : V), SqT K H a xs ∧ xs[i]? = some x, fun i H v H' => ∃ T x, v = .ref T ∧ H T = none ∧ H' = upd H T (.tup [.int (i : Nat), x]) ∧ ∀ xs, SqT K H a xs → xs[i]? = some x, fun i H => ∃ xs : List V, SqT K H a xs ∧ xs.length ≤ i⟩
theorem turn_enumT {P : Program} {w : World} {K : PySem.W.Frag} {elts : List Expr} {kk : Nat} {tpos : Pos} (a e it : Addr) :
    Turn P w K (.Tuple elts kk tpos) (IteT K a) [e, it] e (fun i h => (∃ old, IsEnum h e it ((i : Nat) : Int) old) ∧ h.IsTupleIter it a i ∧ e ≠ it ∧ a ≠ it ∧ a ≠ e) where
  mem := by simp
  obj := fun i h st b hb => by
    obtain ⟨⟨old, he⟩, ⟨o, ho, hc, hd⟩, _⟩ := st
    have e' : b = e ∨ b = it := by simpa using hb
    rcases e' with z | z
    · rw [z]; exact ⟨_, he, fun v q => nomatch q⟩
    · rw [z]; exact ⟨o, ho, fun v q => by rw [hd] at q; cases q⟩
  keep := fun i h h' st k => let ⟨⟨old, he⟩, hi, hne⟩ := st; ⟨⟨old, k e (by simp) _ he⟩, hi.at fun o q => k it (by simp) o q, hne⟩
  item := by
    intro X hP hw hK hc i pins s σ H E I hf st hg
    subst hP hw hK
    obtain ⟨⟨old, he⟩, hit, hne, hat, hae⟩ := st
    obtain ⟨xs, x, hq, hx⟩ := hg
    obtain ⟨its, rv, p, hz⟩ := I.tuple hq
    obtain ⟨u, hu, ru⟩ := rv.get hx
    have hel : e < s.heap.objs.size := Heap.lt_size he
    have hil : it < s.heap.objs.size := by obtain ⟨_, q, _⟩ := hit; exact Heap.lt_size q
    have hh : X.A.in1.handled = none := I.ok.hd hc
    have hlt : i < its.toArray.size := by
      have := (List.getElem?_eq_some_iff.mp hu).1
      simpa using this
    refine wpAny_pyNext_enum_itemD (Draws.tuple hh it a hat its.toArray) he ⟨hit, show s.heap.IsTuple a its.toArray from p⟩ hlt hne (by simp only [List.mem_cons, List.not_mem_nil, or_false, not_or]; exact ⟨hne, Ne.symm hae⟩) fun x' h' tk hP ho hs' hT hsz hk => ?_
    have ex : x' = u := by
      have e1 : its.toArray[i]? = some u := by simpa using hu
      rw [e1] at hP
      exact (Option.some.inj hP).symm
    subst ex
    refine ⟨_, rfl, wpAny_letOwnedTupleGo_enum (s := { s with heap := h', toks := tk + 1 }) ho fun h'' he' sb => ?_⟩
    have hT2 : h''.get? s.heap.objs.size = some { cls := .type "tuple", data := .seq #[.int i tk, x'] } := (sb.2 _ (Nat.ne_of_gt hel)).trans hT
    have new : ObjOk X.prog X.w (upd H s.heap.objs.size (.tup [.int (i : Nat), x])) h'' s.heap.objs.size (.tup [.int (i : Nat), x]) :=
      ⟨by show 2 ≤ sizeLine; decide, [.int i tk, x'], .cons ⟨_, rfl⟩ (.cons ru .nil), ⟨_, hT2, rfl, _, rfl⟩⟩
    have I1 : Inv X pins σ (upd H s.heap.objs.size (.tup [.int (i : Nat), x])) { s with heap := h'', toks := tk + 1 } :=
      I.turnedNew (ch := [e, it]) (fun b ob hb q => (sb.2 b (fun z => hb (by simp [z]))).trans (hk b ob (fun z => hb (by simp [z])) (fun z => hb (by simp [z])) q)) hf (Nat.le_refl _) new
    refine ⟨.ref s.heap.objs.size, _, I1, rfl, ⟨_, x, rfl, I.hok.fresh (Nat.le_refl _), rfl, fun ys hy => by rw [I.tuple_inj hy hq]; exact hx⟩, ⟨⟨x', ?_⟩, hs'.1.at fun o q => (sb.2 it (Ne.symm hne)).trans q, hne, hat, hae⟩, fun b hb => ?_⟩
    · have e1 : ((i + 1 : Nat) : Int) = (i : Int) + 1 := by omega
      rw [e1]; exact he'
    · have hb' : b < s.heap.objs.size := by
        have e' : b = e ∨ b = it := by simpa using hb
        rcases e' with z | z
        · rw [z]; exact hel
        · rw [z]; exact hil
      rw [upd_ne (Nat.ne_of_lt hb')]
      exact (hf b hb).1
  done := by
    intro X hP hw hK hc i pins s σ H E I hf st hg
    subst hP hw hK
    obtain ⟨⟨old, he⟩, hit, hne, hat, hae⟩ := st
    obtain ⟨xs, hq, hx⟩ := hg
    obtain ⟨its, rv, p, hz⟩ := I.tuple hq
    obtain ⟨f0, f1, f2, f3, f4, f5⟩ := hf it (by simp)
    have hl := rv.length
    have hh : X.A.in1.handled = none := I.ok.hd hc
    have hT : s.TypeIs (.ref e) "enumerate" := ⟨_, he, rfl⟩
    unfold pyNext
    refine wpAny_bind (wpAny_attempt (wpAny_callSpecial?_slot (name := Str.ofString "__next__") hT F.slot_enumerate_next
      (wpAny_call_entry F.slot_enumerate_next hT F.entry_enumerate_next ?_ (F.args_enumerate_next_1 _))))
    show wpAny _ _ (field (.ref e) 2 >>= _) _ _ _
    refine wpAny_bind (wpAny_field he rfl (x := .ref it) rfl ?_)
    refine wpAny_bind (wpAny_nextOf_tuple_end hh hit (show s.heap.IsTuple a its.toArray from p) (by simp; omega) fun h' x he' hx' => ?_)
    obtain ⟨o, ho, hc'⟩ := hx'
    refine wpAny_bind (wpAny_isInstance (T := "StopIteration") (b := true) ⟨o, ho, hc'⟩ isSubtype_stop ?_)
    exact wpAny_pure ⟨rfl, I.turned (t' := s.toks) (fun b o hb q => he' b o hb q) f0 f1 f3 f4 f5⟩
  self := fun A i s Q E st h => let ⟨⟨_, he⟩, _⟩ := st; wpAny_pyIter_enum he h
set_option maxHeartbeats 8000000 in
theorem meets_enumerate_newT (l : Addr) (items : Array Value) (n : Nat) (dd : Option Addr) (sl : Array (Option Value)) :
    Meets (Builtin.«enumerate.__new__» ⟨[.type "enumerate", .ref l], []⟩) (fun _ R s => s.heap.get? l = some { cls := .type "tuple", dict := dd, data := .seq items n, slots := sl } ∧
      R (.ok (.ret (.ref (s.heap.push { cls := .type "tuple_iterator", data := .fields #[.ref l, .int 0 0] }).objs.size)))
        { s with heap := (s.heap.push { cls := .type "tuple_iterator", data := .fields #[.ref l, .int 0 0] }).push { cls := .type "enumerate", data := .fields #[.none, .bool false, .ref s.heap.objs.size, rawInt 0, .none, .none] } }) :=
  .of_wp fun prog w A R s h => by
    obtain ⟨hp, g, d, tk, os⟩ := s
    obtain ⟨hl, h⟩ := h
    have hsub := sub_enumerate
    have hT : (⟨hp, g, d, tk, os⟩ : Shared).heap.IsTuple l items := ⟨_, hl, rfl, n, rfl⟩
    have q1 : ∀ {A' : Around} {E : Value → Shared → Prop} {Q : Value → Shared → Prop}, Q (.ref hp.objs.size) ⟨hp.push { cls := .type "tuple_iterator", data := .fields #[.ref l, .int 0 0] }, g, d, tk, os⟩ → wpAny (model prog w) A' (pyIter (.ref l)) Q E ⟨hp, g, d, tk, os⟩ :=
      fun q => wpAny_pyIter_tuple hT q
    wp_walk using q1
    refine wpAny_stack_any fun st => wpAny_pure ?_
    split
    · rename_i c _ _ _ _ _
      cases (c == Value.type "enumerate")
      · wp_walk using q1
        exact ⟨_, rfl, h⟩
      · wp_walk using q1
        exact ⟨_, rfl, h⟩
    · wp_walk using q1
      exact ⟨_, rfl, h⟩
theorem call_enumerate_tuple {prog : Program} {w : World} {A : Around} {E : Value → Shared → Prop} {s : Shared} {l : Addr} {items : Array Value} {Q : Value → Shared → Prop} (hL : s.heap.IsTuple l items)
    (h : ∀ h', IsEnum h' (s.heap.objs.size + 1) s.heap.objs.size 0 .none → h'.IsTupleIter s.heap.objs.size l 0 → h'.objs.size = s.heap.objs.size + 2 →
      (∀ b o, s.heap.get? b = some o → h'.get? b = some o) → Q (.ref (s.heap.objs.size + 1)) { s with heap := h' }) :
    wpAny (model prog w) A (call (.type "enumerate") [.ref l]) Q E s := by
  obtain ⟨⟨c, dct, dt, sl⟩, hl, hc, n, hd⟩ := hL
  replace hc : c = .type "tuple" := hc
  replace hd : dt = .seq items n := hd
  subst hc hd
  refine callType_new F.called_enumerate (by decide) (F.typeCall_enumerate_1 _) (F.newCall_enumerate_1 _) (fun obj => F.args_object_init_2 obj _) F.entry_enumerate_new
    (meets_enumerate_newT l items n dct sl) ⟨hl, ?_⟩
  have hz : (s.heap.push { cls := .type "tuple_iterator", data := .fields #[.ref l, .int 0 0] }).objs.size = s.heap.objs.size + 1 := Heap.size_push ..
  show _ ∧ _
  rw [hz]
  have he : IsEnum ((s.heap.push { cls := .type "tuple_iterator", data := .fields #[.ref l, .int 0 0] }).push
      { cls := .type "enumerate", data := .fields #[.none, .bool false, .ref s.heap.objs.size, rawInt 0, .none, .none] }) (s.heap.objs.size + 1) s.heap.objs.size 0 .none := by
    have := Heap.get?_push_size (s.heap.push { cls := .type "tuple_iterator", data := .fields #[.ref l, .int 0 0] })
      (o := { cls := .type "enumerate", data := .fields #[.none, .bool false, .ref s.heap.objs.size, rawInt 0, .none, .none] }) rfl
    rw [hz] at this; exact this
  exact ⟨⟨_, he, rfl⟩, h _ he ⟨_, Heap.get?_push_of_some _ (Heap.get?_push_size _ rfl), rfl, rfl⟩ (by rw [Heap.size_push, hz]) fun b o x => Heap.get?_push_of_some _ (Heap.get?_push_of_some _ x)⟩
def iEnumA (K : PySem.W.Frag) (ta : TA) : TI := fun σ H R => ta σ H fun vs H1 => ∃ a xs, vs = [.ref a] ∧ ((SqL K H1 a xs ∧ R (Ite K a) H1) ∨ (SqT K H1 a xs ∧ R (IteT K a) H1))
theorem pi_enumA {X : Cx} {e : Expr} {ta : TA} {p pos tpos : Pos} {elts : List Expr} {kk : Nat} (hg : Gl X "enumerate") (hm : X.mg "enumerate" = none) (ha : PA X [e] ta) (hs : starEach [e] X.env = [(false, eval e X.env)] := by rfl) :
    PI X (.Tuple elts kk tpos) (.Call (.Name "enumerate" p) [e] [] pos) (iEnumA X.K ta) := by
  refine ⟨fun pins s σ H R I h => ?_⟩
  refine Call_ (ld_blt I hg hm boot_enumerate (PyProof.Rows.callWith_type1 (thn (ha.run pos pins s σ H _ I h) fun us s1 ⟨vs, H1, I1, r1, q1⟩ => ?_) hs rfl))
  obtain ⟨a, xs, ex, q1⟩ := q1
  subst ex
  cases r1 with
  | cons r rr =>
    cases rr
    cases r
    have fin : ∀ b ∈ [s1.heap.objs.size + 1, s1.heap.objs.size], FpOk X pins H1 b := fun b hb => by
      have e' : b = s1.heap.objs.size + 1 ∨ b = s1.heap.objs.size := by simpa using hb
      have hle : s1.heap.objs.size ≤ b := by
        rcases e' with z | z
        · rw [z]; exact Nat.le_add_right _ _
        · rw [z]; exact Nat.le_refl _
      exact I1.fpOk hle (I1.hok.fresh hle)
    rcases q1 with ⟨hq, q⟩ | ⟨hq, q⟩
    · obtain ⟨its, rv, p', hz⟩ := I1.list hq
      refine call_enumerate_list p'.isList fun h' he hit hsz hk => wpAny_pyIter_enum he ?_
      have I2 : Inv X pins σ H1 { s1 with heap := h' } := I1.kept (t' := s1.toks) hk
      exact ⟨s1.heap.objs.size + 1, [s1.heap.objs.size + 1, s1.heap.objs.size], _, _, H1, rfl, I2, turn_enum a (s1.heap.objs.size + 1) s1.heap.objs.size, ⟨⟨.none, he⟩, hit, Nat.succ_ne_self _⟩, fin, q⟩
    · obtain ⟨its, rv, p', hz⟩ := I1.tuple hq
      have hlt : a < s1.heap.objs.size := by obtain ⟨_, e, _⟩ := p'; exact Heap.lt_size e
      refine call_enumerate_tuple (show s1.heap.IsTuple a its.toArray from p') fun h' he hit hsz hk => wpAny_pyIter_enum he ?_
      have I2 : Inv X pins σ H1 { s1 with heap := h' } := I1.kept (t' := s1.toks) hk
      exact ⟨s1.heap.objs.size + 1, [s1.heap.objs.size + 1, s1.heap.objs.size], _, _, H1, rfl, I2, turn_enumT a (s1.heap.objs.size + 1) s1.heap.objs.size, ⟨⟨.none, he⟩, hit, Nat.succ_ne_self _, Nat.ne_of_lt hlt, Nat.ne_of_lt (Nat.lt_succ_of_lt hlt)⟩, fin, q⟩
section
variable {X : Cx} {E : XK} {e a b c : Expr} {es : List Expr} {fa fb fc : EM} {fr : AM} {pos pp : Pos} {x : Str}
theorem yj_enum {C : Kx} {H0 : Hp} {a : Addr} {vs : List V} {ds : List D} (h : H0 a = some (.lst vs)) (r : Reps C H0 ds vs) : YJ C (Ite C.K a) H0 (enumL ds) := yj_pair fun i K0 K hs sm s => by
  have hK : SqL C.K K a vs := SqL.of (s.sub _ _ (sm _ _ h))
  refine ⟨fun d e => ?_, fun hi => ⟨vs, hK, by rw [r.length]; rw [enumL_len] at hi; exact hi⟩⟩
  rw [enumL_get] at e
  obtain ⟨d2, e1, rfl⟩ := Option.map_eq_some_iff.mp e
  obtain ⟨v, e2, rv⟩ := r.get e1
  refine ⟨⟨vs, v, hK, e2⟩, _, _, rfl, fun x K' ⟨T, x2, e3, hT, e4, h5⟩ => ⟨T, _, x2, e3, hT, e4, rep_int.mpr rfl, ?_⟩⟩
  have := h5 vs hK
  rw [e2] at this; cases this
  exact rv.mono sm _ _
theorem yj_enumT {C : Kx} {H0 : Hp} {a : Addr} {vs : List V} {ds : List D} (h : SqT C.K H0 a vs) (r : Reps C H0 ds vs) : YJ C (IteT C.K a) H0 (enumL ds) := yj_pair fun i K0 K hs sm s => by
  have hK : SqT C.K K a vs := Same.seqT s.sub (Same.seqT sm h)
  refine ⟨fun d e => ?_, fun hi => ⟨vs, hK, by rw [r.length]; rw [enumL_len] at hi; exact hi⟩⟩
  rw [enumL_get] at e
  obtain ⟨d2, e1, rfl⟩ := Option.map_eq_some_iff.mp e
  obtain ⟨v, e2, rv⟩ := r.get e1
  refine ⟨⟨vs, v, hK, e2⟩, _, _, rfl, fun x K' ⟨T, x2, e3, hT, e4, h5⟩ => ⟨T, _, x2, e3, hT, e4, rep_int.mpr rfl, ?_⟩⟩
  have := h5 vs hK
  rw [e2] at this; cases this
  exact rv.mono sm _ _
def i_enum (a : EM) : AM := fun ρ h => (a ρ h).bind fun x h => (R.lift (itemsD x) h).bind fun ds h => .ok (enumL ds) h
theorem di_enum {elts : List Expr} {kk : Nat} {tpos : Pos} (hm : X.mg "enumerate" = none) (ha : DE X E a fa) (hg : Gl X "enumerate" := by rfl) (hs : starEach [a] X.env = [(false, eval a X.env)] := by rfl) : DI X E (.Tuple elts kk tpos) (.Call (.Name "enumerate" pp) [a] [] pos) (i_enum fa) := by
  obtain ⟨ta, pa, qa⟩ := ha
  refine ⟨_, pi_enumA hg hm (pa_cons pa pa_nil hs) hs, fun p Ho Hi H0 H ρ hs' σ R S hp => ?_⟩
  refine qa p Ho Hi H0 H ρ hs' σ _ S (hp.bind fun d h1 K0 K v x rv hp => ?_)
  cases d with
  | tup xs =>
    obtain ⟨a, vs, rfl, ha, r⟩ := Rep.tuple rv
    exact ⟨a, vs, rfl, .inr ⟨Same.seqT x.st.sub ha, Post.ok x.st hp (yj_enumT ha r)⟩⟩
  | lst xs =>
    obtain ⟨a, vs, rfl, ha, r⟩ := Rep.list rv
    exact ⟨a, vs, rfl, .inl ⟨SqL.of (x.st.sub _ _ ha), Post.ok x.st hp (yj_enum ha r)⟩⟩
  | _ => exact (show False from hp).elim
/-! zip -/
def zipL (ds es : List D) : List D := (ds.zip es).map fun x => D.tup [x.1, x.2]
theorem zipL_get {ds es : List D} {i : Nat} {d : D} (h : (zipL ds es)[i]? = some d) : ∃ x y, ds[i]? = some x ∧ es[i]? = some y ∧ d = .tup [x, y] := by
  unfold zipL at h
  rw [List.getElem?_map] at h
  obtain ⟨⟨x, y⟩, e, rfl⟩ := Option.map_eq_some_iff.mp h
  rw [List.getElem?_zip_eq_some] at e
  exact ⟨x, y, e.1, e.2, rfl⟩
theorem zipL_len {ds es : List D} : (zipL ds es).length = min ds.length es.length := by simp [zipL]
theorem yj_zip {C : Kx} {H0 : Hp} {a b : Addr} {vs ws : List V} {ds es : List D} (h : H0 a = some (.lst vs)) (r : Reps C H0 ds vs) (h2 : H0 b = some (.lst ws)) (r2 : Reps C H0 es ws) : YJ C (Itz C.K a b) H0 (zipL ds es) := yj_pair fun i K0 K hs sm s => by
  have hK : SqL C.K K a vs := SqL.of (s.sub _ _ (sm _ _ h))
  have hL : SqL C.K K b ws := SqL.of (s.sub _ _ (sm _ _ h2))
  refine ⟨fun d e => ?_, fun hi => ⟨vs, ws, hK, hL, by rw [r.length, r2.length]; rw [zipL_len] at hi; omega⟩⟩
  obtain ⟨d1, d2, e1, e2, rfl⟩ := zipL_get e
  obtain ⟨v, e3, rv⟩ := r.get e1
  obtain ⟨u, e4, ru⟩ := r2.get e2
  refine ⟨⟨vs, ws, v, u, hK, hL, e3, e4⟩, _, _, rfl, fun x K' ⟨T, x1, x2, e5, hT, e6, h5, h6⟩ => ⟨T, x1, x2, e5, hT, e6, ?_, ?_⟩⟩
  · have := h5 vs hK
    rw [e3] at this; cases this
    exact rv.mono sm _ _
  · have := h6 ws hL
    rw [e4] at this; cases this
    exact ru.mono sm _ _
theorem yj_zipT {C : Kx} {H0 : Hp} {a b : Addr} {vs ws : List V} {ds es : List D} (h : SqT C.K H0 a vs) (r : Reps C H0 ds vs) (h2 : SqT C.K H0 b ws) (r2 : Reps C H0 es ws) : YJ C (RZ.ItzT C.K a b) H0 (zipL ds es) := yj_pair fun i K0 K hs sm s => by
  have hK : SqT C.K K a vs := Same.seqT s.sub (Same.seqT sm h)
  have hL : SqT C.K K b ws := Same.seqT s.sub (Same.seqT sm h2)
  refine ⟨fun d e => ?_, fun hi => ⟨vs, ws, hK, hL, by rw [r.length, r2.length]; rw [zipL_len] at hi; omega⟩⟩
  obtain ⟨d1, d2, e1, e2, rfl⟩ := zipL_get e
  obtain ⟨v, e3, rv⟩ := r.get e1
  obtain ⟨u, e4, ru⟩ := r2.get e2
  refine ⟨⟨vs, ws, v, u, hK, hL, e3, e4⟩, _, _, rfl, fun x K' ⟨T, x1, x2, e5, hT, e6, h5, h6⟩ => ⟨T, x1, x2, e5, hT, e6, ?_, ?_⟩⟩
  · have := h5 vs hK
    rw [e3] at this; cases this
    exact rv.mono sm _ _
  · have := h6 ws hL
    rw [e4] at this; cases this
    exact ru.mono sm _ _
def zipD : List D → Option (List D)
  | [.tup xs, .tup ys] => some (zipL xs ys)
  | [.lst xs, .lst ys] => some (zipL xs ys)
  | _ => none
def i_zip (r : AM) : AM := fun ρ h => (r ρ h).bind fun xs h => R.lift (zipD xs) h
theorem di_zip {elts : List Expr} {kk : Nat} {tpos : Pos} (hm : X.mg "zip" = none) (ha : DE X E a fa) (hb : DE X E b fb) (hg : Gl X "zip" := by rfl) (hs : starEach [a, b] X.env = (false, eval a X.env) :: starEach [b] X.env := by rfl) (hs2 : starEach [b] X.env = (false, eval b X.env) :: starEach [] X.env := by rfl) (hpl : (backTo pos (starEach [b] X.env)).any (·.1) = false := by rfl) :
    DI X E (.Tuple elts kk tpos) (.Call (.Name "zip" pp) [a, b] [] pos) (i_zip (a_cons fa (a_cons fb a_nil))) := by
  obtain ⟨ta, pa, qa⟩ := da_cons ha (da_cons hb da_nil hs2) hs
  refine ⟨_, RZ.pi_zipA hg hm pa hs hpl, fun p Ho Hi H0 H ρ hs σ R S hp => ?_⟩
  refine qa p Ho Hi H0 H ρ hs σ _ S (hp.bind fun ds h1 K0 K vs x rv hp => ?_)
  obtain ⟨z, e, hp2⟩ := hp.lift
  match ds, e, rv with
  | [.tup xs, .tup ys], e, rv =>
    cases e
    obtain ⟨v, w, rfl, h1, h2⟩ := Reps.cons_inv rv
    obtain ⟨v', w', rfl, h3, h4⟩ := Reps.cons_inv h2
    rw [Reps.nil_inv h4]
    obtain ⟨a, vs, rfl, ha, r⟩ := h1.tuple
    obtain ⟨b, ws, rfl, hb, r2⟩ := h3.tuple
    exact ⟨a, b, vs, ws, rfl, .inr ⟨Same.seqT x.st.sub ha, Same.seqT x.st.sub hb, hp2.ok x.st (yj_zipT ha r hb r2)⟩⟩
  | [.lst xs, .lst ys], e, rv =>
    cases e
    obtain ⟨v, w, rfl, h1, h2⟩ := Reps.cons_inv rv
    obtain ⟨v', w', rfl, h3, h4⟩ := Reps.cons_inv h2
    rw [Reps.nil_inv h4]
    obtain ⟨a, vs, rfl, ha, r⟩ := h1.list
    obtain ⟨b, ws, rfl, hb, r2⟩ := h3.list
    exact ⟨a, b, vs, ws, rfl, .inl ⟨SqL.of (x.st.sub _ _ ha), SqL.of (x.st.sub _ _ hb), hp2.ok x.st (yj_zip ha r hb r2)⟩⟩
end
end DL

namespace DL
open PySem PySem.Spec L2
open PyProof.Rows hiding St

/-! ### targets -/
abbrev GM := D → List Sl → Option (List Sl)
abbrev GMs := List D → List Sl → Option (List Sl)
def Off (vs : List Nat) (σ σ' : St) : Prop := σ'.length = σ.length ∧ ∀ j, j ∉ vs → σ'[j]? = σ[j]?
theorem Off.refl {vs : List Nat} {σ : St} : Off vs σ σ := ⟨rfl, fun _ _ => rfl⟩
theorem Off.trans {vs : List Nat} {σ σ1 σ2 : St} (a : Off vs σ σ1) (b : Off vs σ1 σ2) : Off vs σ σ2 := ⟨b.1.trans a.1, fun j hj => (b.2 j hj).trans (a.2 j hj)⟩
theorem Off.mono {vs ws : List Nat} {σ σ1 : St} (a : Off vs σ σ1) (h : ∀ j ∈ vs, j ∈ ws) : Off ws σ σ1 := ⟨a.1, fun j hj => a.2 j fun z => hj (h j z)⟩
def DG (X : Cx) (E : XK) (tg : Expr) (vs : List Nat) (g : GM) : Prop := ∃ t : TG, PG X tg t ∧ ∀ (p : Option Addr) (Ho : Go) (Hi H0 H : Hp) (ρ ρ' : List Sl) (hs : List D) (σ : St) (d : D) (v : V) (Q : St → Hp → Prop),
  SR (Kc X p) Ho Hi ρ hs σ H0 H → Rep (Kc X p) H0 d v → g d ρ = some ρ' → (∀ σ', Off vs σ σ' → SR (Kc X p) Ho Hi ρ' hs σ' H0 H → Q σ' H) → t v σ H Q
def DGs (X : Cx) (E : XK) (tg : List Expr) (vs : List Nat) (g : GMs) : Prop := ∃ t : TGs, PGs X tg t ∧ ∀ (p : Option Addr) (Ho : Go) (Hi H0 H : Hp) (ρ ρ' : List Sl) (hs : List D) (σ : St) (ds : List D) (us : List V) (Q : St → Hp → Prop),
  SR (Kc X p) Ho Hi ρ hs σ H0 H → Reps (Kc X p) H0 ds us → g ds ρ = some ρ' → (∀ σ', Off vs σ σ' → SR (Kc X p) Ho Hi ρ' hs σ' H0 H → Q σ' H) → t us σ H Q
def g_name (i : Nat) : GM := fun d ρ => some (ρ.set i (.val d))
def gs_nil : GMs := fun ds ρ => match ds with | [] => some ρ | _ => none
def gs_cons (g : GM) (gs : GMs) : GMs := fun ds ρ => match ds with | d :: ds => (g d ρ).bind fun ρ => gs ds ρ | [] => none
def g_tup (n : Nat) (gs : GMs) : GM := fun d ρ => match d with | .tup ds => if ds.length = n then gs ds ρ else none | _ => none
section
variable {X : Cx} {E : XK} {e a b c : Expr} {es : List Expr} {fa fb fc : EM} {fr : AM} {pos pp : Pos} {x : Str}
theorem off_set {i : Nat} {σ : St} {o : Option V} : Off [i] σ (σ.set i o) := ⟨List.length_set, fun j hj => List.getElem?_set_ne (fun e => hj (by simp [e]))⟩
theorem dg_name (i : Nat) (hN : X.N.Nodup) (hi : X.N[i]? = some x := by rfl) (hx : Loc X.env.scope x := by first | exact .inl rfl | exact .inr rfl) (hf : X.fn x = true ∨ X.env.scope.names.lookup x = some .local := by first | exact .inl rfl | exact .inr rfl | assumption) : DG X E (.Name x pos) [i] (g_name i) :=
  ⟨_, pg_name hN hi hx hf, fun p Ho Hi H0 H ρ ρ' hs σ d v Q S r e q => by
    cases e
    exact q _ off_set (S.setv r)⟩
theorem dgs_nil : DGs X E [] [] gs_nil := ⟨_, pgs_nil, fun p Ho Hi H0 H ρ ρ' hs σ ds us Q S r e q => by
  cases ds with
  | nil => cases e; exact ⟨r.nil_inv, q _ .refl S⟩
  | cons _ _ => cases e⟩
theorem dgs_cons {vs ws : List Nat} {g : GM} {gs : GMs} (h : DG X E e vs g) (hr : DGs X E es ws gs) (hs : (assignEach (e :: es) X.env).map (·.2) = assign e X.env :: (assignEach es X.env).map (·.2) := by rfl) : DGs X E (e :: es) (vs ++ ws) (gs_cons g gs) := by
  obtain ⟨t, p1, q1⟩ := h
  obtain ⟨u, p2, q2⟩ := hr
  refine ⟨_, pgs_cons p1 p2 hs, fun p Ho Hi H0 H ρ ρ' hs σ ds us Q S r e q => ?_⟩
  cases ds with
  | nil => cases e
  | cons d ds =>
    obtain ⟨ρ1, e1, e2⟩ := Option.bind_eq_some_iff.mp e
    obtain ⟨v, w, rfl, h1, h2⟩ := r.cons_inv
    refine ⟨v, w, rfl, q1 p Ho Hi H0 H ρ ρ1 hs σ d v _ S h1 e1 fun σ1 o1 S1 => ?_⟩
    exact q2 p Ho Hi H0 H ρ1 ρ' hs σ1 ds w Q S1 h2 e2 fun σ2 o2 S2 => q σ2 ((o1.mono fun j h => List.mem_append_left _ h).trans (o2.mono fun j h => List.mem_append_right _ h)) S2
theorem dg_tup {k n : Nat} {vs : List Nat} {gs : GMs} (hc : X.calm = true) (h : DGs X E es vs gs) (hn : (assignEach es X.env).length = n := by rfl) (hst : (assignEach es X.env).findIdx? (·.1) = none := by rfl) : DG X E (.Tuple es k pos) vs (g_tup n gs) := by
  obtain ⟨t, p1, q1⟩ := h
  refine ⟨_, pg_tup hc p1 hn hst, fun p Ho Hi H0 H ρ ρ' hs σ d v Q S r e q => ?_⟩
  cases d with
  | tup ds =>
    simp only [g_tup] at e
    split at e
    · rename_i hl
      obtain ⟨a, us, rfl, ha, r⟩ := r.tuple
      exact ⟨a, us, rfl, Same.seqT S.st.sub ha, by rw [r.length]; exact hl, q1 p Ho Hi H0 H ρ ρ' hs σ ds us Q S r e q⟩
    · cases e
  | _ => cases e
end
/-! the targets' readings by themselves -/
def tDG (K : PySem.W.Frag) (mg : Str → Option Value) (vs : List Nat) (g : GM) : TG := fun v σ H Q => ∃ (p : Option Addr) (Ho : Go) (Hi H0 : Hp) (ρ ρ' : List Sl) (hs : List D) (d : D), SR ⟨K, mg, p⟩ Ho Hi ρ hs σ H0 H ∧ Rep ⟨K, mg, p⟩ H0 d v ∧ g d ρ = some ρ' ∧
  ∀ σ', Off vs σ σ' → SR ⟨K, mg, p⟩ Ho Hi ρ' hs σ' H0 H → Q σ' H
theorem DG.pg {X : Cx} {E : XK} {e : Expr} {vs : List Nat} {g : GM} (h : DG X E e vs g) : PG X e (tDG X.K X.mg vs g) := by
  obtain ⟨t, p, q⟩ := h
  exact ⟨fun pins s σ H v u Q I r ⟨p', Ho, Hi, H0, ρ, ρ', hs, d, S, rd, e, k⟩ => p.run pins s σ H v u Q I r (q p' Ho Hi H0 H ρ ρ' hs σ d v Q S rd e k)⟩

/-! ### comprehensions -/
def wipeR (ρ : List Sl) : List Nat → List Sl
  | [] => ρ
  | v :: vs => (wipeR ρ vs).set v .un
theorem SR.wipe {C : Kx} {Ho : Go} {Hi H0 H : Hp} {ρ : List Sl} {hs : List D} {σ : St} (S : SR C Ho Hi ρ hs σ H0 H) : ∀ vs : List Nat, SR C Ho Hi (wipeR ρ vs) hs (wipe σ vs) H0 H
  | [] => S
  | v :: vs => (SR.wipe S vs).setun
theorem wipe_get {σ : St} {j : Nat} : ∀ {vs : List Nat}, (wipe σ vs)[j]? = if j ∈ vs then (if j < σ.length then some none else none) else σ[j]?
  | [] => by simp [wipe]
  | v :: vs => by
    unfold L2.wipe
    by_cases h : v = j
    · subst h
      by_cases hl : v < σ.length
      · rw [List.getElem?_set_self (by rw [wipe_length]; exact hl)]; simp [hl]
      · rw [List.getElem?_eq_none (by rw [List.length_set, wipe_length]; omega)]; simp [hl]
    · rw [List.getElem?_set_ne h, wipe_get]
      have : (j ∈ v :: vs) ↔ (j ∈ vs) := by simp [List.mem_cons, Ne.symm h]
      simp only [this]
theorem wipe_off {vs : List Nat} {σ σ2 : St} (o : Off vs (wipe σ vs) σ2) : wipe σ2 vs = wipe σ vs := by
  apply List.ext_getElem?
  intro j
  have hl : σ2.length = σ.length := by rw [o.1, wipe_length]
  rw [wipe_get, wipe_get, hl]
  by_cases h : j ∈ vs
  · rw [if_pos h, if_pos h]
  · rw [if_neg h, if_neg h, o.2 j h, wipe_get, if_neg h]
def R.noexc {α : Type} : R α → R α
  | .ok a h => .ok a h
  | _ => .stuck
/-- nothing is wanted of exceptions -/
theorem Post.noexc {C : Kx} {H0 H : Hp} {E E' : XK} {α β : Type} {rel : α → Hp → Hp → β → Prop} {Q : β → Hp → Prop} {r : R α} (h : Post C H0 H E rel Q r.noexc) : Post C H0 H E' rel Q r.noexc := by
  cases r with
  | ok a h1 => exact h
  | exc er h1 => exact (show False from h).elim
  | stuck => exact h
def compL (g : GM) (tt : TM) (te : EM) (ρ : List Sl) : List D → List D → R (List D)
  | [], h => .ok [] h
  | d :: ds, h => (R.lift (g d ρ) h).bind fun ρ1 h => (tt ρ1 h).noexc.bind fun b h => if b then (te ρ1 h).noexc.bind fun y h => (compL g tt te ρ ds h).bind fun ys h => .ok (y :: ys) h else compL g tt te ρ ds h
def l_comp (it : AM) (vs : List Nat) (g : GM) (tt : TM) (te : EM) : AM := fun ρ h => (it ρ h).bind fun ds h => if ds.length ≤ 16777216 then compL g tt te (wipeR ρ vs) ds h else .stuck
def t_yes : TM := fun _ h => .ok true h
/-- what a block's parts must be -/
structure Blk (X : Cx) (scope : Scope) (tg : Expr) (ifs : List Expr) (elt : Expr) (vs : List Nat) (g : GM) (tt : TM) (te : EM) : Prop where
  g : ∀ (s : Shared) (H : Hp) (C : Addr) (cl : List (Str × Addr)) (fp : List Addr), DG (X.blk s H scope (compEnvC scope cl C X.env) fp) E0 tg vs g
  t : ∀ (s : Shared) (H : Hp) (C : Addr) (cl : List (Str × Addr)) (fp : List Addr), PTs (X.blk s H scope (compEnvC scope cl C X.env) fp) ifs (tDT X.K X.mg E0 tt)
  e : ∀ (s : Shared) (H : Hp) (C : Addr) (cl : List (Str × Addr)) (fp : List Addr), DE (X.blk s H scope (compEnvC scope cl C X.env) fp) E0 elt te
theorem Blk.pg {X : Cx} {scope : Scope} {tg : Expr} {ifs : List Expr} {elt : Expr} {vs : List Nat} {g : GM} {tt : TM} {te : EM} (B : Blk X scope tg ifs elt vs g tt te) : ∀ (s : Shared) (H : Hp) (C : Addr) (cl : List (Str × Addr)) (fp : List Addr), PG (X.blk s H scope (compEnvC scope cl C X.env) fp) tg (tDG X.K X.mg vs g) := fun s H C cl fp => (B.g s H C cl fp).pg
theorem Blk.pe {X : Cx} {scope : Scope} {tg : Expr} {ifs : List Expr} {elt : Expr} {vs : List Nat} {g : GM} {tt : TM} {te : EM} (B : Blk X scope tg ifs elt vs g tt te) : ∀ (s : Shared) (H : Hp) (C : Addr) (cl : List (Str × Addr)) (fp : List Addr), PE (X.blk s H scope (compEnvC scope cl C X.env) fp) elt (tDE X.K X.mg E0 te) := fun s H C cl fp => (B.e s H C cl fp).pe
/-- the reading of a comprehension -/
theorem lc_reading {K : PySem.W.Frag} {mg : Str → Option Value} {p : Option Addr} {E : XK} {it : AM} {vs : List Nat} {g : GM} {tt : TM} {te : EM} {wi : TI} {Ho : Go} {Hi H0 H : Hp} {ρ : List Sl} {hs : List D} {σ : St} {Q : VK}
    (S : SR ⟨K, mg, p⟩ Ho Hi ρ hs σ H0 H)
    (qi : ∀ R, Post ⟨K, mg, p⟩ H0 H E (relI ⟨K, mg, p⟩) R (it ρ hs) → wi σ H R)
    (hp : Post ⟨K, mg, p⟩ H0 H E (relF ⟨K, mg, p⟩ H) Q (l_comp it vs g tt te ρ hs)) : tLc wi (tDG K mg vs g) (tDT K mg E0 tt) (tDE K mg E0 te) vs σ H Q := by
  refine qi _ (hp.bind fun ds h1 J0 H1 J x yj hp => ?_)
  have S1 := S.step x
  split at hp
  · rename_i hz
    intro Dl hD
    have hpD : (⟨K, mg, p⟩ : Kx).p ≠ some Dl := x.st.hand_ne hD
    have hD0 : H Dl = none := x.gone S.st hD
    -- the invariant: so many turns, what is made so far
    refine ⟨fun i m K1 => m = ds.length - i ∧ i ≤ ds.length ∧ ∃ (K0 : Hp) (h : List D) (acc : List D) (vacc : List V), Ext ⟨K, mg, p⟩ J0 H1 K0 K1 h ∧ K1 Dl = some (.lst vacc) ∧ K0 Dl = none ∧ Reps ⟨K, mg, p⟩ K0 acc vacc ∧ acc.length ≤ i ∧
      Post ⟨K, mg, p⟩ J0 H1 E (relF ⟨K, mg, p⟩ H) Q ((compL g tt te (wipeR ρ vs) (ds.drop i) h).bind fun ys h => .ok (acc ++ ys) h), ⟨ds.length, by simp, Nat.zero_le _, J0, h1, [], [], x.st.laid hD, upd_same, x.st.sub.free hD, Reps.nil, Nat.le_refl _, ?_⟩, ?_⟩
    · have e : ∀ r : R (List D), (r.bind fun ys h => .ok ([] ++ ys) h) = r := fun r => by cases r <;> rfl
      rw [e]
      exact hp
    · rintro i m K1 ⟨rfl, hi, K0, h, acc, vacc, y, eD, eD0, ra, hacc, hp⟩
      by_cases hlt : i < ds.length
      · have ed : ds[i]? = some ds[i] := by simp [hlt]
        have sm : Same J0 K0 := y.sub0
        obtain ⟨h2, _⟩ := yj i K0 K1 h sm y.st
        obtain ⟨go, yl⟩ := h2 _ ed
        rw [List.drop_eq_getElem_cons hlt] at hp
        refine .inr ⟨go, _, fun H' w => ⟨ds.length - (i + 1), by omega, rfl, hlt, w⟩, fun x2 K2 hy => ?_⟩
        obtain ⟨L0, z, rx⟩ := yl x2 K2 hy
        have y2 := y.trans z
        have zD : K2 Dl = some (.lst vacc) := z.keep _ _ eD hpD
        have zD0 : L0 Dl = none := by
          cases q : L0 Dl with
          | none => rfl
          | some o => exact absurd (z.new Dl eD0 (by rw [q]; simp)) (by rw [eD]; simp)
        have S2 := (S1.step y2).wipe vs
        -- the target
        have hp : Post ⟨K, mg, p⟩ J0 H1 E (relF ⟨K, mg, p⟩ H) Q (((R.lift (g ds[i] (wipeR ρ vs)) h).bind fun ρ1 h => (tt ρ1 h).noexc.bind fun b h => if b then (te ρ1 h).noexc.bind fun y h => (compL g tt te (wipeR ρ vs) (ds.drop (i + 1)) h).bind fun ys h => .ok (y :: ys) h else compL g tt te (wipeR ρ vs) (ds.drop (i + 1)) h).bind fun ys h => .ok (acc ++ ys) h) := hp
        cases eg : g ds[i] (wipeR ρ vs) with
        | none => rw [eg] at hp; exact (show False from hp).elim
        | some ρ1 =>
          rw [eg] at hp
          refine ⟨p, Ho, Hi, L0, wipeR ρ vs, ρ1, h, ds[i], S2, rx, eg, fun σ2 o2 S3 => ⟨wipe_off o2, ?_⟩⟩
          have hp : Post ⟨K, mg, p⟩ J0 H1 E (relF ⟨K, mg, p⟩ H) Q (((tt ρ1 h).noexc.bind fun b h => if b then (te ρ1 h).noexc.bind fun y h => (compL g tt te (wipeR ρ vs) (ds.drop (i + 1)) h).bind fun ys h => .ok (y :: ys) h else compL g tt te (wipeR ρ vs) (ds.drop (i + 1)) h).bind fun ys h => .ok (acc ++ ys) h) := hp
          refine ⟨p, Ho, Hi, L0, ρ1, h, S3, ?_⟩
          cases et : tt ρ1 h with
          | exc er h2 => rw [et] at hp; exact (show False from hp).elim
          | stuck => rw [et] at hp; exact (show False from hp).elim
          | ok bb h2 =>
            rw [et] at hp
            intro M0 M bv w ebv
            cases ebv
            have yw := y2.trans w
            have wD : M Dl = some (.lst vacc) := w.keep _ _ zD hpD
            have wD0 : M0 Dl = none := by
              cases q : M0 Dl with
              | none => rfl
              | some o => exact absurd (w.new Dl zD0 (by rw [q]; simp)) (by rw [zD]; simp)
            have raw := (ra.mono z.sub0 _ _).mono w.sub0 _ _
            cases bb with
            | false =>
              rw [if_neg Bool.false_ne_true]
              refine ⟨M0, h2, acc, vacc, yw, wD, wD0, raw, by omega, ?_⟩
              exact hp
            | true =>
              rw [if_pos rfl]
              have hp : Post ⟨K, mg, p⟩ J0 H1 E (relF ⟨K, mg, p⟩ H) Q (((te ρ1 h2).noexc.bind fun y h => (compL g tt te (wipeR ρ vs) (ds.drop (i + 1)) h).bind fun ys h => .ok (y :: ys) h).bind fun ys h => .ok (acc ++ ys) h) := hp
              refine ⟨p, Ho, Hi, M0, ρ1, h2, S3.step w, ?_⟩
              cases ee : te ρ1 h2 with
              | exc er h3 => rw [ee] at hp; exact (show False from hp).elim
              | stuck => rw [ee] at hp; exact (show False from hp).elim
              | ok yd h3 =>
                rw [ee] at hp
                intro N0 N yv u ry
                have yu := yw.trans u
                have uD : N Dl = some (.lst vacc) := u.keep _ _ wD hpD
                have uD0 : N0 Dl = none := by
                  cases q : N0 Dl with
                  | none => rfl
                  | some o => exact absurd (u.new Dl wD0 (by rw [q]; simp)) (by rw [wD]; simp)
                refine ⟨vacc, uD, by rw [ra.length, sizeLine_eq]; omega, ?_⟩
                refine ⟨N0, h3, acc ++ [yd], vacc ++ [yv], yu.updq hD uD0 hpD, upd_same, uD0, (raw.mono u.sub0 _ _).append (Reps.cons ry Reps.nil), by rw [List.length_append]; simp; omega, ?_⟩
                have e : ((R.ok yd h3).noexc.bind fun y h => (compL g tt te (wipeR ρ vs) (ds.drop (i + 1)) h).bind fun ys h => R.ok (y :: ys) h).bind (fun ys h => R.ok (acc ++ ys) h) = (compL g tt te (wipeR ρ vs) (ds.drop (i + 1)) h3).bind fun ys h => .ok (acc ++ [yd] ++ ys) h := by
                  show ((compL g tt te (wipeR ρ vs) (ds.drop (i + 1)) h3).bind fun ys h => R.ok (yd :: ys) h).bind (fun ys h => R.ok (acc ++ ys) h) = _
                  cases compL g tt te (wipeR ρ vs) (ds.drop (i + 1)) h3 with
                  | ok ys h4 => simp [R.bind]
                  | exc er h4 => rfl
                  | stuck => rfl
                rw [e] at hp
                exact hp
      · have ei : i = ds.length := by omega
        subst ei
        obtain ⟨_, st⟩ := yj ds.length K0 K1 h y.sub0 y.st
        refine .inl ⟨st (Nat.le_refl _), ?_⟩
        rw [List.drop_length] at hp
        have hp : Post ⟨K, mg, p⟩ J0 H1 E (relF ⟨K, mg, p⟩ H) Q (.ok (acc ++ []) h) := hp
        rw [List.append_nil] at hp
        exact hp K0 K1 _ y ⟨Dl, vacc, rfl, hD0, eD, eD0, ra⟩
  · exact (show False from hp).elim
section
variable {X : Cx} {E : XK} {e a b c : Expr} {es : List Expr} {fa fb fc : EM} {fr : AM} {pos pp : Pos} {x : Str} {elt tg iter : Expr} {ifs : List Expr} {scope : Scope} {own : List (Str × Nat)} {g : GM} {tt : TM} {te : EM} {it : AM}
theorem pts_nil' {X : Cx} {K : PySem.W.Frag} {mg : Str → Option Value} : PTs X [] (tDT K mg E0 t_yes) := ⟨fun pins s σ H Q I h => by
  obtain ⟨p, Ho, Hi, H0, ρ, hs, S, hp⟩ := h
  exact wpAny_tests_nil ⟨H, I, hp.ok S.st rfl⟩⟩
theorem pts_one' {X : Cx} {c : Expr} {f : TM} (h : DT X E0 c f) : PTs X [c] (tDT X.K X.mg E0 f) := pts_one h.pt
theorem df_comp (hc : X.calm = true) (hN : X.N.Nodup) (hi : DI X E tg iter it) (ok : BlkOk X.N X.env.scope scope own) (B : Blk X scope tg ifs elt (own.map (·.2)) g tt te) (hs : ∀ x, foldedSetIterable iter X.env x = pure x := by intro _; rfl) :
    DF X E (.ListComp elt [⟨tg, iter, ifs, 0⟩] scope pos) (l_comp it (own.map (·.2)) g tt te) := by
  obtain ⟨wi, pi, qi⟩ := hi
  refine ⟨_, pe_lc hc hN pi ok B.pg B.t B.pe hs, fun p Ho Hi H0 H ρ hs' σ Q S hp => ?_⟩
  exact lc_reading S (fun R => qi p Ho Hi H0 H ρ hs' σ R S) hp
end

/-! ### statements -/
inductive Fl where
  | nx (ρ : List Sl) | rt (d : D)
abbrev SM := List Sl → List D → R Fl
def PostS (C : Kx) (Ho : Go) (Hi H0 : Hp) (E : XK) (Dn : Ends) : R Fl → Prop
  | .ok (.nx ρ) hs => ∀ σ K0 K, Same H0 K0 → SR C Ho Hi ρ hs σ K0 K → Dn.nx σ K
  | .ok (.rt d) hs => ∀ K0 K v, Ext C Ho.h Hi K0 K hs → Rep C K0 d v → Dn.rt v K
  | .exc er hs => ∀ K0 K c dd, Ext C Ho.h Hi K0 K hs → ErR C K0 K er c dd → E c dd K
  | .stuck => False
def DS (X : Cx) (E : XK) (s : Stmt) (f : SM) : Prop := ∃ t, PS X s t ∧ ∀ (p : Option Addr) (Ho : Go) (Hi H0 H : Hp) (ρ : List Sl) (hs : List D) (σ : St) (Dn : Ends),
  SR (Kc X p) Ho Hi ρ hs σ H0 H → PostS (Kc X p) Ho Hi H0 E Dn (f ρ hs) → t Dn σ H
def DSs (X : Cx) (E : XK) (s : List Stmt) (f : SM) : Prop := ∃ t, PSs X s t ∧ ∀ (p : Option Addr) (Ho : Go) (Hi H0 H : Hp) (ρ : List Sl) (hs : List D) (σ : St) (Dn : Ends),
  SR (Kc X p) Ho Hi ρ hs σ H0 H → PostS (Kc X p) Ho Hi H0 E Dn (f ρ hs) → t Dn σ H
theorem PostS.shift {C : Kx} {Ho : Go} {Hi H0 K0 : Hp} {E : XK} {Dn : Ends} {r : R Fl} (sm : Same H0 K0) (h : PostS C Ho Hi H0 E Dn r) : PostS C Ho Hi K0 E Dn r := by
  cases r with
  | ok a h1 =>
    cases a with
    | nx ρ => exact fun σ L0 L s S => h σ L0 L (sm.trans s) S
    | rt d => exact h
  | exc er h1 => exact h
  | stuck => exact h
/-- an expression ahead of what a statement does -/
theorem PostS.expr {C : Kx} {Ho : Go} {Hi H0 H : Hp} {E : XK} {Dn : Ends} {ρ : List Sl} {hs : List D} {σ : St} {α β : Type} {rel : α → Hp → Hp → β → Prop} {Q : β → Hp → Prop} {r : R α} {k : α → List D → R Fl} (S : SR C Ho Hi ρ hs σ H0 H) (h : PostS C Ho Hi H0 E Dn (r.bind k))
    (hk : ∀ a h1 K0 K b, Ext C H0 H K0 K h1 → SR C Ho Hi ρ h1 σ K0 K → rel a K0 K b → PostS C Ho Hi K0 E Dn (k a h1) → Q b K) : Post C H0 H E rel Q r := by
  cases r with
  | ok a h1 => exact fun K0 K b x q => hk a h1 K0 K b x (S.step x) q (PostS.shift x.sub0 h)
  | exc er h1 => exact fun K0 K c dd x e => h K0 K c dd (S.ext.trans x) e
  | stuck => exact h
def s_nil : SM := fun ρ h => .ok (.nx ρ) h
def Fl.then : Fl → SM → List D → R Fl
  | .nx ρ, g, h => g ρ h
  | .rt d, _, h => .ok (.rt d) h
def s_seq (f g : SM) : SM := fun ρ h => (f ρ h).bind fun fl h => fl.then g h
theorem PostS.seq {C : Kx} {Ho : Go} {Hi H0 : Hp} {E : XK} {Dn : Ends} {r : R Fl} {g : SM} {N : St → Hp → Prop} (h : PostS C Ho Hi H0 E Dn (r.bind fun fl h => fl.then g h))
    (hk : ∀ ρ h1 σ K0 K, Same H0 K0 → SR C Ho Hi ρ h1 σ K0 K → PostS C Ho Hi K0 E Dn (g ρ h1) → N σ K) : PostS C Ho Hi H0 E { Dn with nx := N } r := by
  cases r with
  | ok a h1 =>
    cases a with
    | nx ρ => exact fun σ K0 K s S => hk ρ h1 σ K0 K s S (PostS.shift s h)
    | rt d => exact h
  | exc er h1 => exact h
  | stuck => exact h
section
variable {X : Cx} {E : XK} {e a b c : Expr} {es : List Expr} {fa fb fc : EM} {fr : AM} {pos pp : Pos} {x : Str} {st : Stmt} {sts : List Stmt} {f g : SM}
theorem dss_nil : DSs X E [] s_nil := ⟨_, pss_nil, fun p Ho Hi H0 H ρ hs σ Dn S hp => hp σ H0 H (Same.refl _) S⟩
theorem dss_cons (h : DS X E st f) (hr : DSs X E sts g) : DSs X E (st :: sts) (s_seq f g) := by
  obtain ⟨t, p1, q1⟩ := h
  obtain ⟨u, p2, q2⟩ := hr
  refine ⟨_, pss_cons p1 p2, fun p Ho Hi H0 H ρ hs σ Dn S hp => ?_⟩
  exact q1 p Ho Hi H0 H ρ hs σ _ S (PostS.seq hp fun ρ1 h1 σ1 K0 K sm S1 hp1 => q2 p Ho Hi K0 K ρ1 h1 σ1 Dn S1 hp1)
theorem dss_one (h : DS X E st f) : DSs X E [st] f := by
  obtain ⟨t, p1, q1⟩ := h
  exact ⟨_, pss_one p1, q1⟩
/-- code that is never come to -/
def s_never : SM := fun _ _ => .stuck
theorem ds_never : DS X E st s_never := ⟨_, ps_never, fun p Ho Hi H0 H ρ hs σ Dn S hp => (show False from hp).elim⟩
theorem dss_never : DSs X E sts s_never := ⟨_, pss_never, fun p Ho Hi H0 H ρ hs σ Dn S hp => (show False from hp).elim⟩
/-- an owned list is frozen -/
def frzR (i : Nat) (ρ : List Sl) : List Sl := match ρ[i]? with
  | some (.own ds) => ρ.set i (.val (.lst ds))
  | _ => ρ
def s_frz (i : Nat) (f : SM) : SM := fun ρ h => f (frzR i ρ) h
theorem SR.frzR {C : Kx} {Ho : Go} {Hi H0 H : Hp} {ρ : List Sl} {hs : List D} {σ : St} (S : SR C Ho Hi ρ hs σ H0 H) (i : Nat) : ∃ K0, SR C Ho Hi (frzR i ρ) hs σ K0 H ∧ Same H0 K0 := by
  unfold DL.frzR
  split
  · rename_i ds e
    obtain ⟨a, vs, ea, h, h0, hi, r⟩ := S.own e
    exact ⟨_, S.freeze e ea h h0 hi r⟩
  · exact ⟨H0, S, Same.refl _⟩
theorem dss_frz (i : Nat) (h : DSs X E sts f) : DSs X E sts (s_frz i f) := by
  obtain ⟨t, p1, q1⟩ := h
  refine ⟨t, p1, fun p Ho Hi H0 H ρ hs σ Dn S hp => ?_⟩
  obtain ⟨K0, S1, sm⟩ := S.frzR i
  exact q1 p Ho Hi K0 H _ hs σ Dn S1 (PostS.shift sm hp)
theorem ds_frz (i : Nat) (h : DS X E st f) : DS X E st (s_frz i f) := by
  obtain ⟨t, p1, q1⟩ := h
  refine ⟨t, p1, fun p Ho Hi H0 H ρ hs σ Dn S hp => ?_⟩
  obtain ⟨K0, S1, sm⟩ := S.frzR i
  exact q1 p Ho Hi K0 H _ hs σ Dn S1 (PostS.shift sm hp)
/-! small statements -/
def s_set (i : Nat) (a : EM) : SM := fun ρ h => (a ρ h).bind fun x h => .ok (.nx (ρ.set i (.val x))) h
theorem ds_set (i : Nat) {pos' : Pos} (hN : X.N.Nodup) (ha : DE X E e fa) (hi : X.N[i]? = some x := by rfl) (hx : Loc X.env.scope x := by first | exact .inl rfl | exact .inr rfl) (hs : swapsWith e (some (.Name x pos')) pos.line X.env = pure false := by rfl) (hf : X.fn x = true ∨ X.env.scope.names.lookup x = some .local := by first | exact .inl rfl | exact .inr rfl | assumption) :
    DS X E (.Assign [.Name x pos'] e pos) (s_set i fa) := by
  obtain ⟨ta, pa, qa⟩ := ha
  refine ⟨_, ps_set hN hi hx pa hs hf, fun p Ho Hi H0 H ρ hs' σ Dn S hp => ?_⟩
  refine qa p Ho Hi H0 H ρ hs' σ _ S (PostS.expr S hp fun d h1 K0 K v x S1 rv hp => ?_)
  exact hp _ K0 K (Same.refl _) (S1.setv rv)
def s_seto (i : Nat) (a : AM) : SM := fun ρ h => (a ρ h).bind fun x h => .ok (.nx (ρ.set i (.own x))) h
theorem SR.fresh {C : Kx} {Ho : Go} {Hi H0 H K0 K : Hp} {ρ : List Sl} {hs h1 : List D} {σ : St} (S : SR C Ho Hi ρ hs σ H0 H) {q : Addr} (h : H q = none) : Hi q = none ∧ ∀ (j : Nat) (es : List D), ρ[j]? = some (.own es) → σ[j]? ≠ some (some (.ref q)) := by
  refine ⟨?_, fun j es e z => ?_⟩
  · cases e : Hi q with
    | none => rfl
    | some o =>
      by_cases hp : C.p = some q
      · obtain ⟨_, vs, h2, _⟩ := S.st.hand q hp
        rw [h] at h2; cases h2
      · rw [S.ext.keep q o e hp] at h; cases h
  · obtain ⟨a, vs, ea, h2, _⟩ := S.own e
    rw [ea] at z
    cases z
    rw [h] at h2; cases h2
theorem ds_seto (i : Nat) {pos' : Pos} {f : AM} (hN : X.N.Nodup) (ha : DF X E e f) (hi : X.N[i]? = some x := by rfl) (hx : Loc X.env.scope x := by first | exact .inl rfl | exact .inr rfl) (hs : swapsWith e (some (.Name x pos')) pos.line X.env = pure false := by rfl) (hf : X.fn x = true ∨ X.env.scope.names.lookup x = some .local := by first | exact .inl rfl | exact .inr rfl | assumption) :
    DS X E (.Assign [.Name x pos'] e pos) (s_seto i f) := by
  obtain ⟨ta, pa, qa⟩ := ha
  refine ⟨_, ps_set hN hi hx pa hs hf, fun p Ho Hi H0 H ρ hs' σ Dn S hp => ?_⟩
  refine qa p Ho Hi H0 H ρ hs' σ _ S (PostS.expr S hp fun d h1 K0 K v x S1 rv hp => ?_)
  obtain ⟨q, vs, e, hq, h1, h0, r⟩ := rv
  subst e
  obtain ⟨hi', hne⟩ := S.fresh (K0 := K0) (K := K) (h1 := d) hq
  exact hp _ K0 K (Same.refl _) (S1.seto h1 h0 hi' r hne)
/-- x = [.. for ..], frozen or owned -/
theorem ds_setLc (i : Nat) {py : Pos} {spos : Pos} {elt tg iter : Expr} {ifs : List Expr} {scope : Scope} {own : List (Str × Nat)} {g : GM} {tt : TM} {te : EM} {it : AM} (hc : X.calm = true) (hN : X.N.Nodup) (hsw : swapsWith (.ListComp elt [⟨tg, iter, ifs, 0⟩] scope pos) (some (.Name x py)) spos.line X.env = pure true) (hi : DI X E tg iter it) (ok : BlkOk X.N X.env.scope scope own)
    (B : Blk X scope tg ifs elt (own.map (·.2)) g tt te) (hy : X.N[i]? = some x := by rfl) (hyl : X.env.scope.names.lookup x = some .local := by rfl) (hs : ∀ x, foldedSetIterable iter X.env x = pure x := by intro _; rfl) :
    DS X E (.Assign [.Name x py] (.ListComp elt [⟨tg, iter, ifs, 0⟩] scope pos) spos) (s_seto i (l_comp it (own.map (·.2)) g tt te)) := by
  obtain ⟨wi, pi, qi⟩ := hi
  refine ⟨_, ps_setLc hc hN hy hyl hsw pi ok B.pg B.t B.pe hs, fun p Ho Hi H0 H ρ hs' σ Dn S hp => ?_⟩
  refine lc_reading S (fun R => qi p Ho Hi H0 H ρ hs' σ R S) (PostS.expr S hp fun d h1 K0 K v x S1 rv hp => ?_)
  obtain ⟨q, vs, e, hq, h1, h0, r⟩ := rv
  subst e
  obtain ⟨hi', hne⟩ := S.fresh (K0 := K0) (K := K) (h1 := d) hq
  exact hp _ K0 K (Same.refl _) (S1.seto h1 h0 hi' r hne)
/-- a, b = e -/
def s_unp (g : GM) (a : EM) : SM := fun ρ h => (a ρ h).bind fun x h => (R.lift (g x ρ) h).bind fun ρ h => .ok (.nx ρ) h
theorem ds_unp {tg : Expr} {vs : List Nat} {g : GM} (ha : DE X E e fa) (hg : DG X E tg vs g) (hs : swapsWithSole [tg] e pos.line X.env = pure false := by rfl) (hw : swappedStores [tg] e X.env = pure none := by rfl) (h1 : (assignEach [tg] X.env).map (·.2) = [assign tg X.env] := by rfl) :
    DS X E (.Assign [tg] e pos) (s_unp g fa) := by
  obtain ⟨ta, pa, qa⟩ := ha
  obtain ⟨tg, pg, qg⟩ := hg
  refine ⟨_, ps_asg pa pg hs hw h1, fun p Ho Hi H0 H ρ hs' σ Dn S hp => ?_⟩
  refine qa p Ho Hi H0 H ρ hs' σ _ S (PostS.expr S hp fun d h1 K0 K v x S1 rv hp => ?_)
  cases eg : g d ρ with
  | none => rw [eg] at hp; exact (show False from hp).elim
  | some ρ' =>
    rw [eg] at hp
    exact qg p Ho Hi K0 K ρ ρ' h1 σ d v _ S1 rv eg fun σ' _ S2 => hp σ' K0 K (Same.refl _) S2
/-- x op= e, ints -/
def s_aug (i : Nat) (op : D → D → Option D) (a : EM) : SM := fun ρ h => (e_var i ρ h).bind fun y h => (a ρ h).bind fun x h => (R.lift (op y x) h).bind fun z h => .ok (.nx (ρ.set i (.val z))) h
def addI : D → D → Option D
  | .int a, .int b => some (.int (a + b))
  | _, _ => none
theorem ds_aug (i : Nat) {pos' : Pos} {op : Operator} {gI : Int → Int → Int} {gd : D → D → Option D} (hN : X.N.Nodup) (ho : PIp X op (ipI gI)) (hgd : ∀ x y z, gd x y = some z → ∃ a b, x = .int a ∧ y = .int b ∧ z = .int (gI a b)) (ha : DE X E e fa) (hi : X.N[i]? = some x := by rfl) (hx : Loc X.env.scope x := by first | exact .inl rfl | exact .inr rfl) (hf : X.fn x = true ∨ X.env.scope.names.lookup x = some .local := by first | exact .inl rfl | exact .inr rfl | assumption) :
    DS X E (.AugAssign (.Name x pos') op e pos) (s_aug i gd fa) := by
  obtain ⟨ta, pa, qa⟩ := ha
  refine ⟨_, ps_aug hN hi hx pa ho hf, fun p Ho Hi H0 H ρ hs' σ Dn S hp => ?_⟩
  unfold s_aug e_var at hp
  split at hp
  · rename_i y ey
    obtain ⟨v, e1, rv⟩ := S.var ey
    have hp : PostS (Kc X p) Ho Hi H0 E Dn ((fa ρ hs').bind fun x h => (R.lift (gd y x) h).bind fun z h => .ok (.nx (ρ.set i (.val z))) h) := hp
    refine ⟨v, e1, qa p Ho Hi H0 H ρ hs' σ _ S (PostS.expr S hp fun d h1 K0 K u x S1 ru hp => ?_)⟩
    cases eg : gd y d with
    | none => rw [eg] at hp; exact (show False from hp).elim
    | some z =>
      rw [eg] at hp
      obtain ⟨i1, i2, rfl, rfl, rfl⟩ := hgd _ _ _ eg
      rw [rep_int] at rv
      have ru : u = .int i2 := rep_int.mp ru
      exact ⟨i1, i2, rv, ru, hp _ K0 K (Same.refl _) (S1.setv (rep_int.mpr rfl))⟩
  · exact (show False from hp).elim
def s_expr (a : EM) : SM := fun ρ h => (a ρ h).bind fun _ h => .ok (.nx ρ) h
theorem ds_expr (ha : DE X E e fa) (hs : swapsWith e none pos.line X.env = pure false := by rfl) : DS X E (.Expr e pos) (s_expr fa) := by
  obtain ⟨ta, pa, qa⟩ := ha
  refine ⟨_, ps_expr pa hs, fun p Ho Hi H0 H ρ hs' σ Dn S hp => ?_⟩
  exact qa p Ho Hi H0 H ρ hs' σ _ S (PostS.expr S hp fun d h1 K0 K u x S1 ru hp => hp σ K0 K (Same.refl _) S1)
def s_ret (a : EM) : SM := fun ρ h => (a ρ h).bind fun x h => .ok (.rt x) h
theorem ds_ret (ha : DE X E e fa) : DS X E (.Return (some e) pos) (s_ret fa) := by
  obtain ⟨ta, pa, qa⟩ := ha
  refine ⟨_, ps_ret pa, fun p Ho Hi H0 H ρ hs' σ Dn S hp => ?_⟩
  exact qa p Ho Hi H0 H ρ hs' σ _ S (PostS.expr S hp fun d h1 K0 K u x S1 ru hp => hp K0 K u S1.ext ru)
def s_if (c : TM) (f g : SM) : SM := fun ρ h => (c ρ h).bind fun b h => if b then f ρ h else g ρ h
theorem ds_if {fc : TM} {as bs : List Stmt} (hc : DT X E c fc) (ha : DSs X E as f) (hb : DSs X E bs g) : DS X E (.If c as bs pos) (s_if fc f g) := by
  obtain ⟨tc, pc, qc⟩ := hc
  obtain ⟨ta, pa, qa⟩ := ha
  obtain ⟨tb, pb, qb⟩ := hb
  refine ⟨_, ps_if pc pa pb, fun p Ho Hi H0 H ρ hs' σ Dn S hp => ?_⟩
  refine qc p Ho Hi H0 H ρ hs' σ _ S (PostS.expr (rel := relB) S hp fun d h1 K0 K u x S1 ru hp => ?_)
  cases ru
  cases d with
  | true => exact qa p Ho Hi K0 K ρ h1 σ Dn S1 hp
  | false => exact qb p Ho Hi K0 K ρ h1 σ Dn S1 hp
/-! loops -/
def forL (g : GM) (body : SM) : List D → SM
  | [], ρ, h => .ok (.nx ρ) h
  | d :: ds, ρ, h => (R.lift (g d ρ) h).bind fun ρ1 h => (body ρ1 h).bind fun fl h => fl.then (forL g body ds) h
def s_for (it : AM) (g : GM) (body : SM) : SM := fun ρ h => (it ρ h).bind fun ds h => forL g body ds ρ h
theorem ds_for (C : Ctx X E) {tg iter : Expr} {vs : List Nat} {it : AM} {g : GM} {body : List Stmt} {fb : SM} (hi : DI X E tg iter it) (hg : DG X E tg vs g) (hb : DSs X E body fb) (hs : ∀ x, foldedSetIterable iter X.env x = pure x := by intro _; rfl) : DS X E (.For tg iter body [] pos) (s_for it g fb) := by
  obtain ⟨wi, pi, qi⟩ := hi
  obtain ⟨tg, pg, qg⟩ := hg
  obtain ⟨tb, pb, qb⟩ := hb
  refine ⟨_, ps_for C.own C.calm pi pg pb hs, fun p Ho Hi H0 H ρ hs' σ Dn S hp => ?_⟩
  refine qi p Ho Hi H0 H ρ hs' σ _ S (PostS.expr S hp fun ds h1 J0 H1 J x S1 yj hp => ?_)
  refine ⟨fun i m σ1 K1 => m = ds.length - i ∧ i ≤ ds.length ∧ ∃ (K0 : Hp) (ρ1 : List Sl) (h : List D), Same J0 K0 ∧ SR (Kc X p) Ho Hi ρ1 h σ1 K0 K1 ∧ PostS (Kc X p) Ho Hi K0 E Dn (forL g fb (ds.drop i) ρ1 h), ⟨ds.length, by simp, Nat.zero_le _, J0, ρ, h1, Same.refl _, S1, hp⟩, ?_⟩
  rintro i m σ1 K1 ⟨rfl, hi, K0, ρ1, h, sm, S2, hp⟩
  by_cases hlt : i < ds.length
  · have ed : ds[i]? = some ds[i] := by simp [hlt]
    obtain ⟨h2, _⟩ := yj i K0 K1 h sm S2.st
    obtain ⟨go, yl⟩ := h2 _ ed
    rw [List.drop_eq_getElem_cons hlt] at hp
    refine .inr ⟨go, _, fun σ' H' w => ⟨ds.length - (i + 1), by omega, rfl, hlt, w⟩, fun x2 K2 hy => ?_⟩
    obtain ⟨L0, z, rx⟩ := yl x2 K2 hy
    have S3 := S2.step z
    have hp : PostS (Kc X p) Ho Hi K0 E Dn ((R.lift (g ds[i] ρ1) h).bind fun ρ1 h => (fb ρ1 h).bind fun fl h => fl.then (forL g fb (ds.drop (i + 1))) h) := hp
    cases eg : g ds[i] ρ1 with
    | none => rw [eg] at hp; exact (show False from hp).elim
    | some ρ2 =>
      rw [eg] at hp
      have hp : PostS (Kc X p) Ho Hi K0 E Dn ((fb ρ2 h).bind fun fl h => fl.then (forL g fb (ds.drop (i + 1))) h) := hp
      refine qg p Ho Hi L0 K2 ρ1 ρ2 h σ1 ds[i] x2 _ S3 rx eg fun σ2 _ S4 => ?_
      have hp := PostS.shift z.sub0 hp
      refine qb p Ho Hi L0 K2 ρ2 h σ2 _ S4 ?_
      have key : PostS (Kc X p) Ho Hi L0 E { Dn with nx := fun σ' H' => ∃ (K0 : Hp) (ρ1 : List Sl) (h : List D), Same J0 K0 ∧ SR (Kc X p) Ho Hi ρ1 h σ' K0 H' ∧ PostS (Kc X p) Ho Hi K0 E Dn (forL g fb (ds.drop (i + 1)) ρ1 h) } (fb ρ2 h) :=
        PostS.seq hp fun ρ3 h3 σ3 M0 M sm3 S5 hp3 => ⟨M0, ρ3, h3, (sm.trans z.sub0).trans sm3, S5, hp3⟩
      cases er : fb ρ2 h with
      | ok fl h5 =>
        rw [er] at key
        cases fl with
        | nx ρ5 => exact key
        | rt d => exact key
      | exc e h5 => rw [er] at key; exact key
      | stuck => rw [er] at key; exact key
  · have ei : i = ds.length := by omega
    subst ei
    obtain ⟨_, st⟩ := yj ds.length K0 K1 h sm S2.st
    rw [List.drop_length] at hp
    exact .inl ⟨st (Nat.le_refl _), hp σ1 K0 K1 (Same.refl _) S2⟩
def whileN (c : TM) (body : SM) : Nat → SM
  | 0, _, _ => .stuck
  | n + 1, ρ, h => (c ρ h).bind fun b h => if b then (body ρ h).bind fun fl h => fl.then (whileN c body n) h else .ok (.nx ρ) h
theorem ds_while (C : Ctx X E) (n : Nat) {fc : TM} {body : List Stmt} {fb : SM} (hc : DT X E c fc) (hb : DSs X E body fb) : DS X E (.While c body [] pos) (whileN fc fb n) := by
  obtain ⟨tc, pc, qc⟩ := hc
  obtain ⟨tb, pb, qb⟩ := hb
  refine ⟨_, ps_while C.own pc pb, fun p Ho Hi H0 H ρ hs' σ Dn S hp => ?_⟩
  refine ⟨fun m σ1 K1 => ∃ (K0 : Hp) (ρ1 : List Sl) (h : List D), Same H0 K0 ∧ SR (Kc X p) Ho Hi ρ1 h σ1 K0 K1 ∧ PostS (Kc X p) Ho Hi K0 E Dn (whileN fc fb m ρ1 h), ⟨n, H0, ρ, hs', Same.refl _, S, hp⟩, ?_⟩
  rintro m σ1 K1 ⟨K0, ρ1, h, sm, S1, hp⟩
  cases m with
  | zero => exact (show False from hp).elim
  | succ m =>
    have hp : PostS (Kc X p) Ho Hi K0 E Dn ((fc ρ1 h).bind fun b h => if b then (fb ρ1 h).bind fun fl h => fl.then (whileN fc fb m) h else .ok (.nx ρ1) h) := hp
    refine qc p Ho Hi K0 K1 ρ1 h σ1 _ S1 (PostS.expr (rel := relB) S1 hp fun d h1 L0 L u x S2 ru hp => ?_)
    cases ru
    cases d with
    | false => exact hp σ1 L0 L (Same.refl _) S2
    | true =>
      rw [if_pos rfl]
      have hp : PostS (Kc X p) Ho Hi L0 E Dn ((fb ρ1 h1).bind fun fl h => fl.then (whileN fc fb m) h) := hp
      refine ⟨fun σ' H' => ∃ (K0 : Hp) (ρ1 : List Sl) (h : List D), Same H0 K0 ∧ SR (Kc X p) Ho Hi ρ1 h σ' K0 H' ∧ PostS (Kc X p) Ho Hi K0 E Dn (whileN fc fb m ρ1 h), fun σ' H' w => ⟨m, Nat.lt_succ_self _, w⟩, ?_⟩
      refine qb p Ho Hi L0 L ρ1 h1 σ1 _ S2 ?_
      have key : PostS (Kc X p) Ho Hi L0 E { Dn with nx := fun σ' H' => ∃ (K0 : Hp) (ρ1 : List Sl) (h : List D), Same H0 K0 ∧ SR (Kc X p) Ho Hi ρ1 h σ' K0 H' ∧ PostS (Kc X p) Ho Hi K0 E Dn (whileN fc fb m ρ1 h) } (fb ρ1 h1) :=
        PostS.seq hp fun ρ3 h3 σ3 M0 M sm3 S5 hp3 => ⟨M0, ρ3, h3, (sm.trans x.sub0).trans sm3, S5, hp3⟩
      cases er : fb ρ1 h1 with
      | ok fl h5 =>
        rw [er] at key
        cases fl with
        | nx ρ5 => exact key
        | rt d => exact key
      | exc e h5 => rw [er] at key; exact key
      | stuck => rw [er] at key; exact key
end
end DL

namespace DL
open PySem PySem.Spec L2
open PyProof.Rows hiding St

/-! ### reading an owned list -/
def relO (C : Kx) : D → Hp → Hp → V → Prop := fun d H0 H v => Rep C H0 d v ∨ ∃ a vs ds, d = .lst ds ∧ v = .ref a ∧ H a = some (.lst vs) ∧ C.p ≠ some a ∧ Reps C H0 ds vs
theorem relO.step {C : Kx} {d : D} {H0 H K0 K : Hp} {hs : List D} {v : V} (r : relO C d H0 H v) (x : Ext C H0 H K0 K hs) : relO C d K0 K v := by
  rcases r with r | ⟨a, vs, ds, e1, e2, h, hp, r⟩
  · exact .inl (r.mono x.sub0 _ _)
  · exact .inr ⟨a, vs, ds, e1, e2, x.keep _ _ h hp, hp, r.mono x.sub0 _ _⟩
/-- a list or tuple, owned or not, as it is to be read -/
theorem relO.seq {C : Kx} {d : D} {H0 H : Hp} {hs : List D} {v : V} (s : Stt C H0 H hs) (r : relO C d H0 H v) : (∃ a vs ds, d = .lst ds ∧ v = .ref a ∧ SqL C.K H a vs ∧ Reps C H0 ds vs) ∨ (Rep C H0 d v ∧ ∀ ds, d ≠ .lst ds) := by
  rcases r with r | ⟨a, vs, ds, e1, e2, h, hp, r⟩
  · cases d with
    | lst ds =>
      obtain ⟨a, vs, rfl, h, r⟩ := r.list
      exact .inl ⟨a, vs, ds, rfl, rfl, SqL.of (s.sub _ _ h), r⟩
    | _ => exact .inr ⟨r, fun _ z => by cases z⟩
  · exact .inl ⟨a, vs, ds, e1, e2, SqL.of h, r⟩
def DB (X : Cx) (E : XK) (e : Expr) (f : EM) : Prop := ∃ t, PE X e t ∧ ∀ (p : Option Addr) (Ho : Go) (Hi H0 H : Hp) (ρ : List Sl) (hs : List D) (σ : St) (Q : VK),
  SR (Kc X p) Ho Hi ρ hs σ H0 H → Post (Kc X p) H0 H E (relO (Kc X p)) Q (f ρ hs) → t σ H Q
/-- a name, owned or not -/
def e_varb (i : Nat) : EM := fun ρ h => match ρ[i]? with | some (.val d) => .ok d h | some (.own ds) => .ok (.lst ds) h | _ => .stuck
section
variable {X : Cx} {E : XK} {e a b c : Expr} {es : List Expr} {fa fb fc : EM} {fr : AM} {pos pp : Pos} {x : Str} {st : Stmt} {sts : List Stmt} {f g : SM}
theorem db_var (i : Nat) {x : Str} (hN : X.N[i]? = some x := by rfl) (hv : Vis X.env.scope x := by first | exact Or.inl rfl | exact Or.inr (Or.inl rfl) | exact Or.inr (Or.inr rfl)) (hd : (x == ("__debug__" : Str)) = false := by decide)
    (hcd : (x == ("__classdict__" : Str)) = false := by decide) : DB X E (.Name x pos) (e_varb i) := by
  refine ⟨_, pe_var hN hv hd hcd, fun p Ho Hi H0 H ρ hs σ Q S hp => ?_⟩
  unfold e_varb at hp
  split at hp
  · rename_i d e
    obtain ⟨v, e1, r⟩ := S.var e
    exact ⟨v, e1, hp.ok S.st (.inl r)⟩
  · rename_i ds e
    obtain ⟨a, vs, ea, h, h0, hi, r⟩ := S.own e
    exact ⟨_, ea, hp.ok S.st (.inr ⟨a, vs, ds, rfl, rfl, h, fun z => S.hasp a z hi, r⟩)⟩
  · exact hp.elim
theorem db_of (h : DE X E e fa) : DB X E e fa := by
  obtain ⟨t, p, q⟩ := h
  exact ⟨t, p, fun p' Ho Hi H0 H ρ hs σ Q S hp => q p' Ho Hi H0 H ρ hs σ Q S (hp.imp fun a h1 K0 K b x r k => k b (.inl r))⟩
def e_len (a : EM) : EM := e_un lenD a
theorem de_lenB (hm : X.mg "len" = none) (ha : DB X E a fa) (hg : Gl X "len" := by rfl) (he : starEach [a] X.env = (false, eval a X.env) :: starEach [] X.env := by rfl) (hpl : (backTo pos (starEach [] X.env)).any (·.1) = false := by rfl) : DE X E (.Call (.Name "len" pp) [a] [] pos) (e_len fa) := by
  obtain ⟨ta, pa, qa⟩ := ha
  refine ⟨_, pe_callB call_len hg hm PySem.boot_len (pa_cons pa pa_nil he) (by decide) (by decide) he hpl, fun p Ho Hi H0 H ρ hs σ Q S hp => ?_⟩
  refine qa p Ho Hi H0 H ρ hs σ _ S (hp.bind fun d h1 K0 K v x rv hp => ?_)
  obtain ⟨z, ez, hp2⟩ := hp.lift
  rcases relO.seq x.st rv with ⟨a, vs, ds, rfl, rfl, h, r⟩ | ⟨r, hn⟩
  · cases ez
    exact ⟨_, ds.length, rfl, .inl ⟨vs, h, r.length.symm⟩, hp2.ok x.st (rep_int.mpr rfl)⟩
  · exact og_len p K0 K h1 [d] z [v] Q x.st (Reps.cons r Reps.nil) ez hp2
theorem de_ixB (hs : PlainIx b) (ha : DB X E a fa) (hb : DE X E b fb) : DE X E (.Subscript a b pos) (e_bin ixD fa fb) := by
  obtain ⟨ta, pa, qa⟩ := ha
  obtain ⟨tb, pb, qb⟩ := hb
  refine ⟨_, pe_ix ix_seq pa pb hs, fun p Ho Hi H0 H ρ hs σ Q S hp => ?_⟩
  refine qa p Ho Hi H0 H ρ hs σ _ S (hp.bind fun d h1 K0 K v x rv hp => ?_)
  refine qb p Ho Hi K0 K ρ h1 σ _ (S.step x) (hp.bind fun d' h2 L0 L v' y rv' hp => ?_)
  obtain ⟨z, e, hp2⟩ := hp.lift
  rcases relO.seq y.st (rv.step y) with ⟨a, vs, ds, rfl, rfl, h, r⟩ | ⟨r, hn⟩
  · cases d' <;> simp only [ixD] at e <;> try cases e
    obtain ⟨u, e1, hu⟩ := atI_rep r e
    exact .inl ⟨a, vs, _, u, rfl, rep_int.mp rv', h, e1, hp2.ok y.st hu⟩
  · exact og_ix p L0 L h2 d d' z v v' Q y.st r rv' e hp2
/-! the hand list -/
def e_hix (i : Nat) (a : EM) : EM := fun ρ h => match ρ[i]? with
  | some (.val .hnd) => (a ρ h).bind fun k h => R.lift (ixD (.lst h) k) h
  | _ => .stuck
theorem de_hix (i : Nat) {py : Pos} (hs : PlainIx b) (hb : DE X E b fb) (hN : X.N[i]? = some x := by rfl) (hv : Vis X.env.scope x := by first | exact Or.inl rfl | exact Or.inr (Or.inl rfl) | exact Or.inr (Or.inr rfl)) (hd : (x == ("__debug__" : Str)) = false := by decide)
    (hcd : (x == ("__classdict__" : Str)) = false := by decide) : DE X E (.Subscript (.Name x py) b pos) (e_hix i fb) := by
  obtain ⟨tb, pb, qb⟩ := hb
  refine ⟨_, pe_ix ix_list (pe_var hN hv hd hcd) pb hs, fun p Ho Hi H0 H ρ hs σ Q S hp => ?_⟩
  unfold e_hix at hp
  split at hp
  · rename_i e
    obtain ⟨v, e1, r⟩ := S.var e
    simp only [Rep] at r
    obtain ⟨q, hq, rfl⟩ := r
    refine ⟨_, e1, qb p Ho Hi H0 H ρ hs σ _ S (hp.bind fun d h1 K0 K u x ru hp => ?_)⟩
    obtain ⟨z, ez, hp2⟩ := hp.lift
    obtain ⟨h0, vs, hk, rs⟩ := x.st.hand q hq
    cases d <;> simp only [ixD] at ez <;> try cases ez
    obtain ⟨w, e2, hw⟩ := atI_rep rs ez
    exact ⟨q, vs, _, w, rfl, rep_int.mp ru, SqL.of hk, e2, hp2.ok x.st hw⟩
  · exact hp.elim
/-- hand[k] = e -/
def s_hset (i : Nat) (k a : EM) : SM := fun ρ h => (a ρ h).bind fun v h => match ρ[i]? with
  | some (.val .hnd) => (k ρ h).bind fun k h => match k with
    | .int k => (match ixN h.length k with | some j => .ok (.nx ρ) (h.set j v) | none => .stuck)
    | _ => .stuck
  | _ => .stuck
theorem Stt.hset {C : Kx} {H0 H : Hp} {hs : List D} {q : Addr} {vs : List V} {v : V} {d : D} {j : Nat} (s : Stt C H0 H hs) (hq : C.p = some q) (h0 : H0 q = none) (hk : H q = some (.lst vs)) (rs : Reps C H0 hs vs) (r : Rep C H0 d v) : Ext C H0 H H0 (upd H q (.lst (vs.set j v))) (hs.set j d) := by
  refine ⟨Same.refl _, fun a h1 h2 => absurd h1 h2, fun a o e hp => ?_, ⟨fun b o e => ?_, fun b e => ?_⟩⟩
  · have z : a ≠ q := fun z => hp (by rw [z]; exact hq)
    rw [upd_ne z]; exact e
  · rw [upd_ne (ne_of_none e h0)]; exact s.sub b o e
  · rw [hq] at e; cases e
    exact ⟨h0, _, upd_same, rs.set r j⟩
theorem ds_hset (i : Nat) {py : Pos} {sp : Pos} (ha : DE X E a fa) (hb : DE X E b fb) (hN : X.N[i]? = some x := by rfl) (hv : Vis X.env.scope x := by first | exact Or.inl rfl | exact Or.inr (Or.inl rfl) | exact Or.inr (Or.inr rfl)) (hd : (x == ("__debug__" : Str)) = false := by decide)
    (hcd : (x == ("__classdict__" : Str)) = false := by decide)
    (hs : swapsWithSole [.Subscript (.Name x py) b sp] a pos.line X.env = pure false := by rfl) (hw : swappedStores [.Subscript (.Name x py) b sp] a X.env = pure none := by rfl) (h1 : (assignEach [.Subscript (.Name x py) b sp] X.env).map (·.2) = [assign (.Subscript (.Name x py) b sp) X.env] := by rfl)
    (hA : ∀ v, assign (.Subscript (.Name x py) b sp) X.env v = (do
      let ov ← holding [v] (eval (.Name x py) X.env)
      let iv ← holding [v, ov] (eval b X.env)
      standAt sp
      holding [v, ov, iv] (setItem ov iv v)
      release [v, ov, iv] []) := by intro _; rfl) :
    DS X E (.Assign [.Subscript (.Name x py) b sp] a pos) (s_hset i fb fa) := by
  obtain ⟨ta, pa, qa⟩ := ha
  obtain ⟨tb, pb, qb⟩ := hb
  refine ⟨_, ps_asg pa (pg_sub (pe_var hN hv hd hcd) pb set_list hA) hs hw h1, fun p Ho Hi H0 H ρ hs' σ Dn S hp => ?_⟩
  refine qa p Ho Hi H0 H ρ hs' σ _ S (PostS.expr S hp fun d h1 K0 K v x S1 rv hp => ?_)
  have rv : Rep (Kc X p) K0 d v := rv
  split at hp
  · rename_i e
    obtain ⟨w, e1, r⟩ := S1.var e
    simp only [Rep] at r
    obtain ⟨q, hq, rfl⟩ := r
    refine ⟨_, e1, qb p Ho Hi K0 K ρ h1 σ _ S1 (PostS.expr S1 hp fun d2 h2 L0 L v2 x2 S2 rv2 hp => ?_)⟩
    have rv2 : Rep (Kc X p) L0 d2 v2 := rv2
    cases d2 with
    | int k =>
      have hp : PostS (Kc X p) Ho Hi L0 E Dn (match ixN h2.length k with | some j => .ok (.nx ρ) (h2.set j d) | none => .stuck) := hp
      split at hp
      · rename_i j ej
        obtain ⟨h0, vs, hk, rs⟩ := S2.st.hand q hq
        refine ⟨q, vs, k, j, rfl, rep_int.mp rv2, hk, by rw [rs.length]; exact ej, ?_⟩
        exact hp σ L0 _ (Same.refl _) (S2.step (S2.st.hset hq h0 hk rs (rv.mono x2.sub0 _ _)))
      · exact (show False from hp).elim
    | _ => exact (show False from hp).elim
  · exact (show False from hp).elim
/-! changing an owned list -/
def s_append (i : Nat) (a : EM) : SM := fun ρ h => match ρ[i]? with
  | some (.own ds) => (a ρ h).bind fun x h => if ds.length < 16777216 then .ok (.nx (ρ.set i (.own (ds ++ [x])))) h else .stuck
  | _ => .stuck
theorem ds_append (i : Nat) {py : Pos} {apos cpos : Pos} (ha : DE X E e fa) (hN : X.N[i]? = some x := by rfl) (hv : Vis X.env.scope x := by first | exact Or.inl rfl | exact Or.inr (Or.inl rfl) | exact Or.inr (Or.inr rfl)) (hd : (x == ("__debug__" : Str)) = false := by decide)
    (hcd : (x == ("__classdict__" : Str)) = false := by decide)
    (hbase : attributeBase (.Name x py) "append" X.env (eval (.Name x py) X.env) = eval (.Name x py) X.env := by rfl)
    (hfew : ((backTo cpos (starEach [e] X.env)).all (fun x => !x.1) && (backToKw cpos (keywordEach [] X.env)).all (fun x => x.1.isSome)
      && decide (([e] : List Expr).length + ([] : List Keyword).length + (if ([] : List Keyword).isEmpty then 0 else 1) < 30)) = true := by rfl)
    (hline : (apos.endLine == cpos.line) = true := by rfl) (hs : starEach [e] X.env = (false, eval e X.env) :: starEach [] X.env := by rfl) (hplain : (backTo cpos (starEach [] X.env)).any (·.1) = false := by rfl)
    (hsw : swapsWith (.Call (.Attribute (.Name x py) "append" apos) [e] [] cpos) none pos.line X.env = pure false := by rfl) :
    DS X E (.Expr (.Call (.Attribute (.Name x py) "append" apos) [e] [] cpos) pos) (s_append i fa) := by
  obtain ⟨ta, pa, qa⟩ := ha
  refine ⟨_, ps_expr (pe_bm PySem.F.plainAttrs_list PySem.F.slot_list_append PySem.F.type_list_append mt_append (pe_var hN hv hd hcd) (pa_cons pa pa_nil hs) hbase hfew hline hs hplain) hsw, fun p Ho Hi H0 H ρ hs' σ Dn S hp => ?_⟩
  unfold s_append at hp
  split at hp
  · rename_i ds e
    obtain ⟨a, vs, ea, h, _⟩ := S.own e
    refine ⟨_, ea, .inl ⟨rfl, vs, SqL.of h⟩, qa p Ho Hi H0 H ρ hs' σ _ S (PostS.expr S hp fun d h1 K0 K v x S1 rv hp => ?_)⟩
    split at hp
    · rename_i hz
      obtain ⟨a', vs', ea', h', h0', hi', r'⟩ := S1.own e
      rw [ea] at ea'
      cases ea'
      exact ⟨a, vs', v, rfl, rfl, h', by rw [r'.length, sizeLine_eq]; exact hz, hp σ K0 _ (Same.refl _) (S1.updo e ea h' h0' hi' (r'.append (Reps.cons rv Reps.nil)))⟩
    · exact (show False from hp).elim
  · exact (show False from hp).elim
def s_extend (i : Nat) (a : EM) : SM := fun ρ h => match ρ[i]? with
  | some (.own ds) => (a ρ h).bind fun x h => match x with
    | .lst es => if ds.length + es.length ≤ 16777216 then .ok (.nx (ρ.set i (.own (ds ++ es)))) h else .stuck
    | _ => .stuck
  | _ => .stuck
theorem ds_extend (i : Nat) {py : Pos} {apos cpos : Pos} (ha : DE X E e fa) (hN : X.N[i]? = some x := by rfl) (hv : Vis X.env.scope x := by first | exact Or.inl rfl | exact Or.inr (Or.inl rfl) | exact Or.inr (Or.inr rfl)) (hd : (x == ("__debug__" : Str)) = false := by decide)
    (hcd : (x == ("__classdict__" : Str)) = false := by decide)
    (hbase : attributeBase (.Name x py) "extend" X.env (eval (.Name x py) X.env) = eval (.Name x py) X.env := by rfl)
    (hfew : ((backTo cpos (starEach [e] X.env)).all (fun x => !x.1) && (backToKw cpos (keywordEach [] X.env)).all (fun x => x.1.isSome)
      && decide (([e] : List Expr).length + ([] : List Keyword).length + (if ([] : List Keyword).isEmpty then 0 else 1) < 30)) = true := by rfl)
    (hline : (apos.endLine == cpos.line) = true := by rfl) (hs : starEach [e] X.env = (false, eval e X.env) :: starEach [] X.env := by rfl) (hplain : (backTo cpos (starEach [] X.env)).any (·.1) = false := by rfl)
    (hsw : swapsWith (.Call (.Attribute (.Name x py) "extend" apos) [e] [] cpos) none pos.line X.env = pure false := by rfl) :
    DS X E (.Expr (.Call (.Attribute (.Name x py) "extend" apos) [e] [] cpos) pos) (s_extend i fa) := by
  obtain ⟨ta, pa, qa⟩ := ha
  refine ⟨_, ps_expr (pe_bm PySem.F.plainAttrs_list PySem.F.slot_list_extend PySem.F.type_list_extend mt_extend (pe_var hN hv hd hcd) (pa_cons pa pa_nil hs) hbase hfew hline hs hplain) hsw, fun p Ho Hi H0 H ρ hs' σ Dn S hp => ?_⟩
  unfold s_extend at hp
  split at hp
  · rename_i ds e
    obtain ⟨a, vs, ea, h, _⟩ := S.own e
    refine ⟨_, ea, .inl ⟨rfl, vs, SqL.of h⟩, qa p Ho Hi H0 H ρ hs' σ _ S (PostS.expr S hp fun d h1 K0 K v x S1 rv hp => ?_)⟩
    have rv : Rep (Kc X p) K0 d v := rv
    cases d with
    | lst es =>
      have hp : PostS (Kc X p) Ho Hi K0 E Dn (if ds.length + es.length ≤ 16777216 then .ok (.nx (ρ.set i (.own (ds ++ es)))) h1 else .stuck) := hp
      split at hp
      · rename_i hz
        obtain ⟨a', vs', ea', h', h0', hi', r'⟩ := S1.own e
        rw [ea] at ea'
        cases ea'
        obtain ⟨b, ws, rfl, hb, r2⟩ := rv.list
        exact ⟨a, b, vs', ws, rfl, rfl, h', S1.st.sub _ _ hb, by rw [r'.length, r2.length, sizeLine_eq]; exact hz, hp σ K0 _ (Same.refl _) (S1.updo e ea h' h0' hi' (r'.append r2))⟩
      · exact (show False from hp).elim
    | _ => exact (show False from hp).elim
  · exact (show False from hp).elim
/-- x[k] = e, x owned -/
def s_oset (i : Nat) (k a : EM) : SM := fun ρ h => (a ρ h).bind fun v h => match ρ[i]? with
  | some (.own ds) => (k ρ h).bind fun k h => match k with
    | .int k => (match ixN ds.length k with | some j => .ok (.nx (ρ.set i (.own (ds.set j v)))) h | none => .stuck)
    | _ => .stuck
  | _ => .stuck
theorem ds_oset (i : Nat) {py : Pos} {sp : Pos} (ha : DE X E a fa) (hb : DE X E b fb) (hN : X.N[i]? = some x := by rfl) (hv : Vis X.env.scope x := by first | exact Or.inl rfl | exact Or.inr (Or.inl rfl) | exact Or.inr (Or.inr rfl)) (hd : (x == ("__debug__" : Str)) = false := by decide)
    (hcd : (x == ("__classdict__" : Str)) = false := by decide)
    (hs : swapsWithSole [.Subscript (.Name x py) b sp] a pos.line X.env = pure false := by rfl) (hw : swappedStores [.Subscript (.Name x py) b sp] a X.env = pure none := by rfl) (h1 : (assignEach [.Subscript (.Name x py) b sp] X.env).map (·.2) = [assign (.Subscript (.Name x py) b sp) X.env] := by rfl)
    (hA : ∀ v, assign (.Subscript (.Name x py) b sp) X.env v = (do
      let ov ← holding [v] (eval (.Name x py) X.env)
      let iv ← holding [v, ov] (eval b X.env)
      standAt sp
      holding [v, ov, iv] (setItem ov iv v)
      release [v, ov, iv] []) := by intro _; rfl) :
    DS X E (.Assign [.Subscript (.Name x py) b sp] a pos) (s_oset i fb fa) := by
  obtain ⟨ta, pa, qa⟩ := ha
  obtain ⟨tb, pb, qb⟩ := hb
  refine ⟨_, ps_asg pa (pg_sub (pe_var hN hv hd hcd) pb set_list hA) hs hw h1, fun p Ho Hi H0 H ρ hs' σ Dn S hp => ?_⟩
  refine qa p Ho Hi H0 H ρ hs' σ _ S (PostS.expr S hp fun d h1 K0 K v x S1 rv hp => ?_)
  have rv : Rep (Kc X p) K0 d v := rv
  split at hp
  · rename_i ds e
    obtain ⟨a, vs, ea, h, _⟩ := S1.own e
    refine ⟨_, ea, qb p Ho Hi K0 K ρ h1 σ _ S1 (PostS.expr S1 hp fun d2 h2 L0 L v2 x2 S2 rv2 hp => ?_)⟩
    have rv2 : Rep (Kc X p) L0 d2 v2 := rv2
    cases d2 with
    | int k =>
      have hp : PostS (Kc X p) Ho Hi L0 E Dn (match ixN ds.length k with | some j => .ok (.nx (ρ.set i (.own (ds.set j d)))) h2 | none => .stuck) := hp
      split at hp
      · rename_i j ej
        obtain ⟨a', vs', ea', h', h0', hi', r'⟩ := S2.own e
        rw [ea] at ea'
        cases ea'
        refine ⟨a, vs', k, j, rfl, rep_int.mp rv2, h', by rw [r'.length]; exact ej, ?_⟩
        exact hp σ L0 _ (Same.refl _) (S2.updo e ea h' h0' hi' (r'.set (rv.mono x2.sub0 _ _) j))
      · exact (show False from hp).elim
    | _ => exact (show False from hp).elim
  · exact (show False from hp).elim
end

/-! ### a def -/
def runF (n : Nat) (f : SM) (args : List D) (hs : List D) : R D :=
  (f (args.map .val ++ List.replicate (n - args.length) .un) hs).bind fun fl h => match fl with | .rt d => .ok d h | .nx _ => .ok .non h
theorem SR.start {C : Kx} {H0 H : Hp} {hs ds : List D} {vs : List V} {N : List Str} (s : Stt C H0 H hs) (r : Reps C H0 ds vs) : SR C ⟨H0, fun _ => none⟩ H (ds.map .val ++ List.replicate (N.length - ds.length) .un) hs (start N vs) H0 H := by
  have hl := r.length
  refine ⟨s.ext, fun a e => ?_, ?_, fun i t e => ?_, fun i e1 => ?_, fun i j as bs a e1 => ?_⟩
  · obtain ⟨_, vs, h, _⟩ := s.hand a e
    rw [h]; simp
  · unfold L2.start; simp [hl]
  · unfold L2.start
    by_cases h : i < ds.length
    · rw [List.getElem?_append_left (by simpa using h), List.getElem?_map] at e
      obtain ⟨d, e1, rfl⟩ := Option.map_eq_some_iff.mp e
      obtain ⟨v, e2, rv⟩ := r.get e1
      refine ⟨some v, ?_, v, rfl, rv⟩
      rw [List.getElem?_append_left (by simp [hl]; exact h), List.getElem?_map, e2]; rfl
    · rw [List.getElem?_append_right (by simp; omega), List.getElem?_replicate] at e
      split at e
      · rename_i h2
        cases e
        refine ⟨none, ?_, trivial⟩
        rw [List.getElem?_append_right (by simp [hl]; omega), List.getElem?_replicate, if_pos (by simp [hl] at h2 ⊢; omega)]
      · cases e
  · by_cases h : i < ds.length
    · rw [List.getElem?_append_left (by simpa using h), List.getElem?_map] at e1
      obtain ⟨d, _, e2⟩ := Option.map_eq_some_iff.mp e1
      cases e2
    · rw [List.getElem?_append_right (by simp; omega), List.getElem?_replicate] at e1
      split at e1 <;> cases e1
  · by_cases h : i < ds.length
    · rw [List.getElem?_append_left (by simpa using h), List.getElem?_map] at e1
      obtain ⟨d, _, e2⟩ := Option.map_eq_some_iff.mp e1
      cases e2
    · rw [List.getElem?_append_right (by simp; omega), List.getElem?_replicate] at e1
      split at e1 <;> cases e1
section
variable {P : Program} {w : World} {K : PySem.W.Frag} {mg : Str → Option Value} {base : Heap}
theorem ctx_of {N : List Str} {ps : List Str} {qual : Str} {scope : Scope} {f : Addr} {cd : Value} {A : Around} {outer : List Env} {s : Shared} {H : Hp} {E : XK} {k : Nat} (S : FnScope N ps scope) (hr : Room k (A.deeper (envOfC qual scope s.heap.objs.size f cd))) : Ctx (cxOf (L2.CX P w) P w K mg base N qual scope f cd A outer s H E) E :=
  ⟨rfl, S.nd, passes_call (takes_of rfl rfl rfl rfl) (fun _ _ _ _ h => h), passes_of rfl, hr.units⟩
theorem ok_def {x qual : Str} {st : Stmt} {f : Addr} {fd : FuncData} {N ps : List Str} {k : Nat} {fb : SM} (F : Fun K x qual st f fd) (S : FnScope N ps (defScope st))
    (hbody : ∀ (cdv : Value) (A : Around) (outer : List Env) (s : Shared) (H : Hp) (E : XK), Room k (A.deeper (envOfC qual (defScope st) s.heap.objs.size f cdv)) →
      Ctx (cxOf (L2.CX P w) P w K mg base N qual (defScope st) f cdv A outer s H E) E → DSs (cxOf (L2.CX P w) P w K mg base N qual (defScope st) f cdv A outer s H E) E (defBody st) fb) :
    FnOk P w K mg base (L2.CX P w) (k + 1) f fd ps (spD K mg ps.length (runF N.length fb)) := by
  refine F.okX S (fun vs H Q E h => h.1) (fun cdv A outer s H vs Q E hr h => ?_)
  obtain ⟨hn, p, H0, ds, hs, st', r, hp⟩ := h
  obtain ⟨t, p1, q1⟩ := hbody cdv A outer s H E hr (ctx_of S hr)
  refine ⟨t, p1, q1 p ⟨H0, fun _ => none⟩ H H0 H _ hs _ _ (SR.start (N := N) st' r) ?_⟩
  unfold runF at hp
  cases e : fb (ds.map .val ++ List.replicate (N.length - ds.length) .un) hs with
  | ok fl h1 =>
    rw [e] at hp
    cases fl with
    | nx ρ => exact fun σ K0 K' sm S1 => hp K0 K' .non S1.ext (by simp only [relV, Rep])
    | rt d => exact fun K0 K' v x rv => hp K0 K' v x rv
  | exc er h1 =>
    rw [e] at hp
    exact hp
  | stuck => rw [e] at hp; exact hp
end
end DL

namespace DL
open PySem PySem.Spec L2
open PyProof.Rows hiding St

theorem Ctx.blk {X : Cx} {E : XK} (C : Ctx X E) {s : Shared} {H : Hp} {scope : Scope} {cenv : Env} {fp : List Addr} : Ctx (X.blk s H scope cenv fp) E0 :=
  ⟨C.calm, C.nd, passL, PassesOwn.never, C.un⟩

/-! ### x == y, both of one own class with an own __eq__ -/
def rEqO (C : Addr) (sp : Sp) (E : XK) : R2 := fun x y H Q => ∃ a b dx dy fs gs, x = .ref a ∧ y = .ref b ∧ H a = some (.ins C dx fs) ∧ H b = some (.ins C dy gs) ∧ sp [x, y] H Q E
theorem op_eqO {X : Cx} {CX : CXT} {C f : Addr} {fd : FuncData} {ps : List Str} {n : Nat} {sp : Sp} {E : XK} (F : FnOk X.prog X.w X.K X.mg X.base CX n f fd ps sp) (hr : Room n X.A)
    (hs : PySem.W.findIn X.K (.ref C) "__eq__" = some (some (.ref f))) (hf : PySem.W.isFn X.K (.ref f) = true) (hb : Binds X.K fd ps []) (hx : Passes CX X E) : OpR X (compareOp .Eq) (rEqO C sp E) := by
  intro pins s σ H x y u v Q I rx ry d
  obtain ⟨a, b, dx, dy, fs, gs, rfl, rfl, ha, hb', hsp⟩ := d
  cases rx
  cases ry
  obtain ⟨mA, J, _⟩ := ins_get I.hok ha
  obtain ⟨mB, J', _⟩ := ins_get I.hok hb'
  obtain ⟨od, J, _⟩ := J.look
  obtain ⟨od', J', _⟩ := J'.look
  obtain ⟨m, hF⟩ := I.fr
  refine PySem.W.cmp_K (op := .Eq) (tb := .ref C) hr.units0 hF I.ok.mod.kin J J'.type (by simp [PySem.W.notFirst]) hs hf ?_
  have hl := F.len _ _ _ _ hsp
  have r2 : Vals [V.ref a, V.ref b] [Value.ref a, Value.ref b] := .cons rfl (.cons rfl .nil)
  refine wpAny_call (codeAny_mono (F.run X.A X.stack s H ⟨[.ref a, .ref b], []⟩ [.ref a, .ref b] [.ref a, .ref b] _ E hr I.env0 (by
    have := hb s [.ref a, .ref b] I.kIn (by simpa using hl)
    simpa using this) r2 hsp) fun r s' hq => ?_)
  cases r with
  | error e => exact hx pins σ H s e s' I hq
  | ok fl =>
    cases fl with
    | ret w =>
      have := I.after hq
      obtain ⟨z, H', I', rz, ez⟩ := this
      have h2 : EP X pins σ Q w s' := ⟨z, H', I', rz, ez⟩
      cases z with
      | non => cases rz; exact h2
      | bl _ => cases rz; exact h2
      | int _ => obtain ⟨t, rfl⟩ := rz; exact h2
      | str _ => obtain ⟨t, rfl⟩ := rz; exact h2
      | byt _ => obtain ⟨t, rfl⟩ := rz; exact h2
      | flt _ => obtain ⟨t, rfl⟩ := rz; exact h2
      | ref _ => cases rz; exact h2
      | ty _ => cases rz; exact h2
    | next => exact False.elim hq
    | brk => exact False.elim hq
    | cont => exact False.elim hq
def eqO (c : Str) (F : List D → List D → R D) (x y : D) (h : List D) : R D := match x, y with
  | .ins c1 _, .ins c2 _ => if c1 = c ∧ c2 = c then F [x, y] h else .stuck
  | _, _ => .stuck
def e_eqO (c : Str) (F : List D → List D → R D) (a b : EM) : EM := fun ρ h => (a ρ h).bind fun x h => (b ρ h).bind fun y h => eqO c F x y h
section
variable {X : Cx} {E : XK} {e a b c : Expr} {es : List Expr} {fa fb fc : EM} {fr : AM} {pos pp : Pos} {x : Str} {C f : Addr} {fd : FuncData} {ps : List Str} {n : Nat} {F : List D → List D → R D} {cn : Str}
theorem eqO_read {p : Option Addr} {H0 H : Hp} {hs : List D} {d d' : D} {v v' : V} {Q : VK} (s : Stt (Kc X p) H0 H hs) (r : Rep (Kc X p) H0 d v) (r' : Rep (Kc X p) H0 d' v') (hC : X.mg cn = some (.ref C))
    (hp : Post (Kc X p) H0 H E (relV (Kc X p)) Q (eqO cn F d d' hs)) : rEqO C (spD X.K X.mg 2 F) E v v' H Q := by
  cases d with
  | ins c1 fs =>
    cases d' with
    | ins c2 gs =>
      have hq : Post (Kc X p) H0 H E (relV (Kc X p)) Q (if c1 = cn ∧ c2 = cn then F [.ins c1 fs, .ins c2 gs] hs else .stuck) := hp
      clear hp
      split at hq
      · rename_i hc
        obtain ⟨rfl, rfl⟩ := hc
        have k1 := r
        have k2 := r'
        simp only [Rep] at r r'
        obtain ⟨a, cl, dx, vs, rfl, e1, h1, _⟩ := r
        obtain ⟨b, cl', dy, ws, rfl, e2, h2, _⟩ := r'
        rw [hC] at e1 e2
        cases e1
        cases e2
        exact ⟨a, b, dx, dy, vs, ws, rfl, rfl, s.sub _ _ h1, s.sub _ _ h2, rfl, p, H0, _, hs, s, Reps.cons k1 (Reps.cons k2 Reps.nil), hq⟩
      · exact (show False from hq).elim
    | _ => exact (show False from hp).elim
  | _ => exact (show False from hp).elim
theorem de_eqO (C0 : Ctx X E) (G : FnOk X.prog X.w X.K X.mg X.base (L2.CX X.prog X.w) n f fd ps (spD X.K X.mg 2 F)) (hr : Room n X.A) (hC : X.mg cn = some (.ref C))
    (hs : PySem.W.findIn X.K (.ref C) "__eq__" = some (some (.ref f))) (hf : PySem.W.isFn X.K (.ref f) = true) (hb : Binds X.K fd ps []) (ha : DE X E a fa) (hb' : DE X E b fb) : DE X E (.Compare a [.Eq] [b] pos) (e_eqO cn F fa fb) := by
  obtain ⟨ta, pa, qa⟩ := ha
  obtain ⟨tb, pb, qb⟩ := hb'
  refine ⟨_, pe_cmpR (op_eqO G hr hs hf hb C0.pass) pa pb (nomark _), fun p Ho Hi H0 H ρ hs σ Q S hp => ?_⟩
  refine qa p Ho Hi H0 H ρ hs σ _ S (hp.bind fun d h1 K0 K v x rv hp => ?_)
  refine qb p Ho Hi K0 K ρ h1 σ _ (S.step x) (hp.bind fun d' h2 L0 L v' y rv' hp => ?_)
  exact eqO_read y.st (rv.mono y.sub0 _ _) rv' hC hp
theorem dt_eqO (C0 : Ctx X E) (G : FnOk X.prog X.w X.K X.mg X.base (L2.CX X.prog X.w) n f fd ps (spD X.K X.mg 2 F)) (hr : Room n X.A) (hC : X.mg cn = some (.ref C))
    (hs : PySem.W.findIn X.K (.ref C) "__eq__" = some (some (.ref f))) (hf : PySem.W.isFn X.K (.ref f) = true) (hb : Binds X.K fd ps []) (ha : DE X E a fa) (hb' : DE X E b fb) : DT X E (.Compare a [.Eq] [b] pos) (t_val (e_eqO cn F fa fb)) := by
  obtain ⟨ta, pa, qa⟩ := ha
  obtain ⟨tb, pb, qb⟩ := hb'
  refine ⟨_, pt_cmpR (op_eqO G hr hs hf hb C0.pass) pa pb (nomark _), fun p Ho Hi H0 H ρ hs σ Q S hp => ?_⟩
  have hp : Post (Kc X p) H0 H E relB Q ((e_eqO cn F fa fb ρ hs).bind fun x h => R.lift x.bool h) := hp
  have hp : Post (Kc X p) H0 H E (relV (Kc X p)) (fun x H' => ∃ k, x = .bl k ∧ Q k H') (e_eqO cn F fa fb ρ hs) := hp.bind fun d h1 K0 K v x rv hp => hp.bool x.st rv
  refine qa p Ho Hi H0 H ρ hs σ _ S (hp.bind fun d h1 K0 K v x rv hp => ?_)
  refine qb p Ho Hi K0 K ρ h1 σ _ (S.step x) (hp.bind fun d' h2 L0 L v' y rv' hp => ?_)
  exact eqO_read y.st (rv.mono y.sub0 _ _) rv' hC hp

/-! ### a new instance by its __init__: the fields that it stores -/
def spI (K : PySem.W.Frag) (mg : Str → Option Value) (C : Addr) (n : Nat) (F : List D → List D → R (List (Str × D))) : Sp := fun vs H Q E => vs.length = n + 1 ∧ ∃ (x dx : Addr) (us : List V) (p : Option Addr) (H0 : Hp) (ds hs : List D), vs = .ref x :: us ∧ Stt ⟨K, mg, p⟩ H0 H hs ∧ Reps ⟨K, mg, p⟩ H0 ds us ∧
  H x = some (.ins C dx []) ∧ H0 x = none ∧ p ≠ some x ∧
  match F ds hs with
  | .ok fs hs' => ∀ K0 K' fv, Ext ⟨K, mg, p⟩ H0 H K0 K' hs' → K' x = some (.ins C dx []) → RepF ⟨K, mg, p⟩ K0 fs fv → Q .non (upd K' x (.ins C dx fv))
  | .exc er hs' => ∀ K0 K' c dd, Ext ⟨K, mg, p⟩ H0 H K0 K' hs' → ErR ⟨K, mg, p⟩ K0 K' er c dd → E c dd K'
  | .stuck => False
def e_make (c : Str) (F : List D → List D → R (List (Str × D))) (r : AM) : EM := fun ρ h => (r ρ h).bind fun xs h => (F xs h).bind fun fs h => .ok (.ins c fs) h
theorem make_read {p : Option Addr} {H0 H : Hp} {hs : List D} {ds : List D} {vs : List V} {Q : VK} (s : Stt (Kc X p) H0 H hs) (r : Reps (Kc X p) H0 ds vs) (hl : vs.length = n) (hC : X.mg cn = some (.ref C)) {F : List D → List D → R (List (Str × D))}
    (hp : Post (Kc X p) H0 H E (relV (Kc X p)) Q ((F ds hs).bind fun fs h => .ok (.ins cn fs) h)) :
    ∀ x dx, H x = none → H dx = none → dx ≠ x → spI X.K X.mg C n F (.ref x :: vs) (upd (upd H dx (.own x)) x (.ins C dx [])) (fun v H2 => v = .non ∧ Q (.ref x) H2) E := by
  intro x dx hx hdx hne
  have y1 := s.laid (o := .own x) hdx
  have hx2 : upd H dx (.own x) x = none := by rw [upd_ne (Ne.symm hne)]; exact hx
  have y2 := y1.st.laid (o := .ins C dx []) hx2
  have y := y1.trans y2
  have h0 : H0 x = none := s.sub.free hx
  refine ⟨by rw [List.length_cons, hl], x, dx, vs, p, H0, ds, hs, rfl, y.st, r, upd_same, h0, s.hand_ne hx, ?_⟩
  cases e : F ds hs with
  | ok fs hs' =>
    rw [e] at hp
    intro K0 K' fv w hk rf
    refine ⟨rfl, ?_⟩
    have z := (y.trans w)
    have k0 : K0 x = none := by
      cases q : K0 x with
      | none => rfl
      | some o => exact absurd (w.new x h0 (by rw [q]; simp)) (by rw [upd_same]; simp)
    have z2 := z.updq (o := .ins C dx fv) hx k0 (s.hand_ne hx)
    have sm : Same K0 (upd K0 x (.ins C dx fv)) := fun b o e => by rw [upd_ne (ne_of_none e k0)]; exact e
    -- frozen
    have z3 : Ext (Kc X p) H0 H (upd K0 x (.ins C dx fv)) (upd K' x (.ins C dx fv)) hs' := by
      refine ⟨z.sub0.trans sm, fun a h1 h2 => ?_, z2.keep, ⟨fun b o e => ?_, fun b e => ?_⟩⟩
      · by_cases q : a = x
        · rw [q]; exact hx
        · rw [upd_ne q] at h2; exact z.new a h1 h2
      · by_cases q : b = x
        · subst q; rw [upd_same] at e ⊢; exact e
        · rw [upd_ne q] at e ⊢; exact z.st.sub b o e
      · obtain ⟨h1, ws, h2, h3⟩ := z2.st.hand b e
        have q : b ≠ x := fun q => s.hand_ne hx (by rw [← q]; exact e)
        exact ⟨by rw [upd_ne q]; exact h1, ws, h2, h3.mono sm _ _⟩
    exact hp _ _ (.ref x) z3 (by simp only [relV, Rep]; exact ⟨x, C, dx, fv, rfl, hC, upd_same, rf.mono sm _ _⟩)
  | exc er hs' =>
    rw [e] at hp
    exact fun K0 K' c dd w er' => hp K0 K' c dd (y.trans w) er'
  | stuck => rw [e] at hp; exact hp
theorem de_make (C0 : Ctx X E) {F : List D → List D → R (List (Str × D))} (M : Mk X.K C f) (G : FnOk X.prog X.w X.K X.mg X.base (L2.CX X.prog X.w) n f fd ps (spI X.K X.mg C es.length.succ F)) (hr : Room (n + 1) X.A) (hC : X.mg x = some (.ref C)) (hb : Binds X.K fd ps [])
    (ha : DA X E (e :: es) fr) (hl : LenA fr es.length.succ) (hg : Gl X x := by rfl) (hdb : (x == ("__debug__" : Str)) = false := by decide) (he : starEach (e :: es) X.env = (false, eval e X.env) :: starEach es X.env := by rfl) (hpl : (backTo pos (starEach es X.env)).any (·.1) = false := by rfl) :
    DE X E (.Call (.Name x pp) (e :: es) [] pos) (e_make x F fr) := by
  obtain ⟨ta, pa, qa⟩ := ha
  refine ⟨_, pe_make M G hr hg hC hb .nil C0.pass pa hdb he hpl, fun p Ho Hi H0 H ρ hs σ Q S hp => ?_⟩
  refine qa p Ho Hi H0 H ρ hs σ _ S (Post.len hl (hp.bind fun d h1 K0 K v x rv hp hn => ?_))
  intro y dx hy hdx hne
  rw [List.append_nil]
  exact make_read x.st rv hn hC hp y dx hy hdx hne
end

/-! ### an __init__ that ends with two stores -/
def DSk (X : Cx) (E : XK) (s : List Stmt) (f : SM) (W : TS) : Prop := ∃ t, PSs X s t ∧ ∀ (p : Option Addr) (Ho : Go) (Hi H0 H : Hp) (ρ : List Sl) (hs : List D) (σ : St) (Dn : Ends),
  SR (Kc X p) Ho Hi ρ hs σ H0 H → PostS (Kc X p) Ho Hi H0 E { Dn with nx := W Dn } (f ρ hs) → t Dn σ H
section
variable {X : Cx} {E : XK} {st : Stmt} {sts : List Stmt} {f g : SM} {W : TS}
theorem dsk_base (h : PSs X sts W) : DSk X E sts s_nil W := ⟨_, h, fun p Ho Hi H0 H ρ hs σ Dn S hp => hp σ H0 H (Same.refl _) S⟩
theorem dsk_cons (h : DS X E st f) (hr : DSk X E sts g W) : DSk X E (st :: sts) (s_seq f g) W := by
  obtain ⟨t, p1, q1⟩ := h
  obtain ⟨u, p2, q2⟩ := hr
  refine ⟨_, pss_cons p1 p2, fun p Ho Hi H0 H ρ hs σ Dn S hp => ?_⟩
  exact q1 p Ho Hi H0 H ρ hs σ { Dn with nx := u Dn } S (PostS.seq (Dn := { Dn with nx := W Dn }) (g := g) hp fun ρ1 h1 σ1 K0 K sm S1 hp1 => q2 p Ho Hi K0 K ρ1 h1 σ1 Dn S1 hp1)
end
def initF (n i1 i2 : Nat) (f1 f2 : Str) (fb : SM) (ds hs : List D) : R (List (Str × D)) :=
  (fb (Sl.raw :: (ds.map .val ++ List.replicate (n - 1 - ds.length) .un)) hs).bind fun fl h => match fl with
    | .nx ρ => (match ρ[0]? with
      | some Sl.raw => (e_var i1 ρ h).bind fun a h => (e_var i2 ρ h).bind fun b h => .ok [(f1, a), (f2, b)] h
      | _ => .stuck)
    | .rt _ => .stuck
theorem SR.startI {C : Kx} {H0 H : Hp} {hs ds : List D} {vs : List V} {N : List Str} {x : Addr} (s : Stt C H0 H hs) (r : Reps C H0 ds vs) : SR C ⟨H0, fun _ => some (.ref x)⟩ H (.raw :: (ds.map .val ++ List.replicate (N.length - 1 - ds.length) .un)) hs (L2.start N (.ref x :: vs)) H0 H := by
  have hl := r.length
  have e0 : L2.start N (.ref x :: vs) = some (.ref x) :: (vs.map some ++ List.replicate (N.length - 1 - vs.length) none) := by
    unfold L2.start
    rw [List.map_cons, List.cons_append, List.length_cons]
    congr 3
    omega
  rw [e0]
  refine ⟨s.ext, fun a e => ?_, ?_, fun i t e => ?_, fun i e1 => ?_, fun i j as bs a e1 => ?_⟩
  · obtain ⟨_, vs, h, _⟩ := s.hand a e
    rw [h]; simp
  · simp [hl]
  · cases i with
    | zero => cases e; exact ⟨_, rfl, trivial⟩
    | succ i =>
      have e : (ds.map Sl.val ++ List.replicate (N.length - 1 - ds.length) .un)[i]? = some t := by simpa using e
      show ∃ o, (vs.map some ++ List.replicate (N.length - 1 - vs.length) none)[i]? = some o ∧ _
      by_cases h : i < ds.length
      · rw [List.getElem?_append_left (by simpa using h), List.getElem?_map] at e
        obtain ⟨d, e1, rfl⟩ := Option.map_eq_some_iff.mp e
        obtain ⟨v, e2, rv⟩ := r.get e1
        refine ⟨some v, ?_, v, rfl, rv⟩
        rw [List.getElem?_append_left (by simp [hl]; exact h), List.getElem?_map, e2]; rfl
      · rw [List.getElem?_append_right (by simp; omega), List.getElem?_replicate] at e
        split at e
        · rename_i h2
          cases e
          refine ⟨none, ?_, trivial⟩
          rw [List.getElem?_append_right (by simp [hl]; omega), List.getElem?_replicate, if_pos (by simp [hl] at h2 ⊢; omega)]
        · cases e
  · cases i with
    | zero => rfl
    | succ i =>
      have e1 : (ds.map Sl.val ++ List.replicate (N.length - 1 - ds.length) .un)[i]? = some .raw := by simpa using e1
      by_cases h : i < ds.length
      · rw [List.getElem?_append_left (by simpa using h), List.getElem?_map] at e1
        obtain ⟨d, _, e2⟩ := Option.map_eq_some_iff.mp e1
        cases e2
      · rw [List.getElem?_append_right (by simp; omega), List.getElem?_replicate] at e1
        split at e1 <;> cases e1
  · cases i with
    | zero => cases e1
    | succ i =>
      have e1 : (ds.map Sl.val ++ List.replicate (N.length - 1 - ds.length) .un)[i]? = some (.own as) := by simpa using e1
      by_cases h : i < ds.length
      · rw [List.getElem?_append_left (by simpa using h), List.getElem?_map] at e1
        obtain ⟨d, _, e2⟩ := Option.map_eq_some_iff.mp e1
        cases e2
      · rw [List.getElem?_append_right (by simp; omega), List.getElem?_replicate] at e1
        split at e1 <;> cases e1
section
variable {P : Program} {w : World} {K : PySem.W.Frag} {mg : Str → Option Value} {base : Heap}
theorem ok_init2 {x qual : Str} {st : Stmt} {f C : Addr} {fd : FuncData} {N ps : List Str} {k n i1 i2 : Nat} {f1 f2 : Str} {fb : SM} (F : Fun K x qual st f fd) (S : FnScope N ps (defScope st)) (hn : ps.length = n + 1) (cl : Cls K C) (n1 : NoAttr K C f1) (n2 : NoAttr K C f2) (hne : f1 ≠ f2)
    (hbody : ∀ (cdv : Value) (A : Around) (outer : List Env) (s : Shared) (H : Hp) (E : XK), Room k (A.deeper (envOfC qual (defScope st) s.heap.objs.size f cdv)) →
      Ctx (cxOf (L2.CX P w) P w K mg base N qual (defScope st) f cdv A outer s H E) E → DSk (cxOf (L2.CX P w) P w K mg base N qual (defScope st) f cdv A outer s H E) E (defBody st) fb (tSeq (sFld K (tVar 0) (tVar i1) f1) (sFld K (tVar 0) (tVar i2) f2))) :
    FnOk P w K mg base (L2.CX P w) (k + 1) f fd ps (spI K mg C n (initF N.length i1 i2 f1 f2 fb)) := by
  refine F.okX S (fun vs H Q E h => by rw [h.1, hn]) (fun cdv A outer s H vs Q E hr h => ?_)
  obtain ⟨hl, xa, dx, us, p, H0, ds, hs, rfl, st', r, hx, hx0, hpx, hp⟩ := h
  obtain ⟨t, p1, q1⟩ := hbody cdv A outer s H E hr (ctx_of S hr)
  refine ⟨t, p1, q1 p ⟨H0, fun _ => some (.ref xa)⟩ H H0 H _ hs _ _ (SR.startI (N := N) st' r) ?_⟩
  unfold initF at hp
  cases e : fb (.raw :: (ds.map .val ++ List.replicate (N.length - 1 - ds.length) .un)) hs with
  | ok fl h1 =>
    rw [e] at hp
    cases fl with
    | rt d => exact (show False from hp).elim
    | nx ρ =>
      intro σ K0 K' sm S1
      have hp : (match (match ρ[0]? with
        | some Sl.raw => (e_var i1 ρ h1).bind fun a h => (e_var i2 ρ h).bind fun b h => .ok [(f1, a), (f2, b)] h
        | _ => .stuck : R (List (Str × D))) with
        | .ok fs hs' => ∀ K0 K' fv, Ext ⟨K, mg, p⟩ H0 H K0 K' hs' → K' xa = some (.ins C dx []) → RepF ⟨K, mg, p⟩ K0 fs fv → Q .non (upd K' xa (.ins C dx fv))
        | .exc er hs' => ∀ K0 K' c dd, Ext ⟨K, mg, p⟩ H0 H K0 K' hs' → ErR ⟨K, mg, p⟩ K0 K' er c dd → E c dd K'
        | .stuck => False) := hp
      split at hp
      · rename_i fs hs' eq
        split at eq
        · rename_i e0
          have r0 : σ[0]? = some (some (.ref xa)) := S1.rawf 0 e0
          unfold e_var at eq
          split at eq
          · rename_i a ea
            have eq : ((match ρ[i2]? with | some (.val d) => R.ok d h1 | _ => .stuck).bind fun b h => R.ok [(f1, a), (f2, b)] h) = .ok fs hs' := eq
            split at eq
            · rename_i b eb
              cases eq
              obtain ⟨va, ga, ra⟩ := S1.var ea
              obtain ⟨vb, gb, rb⟩ := S1.var eb
              have hk : K' xa = some (.ins C dx []) := S1.ext.keep _ _ hx hpx
              refine ⟨va, ga, _, r0, xa, C, dx, [], rfl, hk, cl, n1, by show 0 < 1000; decide, vb, gb, _, r0, xa, C, dx, _, rfl, upd_same, cl, n2, by show 1 < 1000; decide, ?_⟩
              rw [upd_upd]
              have ef : putF f2 vb (putF f1 va []) = [(f1, va), (f2, vb)] := by
                show (if f1 = f2 then [(f1, vb)] else (f1, va) :: putF f2 vb []) = _
                rw [if_neg hne]; rfl
              rw [ef]
              exact hp K0 K' _ S1.ext hk (by simp only [RepF]; exact ⟨va, _, rfl, ra, vb, [], rfl, rb, rfl⟩)
            · cases eq
          · cases eq
        · cases eq
      · rename_i er hs' eq
        split at eq
        · unfold e_var at eq
          split at eq
          · have eq := eq
            split at eq <;> cases eq
          · cases eq
        · cases eq
      · exact hp.elim
  | exc er h1 => rw [e] at hp; exact hp
  | stuck => rw [e] at hp; exact hp
end
end DL

namespace DL
open PySem PySem.Spec L2
open PyProof.Rows hiding St

theorem Ext.insq {C : Kx} {H0 H K0 K : Hp} {hs : List D} (x : Ext C H0 H K0 K hs) {q : Addr} {o : HO} (hq : H q = none) (h0 : K0 q = none) (hp : C.p ≠ some q) : Ext C H0 H (upd K0 q o) (upd K q o) hs ∧ Same K0 (upd K0 q o) := by
  have sm : Same K0 (upd K0 q o) := fun b u e => by rw [upd_ne (ne_of_none e h0)]; exact e
  refine ⟨⟨x.sub0.trans sm, fun a h1 h2 => ?_, fun a u e hp' => ?_, ⟨fun b u e => ?_, fun b e => ?_⟩⟩, sm⟩
  · by_cases z : a = q
    · rw [z]; exact hq
    · rw [upd_ne z] at h2; exact x.new a h1 h2
  · rw [upd_ne (ne_of_none e hq)]; exact x.keep a u e hp'
  · by_cases z : b = q
    · subst z; rw [upd_same] at e ⊢; exact e
    · rw [upd_ne z] at e ⊢; exact x.st.sub b u e
  · obtain ⟨h1, ws, h2, h3⟩ := x.st.hand b e
    have z : b ≠ q := fun z => hp (by rw [← z]; exact e)
    exact ⟨by rw [upd_ne z]; exact h1, ws, by rw [upd_ne z]; exact h2, h3.mono sm _ _⟩

/-! ### raw_task: an instance whose two fields are stored anew -/
def rawF (cn f1 f2 : Str) (v1 v2 : EM) (ds hs : List D) : R D := match ds with
  | [a, b] => (v1 [.val a, .val b, .un] hs).bind fun x h => (v2 [.val a, .val b, .un] h).bind fun y h => .ok (.ins cn [(f1, x), (f2, y)]) h
  | _ => .stuck
section
variable {P : Program} {w : World} {K : PySem.W.Frag} {mg : Str → Option Value} {base : Heap}
theorem ok_raw {x qual : Str} {st : Stmt} {f C fi : Addr} {fd fdi : FuncData} {psi : List Str} {k : Nat} {f1 f2 cn a1 a2 tk : Str} {FT : List D → List D → R (List (Str × D))} {e1 e2 u1 u2 : Expr} {fr : AM} {v1 v2 : EM} {d1 d2 : D} {a0 b0 : D}
    {p1 p2 p3 p4 p5 p6 q1 q2 q6 r1 r2 r6 : Pos}
    (F : Fun K x qual st f fd) (S : FnScope [a1, a2, tk] [a1, a2] (defScope st)) (cl : Cls K C) (n1 : NoAttr K C f1) (n2 : NoAttr K C f2) (hne : f1 ≠ f2) (M : Mk K C fi) (hC : mg cn = some (.ref C)) (hbi : Binds K fdi psi [])
    (G : FnOk P w K mg base (L2.CX P w) k fi fdi psi (spI K mg C 2 FT))
    (h0 : ∀ hs, FT [d1, d2] hs = .ok [(f1, a0), (f2, b0)] hs) (hfr : ∀ ρ hs, fr ρ hs = .ok [d1, d2] hs)
    (hbody : defBody st = [.Assign [.Name tk p1] (.Call (.Name cn p2) [e1, e2] [] p3) p4, .Assign [.Attribute (.Name tk q1) f1 q2] u1 q6,
      .Assign [.Attribute (.Name tk r1) f2 r2] u2 r6, .Return (some (.Name tk p5)) p6])
    (hd : (tk == ("__debug__" : Str)) = false) (hcd : (tk == ("__classdict__" : Str)) = false) (hdb : (cn == ("__debug__" : Str)) = false)
    (hX : ∀ (cdv : Value) (A : Around) (outer : List Env) (s : Shared) (H : Hp) (E : XK), Room (k + 1) (A.deeper (envOfC qual (defScope st) s.heap.objs.size f cdv)) → let X := cxOf (L2.CX P w) P w K mg base [a1, a2, tk] qual (defScope st) f cdv A outer s H E
      Ctx X E → DA X E [e1, e2] fr ∧ DE X E u1 v1 ∧ DE X E u2 v2 ∧ Gl X cn ∧ starEach [e1, e2] X.env = (false, eval e1 X.env) :: starEach [e2] X.env ∧ (backTo p3 (starEach [e2] X.env)).any (·.1) = false ∧
      swapsWith (.Call (.Name cn p2) [e1, e2] [] p3) (some (.Name tk p1)) p4.line X.env = pure false ∧ L2.Loc X.env.scope tk ∧ Vis X.env.scope tk ∧ (X.fn tk = true ∨ X.env.scope.names.lookup tk = some .local) ∧
      swapsWith u1 (some (.Attribute (.Name tk q1) f1 q2)) q6.line X.env = pure false ∧ swapsWith u2 (some (.Attribute (.Name tk r1) f2 r2)) r6.line X.env = pure false) :
    FnOk P w K mg base (L2.CX P w) (k + 2) f fd [a1, a2] (spD K mg 2 (rawF cn f1 f2 v1 v2)) := by
  refine F.okX S (fun vs H Q E h => h.1) (fun cdv A outer s H vs Q E hr h => ?_)
  obtain ⟨hn, p, H0, ds, hs, st', r, hp⟩ := h
  have C0 := ctx_of (P := P) (w := w) (K := K) (mg := mg) (base := base) (E := E) (H := H) (cd := cdv) (outer := outer) (s := s) S hr
  obtain ⟨⟨ta, pa, qa⟩, ⟨t1, pe1, qe1⟩, ⟨t2, pe2, qe2⟩, g1, g3, g4, g5, g6, g7, g8, g9, g10⟩ := hX cdv A outer s H E hr C0
  rw [hbody]
  refine ⟨_, pss_cons (ps_set (i := 2) S.nd rfl g6 (pe_make M G hr g1 hC hbi .nil C0.pass pa hdb g3 g4) g5 g8)
    (pss_cons (ps_fld (pe_var (i := 2) rfl g7 hd hcd) pe1 g9)
    (pss_cons (ps_fld (pe_var (i := 2) rfl g7 hd hcd) pe2 g10)
    (pss_one (ps_ret (pe_var (i := 2) rfl g7 hd hcd))))), ?_⟩
  match ds, hp, r with
  | [a, b], hp, r =>
    obtain ⟨va, vr, rfl, ra, r2⟩ := r.cons_inv
    obtain ⟨vb, vr2, rfl, rb, r3⟩ := r2.cons_inv
    have e3 := r3.nil_inv
    subst e3
    have S0 := SR.start (N := [a1, a2, tk]) st' r
    refine qa p ⟨H0, fun _ => none⟩ H H0 H _ hs _ _ S0 ?_
    rw [hfr]
    intro K0 K1 vs x rv
    -- the new instance
    intro y dx hy hdx hneyd
    have y1' := x.st.laid (o := .own y) hdx
    have hy2 : upd K1 dx (.own y) y = none := by rw [upd_ne (Ne.symm hneyd)]; exact hy
    have y2' := y1'.st.laid (o := .ins C dx []) hy2
    have xy := x.trans (y1'.trans y2')
    have h0y : K0 y = none := x.st.sub.free hy
    have hpy : p ≠ some y := x.st.hand_ne hy
    have hHy : H y = none := x.gone st' hy
    rw [List.append_nil]
    refine ⟨by rw [List.length_cons, rv.length]; rfl, y, dx, vs, p, K0, _, hs, rfl, xy.st, rv, upd_same, h0y, hpy, ?_⟩
    rw [h0]
    intro L0 L1 fv u hL rf
    refine ⟨rfl, ?_⟩
    have xu := xy.trans u
    have l0y : L0 y = none := by
      cases q : L0 y with
      | none => rfl
      | some o => exact absurd (u.new y h0y (by rw [q]; simp)) (by rw [upd_same]; simp)
    -- the fields as __init__ stored them
    simp only [RepF] at rf
    obtain ⟨w1, _, rfl, _, w2, _, rfl, _, rfl⟩ := rf
    have eF1 : ∀ z, putF f1 z [(f1, w1), (f2, w2)] = [(f1, z), (f2, w2)] := fun z => by
      show (if f1 = f1 then _ else _) = _
      rw [if_pos rfl]
    have eF2 : ∀ z z', putF f2 z [(f1, z'), (f2, w2)] = [(f1, z'), (f2, z)] := fun z z' => by
      show (if f1 = f2 then _ else (f1, z') :: (if f2 = f2 then _ else _)) = _
      rw [if_neg hne, if_pos rfl]
    have z1 := xu.updq (o := .ins C dx [(f1, w1), (f2, w2)]) hHy l0y hpy
    have S1 : SR ⟨K, mg, p⟩ ⟨H0, fun _ => none⟩ H [.val a, .val b, .un] hs (List.set (L2.start [a1, a2, tk] [va, vb]) 2 (some (V.ref y))) L0 _ := (S0.step z1).setun (i := 2)
    -- task.writes = ..
    refine qe1 p _ H L0 _ _ hs _ _ S1 ?_
    have hp : Post ⟨K, mg, p⟩ H0 H E (relV ⟨K, mg, p⟩) Q ((v1 [.val a, .val b, .un] hs).bind fun x h => (v2 [.val a, .val b, .un] h).bind fun y h => .ok (.ins cn [(f1, x), (f2, y)]) h) := hp
    cases e1 : v1 [.val a, .val b, .un] hs with
    | stuck => rw [e1] at hp; exact (show False from hp).elim
    | exc er h1 => rw [e1] at hp; exact fun K0 K c dd x e => hp K0 K c dd (z1.trans x) e
    | ok x1 h1 =>
      rw [e1] at hp
      intro M0 M1 ua zA rA
      have hp : Post ⟨K, mg, p⟩ H0 H E (relV ⟨K, mg, p⟩) Q ((v2 [.val a, .val b, .un] h1).bind fun y h => .ok (.ins cn [(f1, x1), (f2, y)]) h) := hp
      have hA : M1 y = some (.ins C dx [(f1, w1), (f2, w2)]) := zA.keep _ _ upd_same hpy
      have z1A := z1.trans zA
      have m0y : M0 y = none := by
        cases q : M0 y with
        | none => rfl
        | some o => exact absurd (zA.new y l0y (by rw [q]; simp)) (by rw [upd_same]; simp)
      refine ⟨_, rfl, y, C, dx, _, rfl, hA, cl, n1, by show 2 < 1000; decide, ?_⟩
      rw [eF1]
      have z2 := z1A.updq (o := .ins C dx [(f1, ua), (f2, w2)]) hHy m0y hpy
      have S2 : SR ⟨K, mg, p⟩ ⟨H0, fun _ => none⟩ H [.val a, .val b, .un] h1 (List.set (L2.start [a1, a2, tk] [va, vb]) 2 (some (V.ref y))) M0 _ := (S0.step z2).setun (i := 2)
      refine qe2 p _ H M0 _ _ h1 _ _ S2 ?_
      cases e2 : v2 [.val a, .val b, .un] h1 with
      | stuck => rw [e2] at hp; exact (show False from hp).elim
      | exc er h2 => rw [e2] at hp; exact fun K0 K c dd x e => hp K0 K c dd (z2.trans x) e
      | ok y1 h2 =>
        rw [e2] at hp
        intro N0 N1 ub zB rB
        have hB : N1 y = some (.ins C dx [(f1, ua), (f2, w2)]) := zB.keep _ _ upd_same hpy
        have z2B := z2.trans zB
        have n0y : N0 y = none := by
          cases q : N0 y with
          | none => rfl
          | some o => exact absurd (zB.new y m0y (by rw [q]; simp)) (by rw [upd_same]; simp)
        refine ⟨_, rfl, y, C, dx, _, rfl, hB, cl, n2, by show 2 < 1000; decide, ?_⟩
        rw [eF2]
        refine ⟨_, rfl, ?_⟩
        obtain ⟨z3, sm⟩ := z2B.insq (o := .ins C dx [(f1, ua), (f2, ub)]) hHy n0y hpy
        have rA : Rep ⟨K, mg, p⟩ M0 x1 ua := rA
        have rB : Rep ⟨K, mg, p⟩ N0 y1 ub := rB
        exact hp _ _ (.ref y) z3 (by simp only [relV, Rep, RepF]; exact ⟨y, C, dx, _, rfl, hC, upd_same, ua, _, rfl, (rA.mono zB.sub0 _ _).mono sm _ _, ub, _, rfl, rB.mono sm _ _, rfl⟩)
end
end DL

namespace DL
open PySem PySem.Spec L2
open PyProof.Rows hiding St

/-! ### the head's facts -/
def obD (a b : Option Bool) : Bool := decide (a = b)
def ownB (K : PySem.W.Frag) (c : Str) : Bool :=
  (He.Fa.glo c).ok K && ((He.Fa.cls c).ok K && (He.eqO (PySem.W.findIn K (.ref (He.ga K c)) "__class__") (some (some (.builtin "object.__class__")))
  && (He.eqO (PySem.W.specialIn K (.builtin "object.__class__") "__get__") (some (some (.builtin "getset_descriptor.__get__")))
  && (decide (PySem.W.takesIn K (.builtin "object.__class__") = some true) && (PySem.W.mroIn K (He.ga K c) (.type "object") == some true
  && (["int", "bool", "tuple", "list", "str"].all (fun n => PySem.W.kitOne K (.ref (He.ga K c)) (.type n) == some false)
  && (["NoneType", "int", "bool", "tuple", "list", "str", "dict"].all (fun n => PySem.W.kitOne K (.type n) (.ref (He.ga K c)) == some false))))))))
def ownsB (K : PySem.W.Frag) (cs : List Str) : Bool := cs.all (ownB K) && cs.all (fun c => cs.all fun c' => decide (c = c') || PySem.W.kitOne K (.ref (He.ga K c)) (.ref (He.ga K c')) == some false)
section
variable {K : PySem.W.Frag} {h : Heap} {mg : Str → Option Value}
theorem ownB_ok (X : K.In h) (G : h.Ns mainGlobals mg) {c : Str} (e : ownB K c = true) : OwnC K mg c (He.ga K c) := by
  unfold ownB at e
  obtain ⟨e1, e⟩ := He.ba e
  obtain ⟨e2, e⟩ := He.ba e
  obtain ⟨e3, e⟩ := He.ba e
  obtain ⟨e4, e⟩ := He.ba e
  obtain ⟨e5, e⟩ := He.ba e
  obtain ⟨e6, e⟩ := He.ba e
  obtain ⟨e7, e8⟩ := He.ba e
  have k : ∀ n ∈ ["int", "bool", "tuple", "list", "str"], PySem.W.kitOne K (.ref (He.ga K c)) (.type n) = some false := fun n hn => eq_of_beq (List.all_eq_true.mp e7 n hn)
  have k' : ∀ n ∈ ["NoneType", "int", "bool", "tuple", "list", "str", "dict"], PySem.W.kitOne K (.type n) (.ref (He.ga K c)) = some false := fun n hn => eq_of_beq (List.all_eq_true.mp e8 n hn)
  exact ⟨He.glo_ok X G e1, He.cls_ok e2, He.eqO_ok e3, He.eqO_ok e4, of_decide_eq_true e5, eq_of_beq e6, k _ (by simp), k _ (by simp), k _ (by simp), k _ (by simp), k _ (by simp),
    k' _ (by simp), k' _ (by simp), k' _ (by simp), k' _ (by simp), k' _ (by simp), k' _ (by simp), k' _ (by simp)⟩
theorem ownsB_ok (X : K.In h) (G : h.Ns mainGlobals mg) {cs : List Str} (e : ownsB K cs = true) : Owns K mg cs := by
  obtain ⟨e1, e2⟩ := He.ba e
  refine ⟨fun c hc => ⟨_, ownB_ok X G (List.all_eq_true.mp e1 c hc)⟩, fun c hc c' hc' hne C C' h1 h2 => ?_⟩
  have o1 := (ownB_ok X G (List.all_eq_true.mp e1 c hc)).mg
  have o2 := (ownB_ok X G (List.all_eq_true.mp e1 c' hc')).mg
  rw [o1] at h1
  rw [o2] at h2
  cases h1
  cases h2
  have := List.all_eq_true.mp (List.all_eq_true.mp e2 c hc) c' hc'
  rcases Bool.or_eq_true_iff.mp this with q | q
  · exact absurd (of_decide_eq_true q) hne
  · exact eq_of_beq q
end
/-- hookD, and one Bool more -/
abbrev AlM : Type := He.AlD × Bool
def obsMK (fa : List He.Fa) (fn : List He.DefD) (ex : PySem.W.Frag → Bool) (K : PySem.W.Frag) : AlM := (He.obsD fa fn K, ex K)
def obsM (n : Nat) (fa : List He.Fa) (fn : List He.DefD) (ex : PySem.W.Frag → Bool) (g : Addr → Option Obj) : AlM := obsMK fa fn ex (He.frG g (He.asD g n))
def SaysM (fa : List He.Fa) (fn : List He.DefD) (ex : PySem.W.Frag → Bool) (K : PySem.W.Frag) : Prop := He.SaysD fa fn K ∧ ex K = true
def hookM (n : Nat) (fa : List He.Fa) (fn : List He.DefD) (ex : PySem.W.Frag → Bool) : PySem.W.Hook where
  α := AlM
  obs := fun s => obsM n fa fn ex s.heap.get?
  val := fun _ => (He.valD fn, true)
  says := fun _ h => ∃ K : PySem.W.Frag, K.In h ∧ SaysM fa fn ex K
  of := fun _ _ e => ⟨_, He.frG_in, congrArg (fun z : AlM => z.1) e, congrArg (fun z : AlM => z.2) e⟩
  keeps := fun _ _ _ ⟨K, hK, c⟩ k => ⟨K, PySem.W.Frag.In.keeps hK k, c⟩
theorem obsM_eq {n : Nat} {fa : List He.Fa} {fn : List He.DefD} {ex : PySem.W.Frag → Bool} {g : Addr → Option Obj} {s : Shared} (h : ∀ a, g a = s.heap.get? a) : obsM n fa fn ex g = (hookM n fa fn ex).obs s := by
  have e : g = s.heap.get? := funext h
  rw [e] <;> rfl
end DL

namespace DL
open PySem PySem.Spec L2
open PyProof.Rows hiding St

/-! ### the law: its hand is made, then it runs -/
def hand0 (ns : List Int) : List D := [.lst (ns.map fun n => .int (n.natAbs : Int)), .int 0, .int 0, .int (1 + (ns.length : Int)), .int 0]
theorem Reps.ints {C : Kx} {H : Hp} : ∀ ns : List Int, Reps C H (ns.map D.int) (ns.map V.int)
  | [] => Reps.nil
  | n :: ns => Reps.cons (by simp only [Rep]) (Reps.ints ns)
def spLaw (K : PySem.W.Frag) : Sp := fun vs H Q _ => ∃ (a : Addr) (ns : List Int), vs = [.ref a] ∧ SqL K H a (ns.map V.int) ∧ ns.length ≤ 63 ∧ ∀ H', Q (.bl true) H'
section
variable {P : Program} {w : World} {K : PySem.W.Frag} {mg : Str → Option Value} {base : Heap}
theorem ints_only {C C' : Kx} {H H' : Hp} : ∀ {ns : List Int} {vs : List V}, Reps C H (ns.map D.int) vs → vs = ns.map V.int
  | [], vs, h => h.nil_inv
  | n :: ns, vs, h => by
    obtain ⟨v, r, rfl, h1, h2⟩ := Reps.cons_inv h
    rw [ints_only (C' := C') (H' := H') h2]
    simp only [Rep] at h1
    rw [h1]; rfl
theorem ok_law {x qual sc : Str} {st s1 : Stmt} {rest : List Stmt} {f : Addr} {fd : FuncData} {N : List Str} {k m : Nat} {f1 fb : SM} (F : Fun K x qual st f fd) (S : FnScope N [sc] (defScope st)) (hN : N.length = m + 2) (hb : defBody st = s1 :: rest)
    (h1 : ∀ ns : List Int, ns.length ≤ 63 → ∃ ρ1, f1 (.val (.scr (ns.map .int)) :: List.replicate (m + 1) .un) [] = .ok (.nx ρ1) [] ∧ ρ1[1]? = some (.val (.lst (hand0 ns))) ∧ ρ1.length = m + 2)
    (h2 : ∀ ns : List Int, ns.length ≤ 63 → ∃ h, fb (.un :: .val .hnd :: List.replicate m .un) (hand0 ns) = .ok (.rt (.bl true)) h)
    (hbody : ∀ (cdv : Value) (A : Around) (outer : List Env) (s : Shared) (H : Hp) (E : XK), Room k (A.deeper (envOfC qual (defScope st) s.heap.objs.size f cdv)) →
      Ctx (cxOf (L2.CX P w) P w K mg base N qual (defScope st) f cdv A outer s H E) E → DS (cxOf (L2.CX P w) P w K mg base N qual (defScope st) f cdv A outer s H E) E s1 f1 ∧ DSs (cxOf (L2.CX P w) P w K mg base N qual (defScope st) f cdv A outer s H E) E rest fb) :
    FnOk P w K mg base (L2.CX P w) (k + 1) f fd [sc] (spLaw K) := by
  refine F.okX S (fun vs H Q E h => by obtain ⟨a, ns, rfl, _⟩ := h; rfl) (fun cdv A outer s H vs Q E hr h => ?_)
  obtain ⟨a, ns, rfl, hS, hl, hQ⟩ := h
  obtain ⟨⟨t1, p1, q1⟩, ⟨t2, p2, q2⟩⟩ := hbody cdv A outer s H E hr (ctx_of S hr)
  rw [hb]
  refine ⟨_, pss_cons p1 p2, ?_⟩
  obtain ⟨ρ1, e1, e1', e1''⟩ := h1 ns hl
  have st0 : Stt (⟨K, mg, none⟩ : Kx) H H [] := ⟨Same.refl _, fun a e => by cases e⟩
  have r0 : Reps (⟨K, mg, none⟩ : Kx) H [.scr (ns.map .int)] [V.ref a] := Reps.cons (by simp only [Rep]; exact ⟨a, _, rfl, hS, Reps.ints ns⟩) Reps.nil
  have S0 := SR.start (N := N) st0 r0
  have eN : ([D.scr (ns.map .int)].map Sl.val ++ List.replicate (N.length - [D.scr (ns.map D.int)].length) Sl.un) = .val (.scr (ns.map .int)) :: List.replicate (m + 1) .un := by
    rw [hN]; rfl
  rw [eN] at S0
  refine q1 none ⟨H, fun _ => none⟩ H H H _ [] _ _ S0 ?_
  rw [e1]
  intro σ K0 K' sm S1
  -- the hand
  obtain ⟨v, ev, rv⟩ := S1.var e1'
  obtain ⟨q, us, rfl, hq, ru⟩ := rv.list
  obtain ⟨c0, r1, rfl, hc0, ru1⟩ := ru.cons_inv
  obtain ⟨c, cs, rfl, hc, rc⟩ := hc0.list
  have hcs : cs = (ns.map fun n => (n.natAbs : Int)).map V.int := by
    have : (ns.map fun n => D.int (n.natAbs : Int)) = (ns.map fun n => (n.natAbs : Int)).map D.int := by rw [List.map_map]; rfl
    rw [this] at rc
    exact ints_only (C' := ⟨K, mg, none⟩) (H' := K0) rc
  have hne : q ≠ c := fun z => by
    rw [z, hc] at hq
    have e3 : cs = .ref c :: r1 := by injection (Option.some.inj hq)
    rw [hcs] at e3
    cases ns with
    | nil => cases e3
    | cons n r => cases e3
  let H2 : Hp := upd (fun _ => none) c (.lst cs)
  have hK : K' c = some (.lst cs) := S1.st.sub _ _ hc
  have hKq : K' q = some (.lst (.ref c :: r1)) := S1.st.sub _ _ hq
  have rr : Reps (⟨K, mg, some q⟩ : Kx) H2 (hand0 ns) (.ref c :: r1) := by
    refine Reps.cons (Rep.of_list (upd_same) ?_) ?_
    · have : (ns.map fun n => D.int (n.natAbs : Int)) = (ns.map fun n => (n.natAbs : Int)).map D.int := by rw [List.map_map]; rfl
      rw [this, hcs]
      exact Reps.ints _
    · obtain ⟨w1, r2, rfl, a1, ru2⟩ := ru1.cons_inv
      obtain ⟨w2, r3, rfl, a2, ru3⟩ := ru2.cons_inv
      obtain ⟨w3, r4, rfl, a3, ru4⟩ := ru3.cons_inv
      obtain ⟨w4, r5, rfl, a4, ru5⟩ := ru4.cons_inv
      have e5 := ru5.nil_inv
      subst e5
      simp only [Rep] at a1 a2 a3 a4
      subst a1 a2 a3 a4
      exact Reps.ints [0, 0, 1 + (ns.length : Int), 0]
  have st2 : Stt (⟨K, mg, some q⟩ : Kx) H2 K' (hand0 ns) := by
    refine ⟨fun b o e => ?_, fun b e => ?_⟩
    · by_cases z : b = c
      · subst z; rw [show H2 b = some (.lst cs) from upd_same] at e; cases e; exact hK
      · rw [show H2 b = none from upd_ne z] at e; cases e
    · cases e
      exact ⟨upd_ne hne, _, hKq, rr⟩
  have hlen : σ.length = m + 2 := by rw [S1.len]; exact e1''
  have hS2 : SR (⟨K, mg, some q⟩ : Kx) ⟨H2, fun _ => none⟩ K' (.un :: .val .hnd :: List.replicate m .un) (hand0 ns) σ H2 K' := by
    refine ⟨st2.ext, fun b e => ?_, ?_, fun i t e => ?_, fun i e => ?_, fun i j as bs b e1 => ?_⟩
    · cases e; rw [hKq]; simp
    · rw [hlen]; simp
    · match i, e with
      | 0, e => cases e; exact ⟨_, List.getElem?_eq_getElem (by rw [hlen]; omega), trivial⟩
      | 1, e => cases e; exact ⟨_, ev, .ref q, rfl, by simp only [Rep]; exact ⟨q, rfl, rfl⟩⟩
      | i + 2, e =>
        have e : (List.replicate m Sl.un)[i]? = some t := by simpa using e
        rw [List.getElem?_replicate] at e
        split at e
        · rename_i hi
          cases e
          exact ⟨_, List.getElem?_eq_getElem (by rw [hlen]; omega), trivial⟩
        · cases e
    · match i, e with
      | 0, e => cases e
      | 1, e => cases e
      | i + 2, e =>
        have e : (List.replicate m Sl.un)[i]? = some .raw := by simpa using e
        rw [List.getElem?_replicate] at e
        split at e <;> cases e
    · match i, e1 with
      | 0, e => cases e
      | 1, e => cases e
      | i + 2, e =>
        have e : (List.replicate m Sl.un)[i]? = some (.own as) := by simpa using e
        rw [List.getElem?_replicate] at e
        split at e <;> cases e
  obtain ⟨hh, e2⟩ := h2 ns hl
  refine q2 (some q) ⟨H2, fun _ => none⟩ K' H2 K' _ _ σ _ hS2 ?_
  rw [e2]
  intro L0 L v x rv
  simp only [Rep] at rv
  subst rv
  exact hQ L
end
end DL

namespace DL
open PySem PySem.Spec L2
open PyProof.Rows hiding St

/-! ### a law's surroundings -/
def EnvP (fa : List He.Fa) (fn : List He.DefD) (ex : PySem.W.Frag → Bool) (K : PySem.W.Frag) (mg : Str → Option Value) : Prop := ∃ h : Heap, K.In h ∧ h.Ns mainGlobals mg ∧ SaysM fa fn ex K
def mkD (at_ : Str × Option Str) (x qual : Str) (st : Stmt) : He.DefD := ⟨at_, x, qual, defArgs st, defBody st, defScope st, [], []⟩
section
variable {fa : List He.Fa} {fn : List He.DefD} {ex : PySem.W.Frag → Bool} {K : PySem.W.Frag} {mg : Str → Option Value}
theorem EnvP.free (T : EnvP fa fn ex K mg) (i : Nat) {x : Str} (h : fa[i]? = some (.free x) := by rfl) : mg x = none := by
  obtain ⟨hp, X, G, c⟩ := T; exact He.free_ok X G (c.1.fact i h)
theorem EnvP.glo (T : EnvP fa fn ex K mg) (i : Nat) {x : Str} (h : fa[i]? = some (.glo x) := by rfl) : mg x = some (.ref (He.ga K x)) := by
  obtain ⟨hp, X, G, c⟩ := T; exact He.glo_ok X G (c.1.fact i h)
theorem EnvP.int (T : EnvP fa fn ex K mg) (i : Nat) {x : Str} {n : Int} (h : fa[i]? = some (.int x n) := by rfl) : ∃ t, mg x = some (.int n t) := by
  obtain ⟨hp, X, G, c⟩ := T; exact He.int_ok X G (c.1.fact i h)
theorem EnvP.cls (T : EnvP fa fn ex K mg) (i : Nat) {x : Str} (h : fa[i]? = some (.cls x) := by rfl) : Cls K (He.ga K x) := by
  obtain ⟨hp, X, G, c⟩ := T; exact He.cls_ok (c.1.fact i h)
theorem EnvP.noat (T : EnvP fa fn ex K mg) (i : Nat) {x f : Str} (h : fa[i]? = some (.noat x f) := by rfl) : NoAttr K (He.ga K x) f := by
  obtain ⟨hp, X, G, c⟩ := T; exact He.noat_ok (c.1.fact i h)
theorem EnvP.meth (T : EnvP fa fn ex K mg) (i : Nat) {x m : Str} (h : fa[i]? = some (.meth x m) := by rfl) : Meth K (He.ga K x) m (He.ma K (He.ga K x) m) := by
  obtain ⟨hp, X, G, c⟩ := T; exact He.meth_ok (c.1.fact i h)
theorem EnvP.mkr (T : EnvP fa fn ex K mg) (i : Nat) {x : Str} (h : fa[i]? = some (.mkr x) := by rfl) : Mk K (He.ga K x) (He.ma K (He.ga K x) "__init__") := by
  obtain ⟨hp, X, G, c⟩ := T; exact He.mkr_ok (c.1.fact i h)
theorem EnvP.def_ (T : EnvP fa fn ex K mg) (i : Nat) {d : He.DefD} (h : fn[i]? = some d := by rfl) : ∃ fd, FunD K d.name d.qual d.params d.body d.scope (d.dvs K) (d.kws K) (He.fAd K d.at_) fd := by
  obtain ⟨hp, X, G, c⟩ := T; exact c.1.def_ i h
theorem EnvP.more (T : EnvP fa fn ex K mg) : ex K = true := by
  obtain ⟨hp, X, G, c⟩ := T; exact c.2
theorem EnvP.owns {cs : List Str} (T : EnvP fa fn (fun K => ownsB K cs) K mg) : Owns K mg cs := by
  obtain ⟨hp, X, G, c⟩ := T; exact ownsB_ok X G c.2
theorem fun_ofD {x qual : Str} {st : Stmt} {f : Addr} {fd : FuncData} (F : FunD K x qual (defArgs st) (defBody st) (defScope st) [] [] f fd) : Fun K x qual st f fd := by
  obtain ⟨oc, od, dV, kV, doc, pm, an, cdv, ct, osl, e, lk, hcd, hD, hK⟩ := F.ex
  rcases hD with ⟨_, rfl⟩ | ⟨e, _⟩
  · exact ⟨⟨oc, od, kV, doc, pm, an, cdv, ct, osl, e, lk, hcd⟩, F.kp⟩
  · exact absurd rfl e
end
/-- a global def keeps its promise -/
def OkF (P : Program) (w : World) (K : PySem.W.Frag) (mg : Str → Option Value) (base : Heap) (x : Str) (k : Nat) (ps : List Str) (F : List D → List D → R D) : Prop :=
  ∃ fd : FuncData, mg x = some (.ref (He.ga K x)) ∧ PySem.W.keepIn K (.ref (He.ga K x)) = true ∧ Binds K fd ps [] ∧ FnOk P w K mg base (L2.CX P w) k (He.ga K x) fd ps (spD K mg ps.length F)
def BindsOk (st : Stmt) (x qual : Str) (ps : List Str) : Prop := ∀ (kV doc pm : Value) (an : Option Addr) (cdv ct : Value) (us : List Value), us.length = ps.length → bindArgs (PySem.W.fnOf x qual (defArgs st) (defBody st) (defScope st) .none kV doc pm an cdv ct) ⟨us, []⟩ = pure (ps.zip us)
section
variable {P : Program} {w : World} {K : PySem.W.Frag} {mg : Str → Option Value} {base : Heap}
theorem okf_of {x : Str} {st : Stmt} {N ps : List Str} {k : Nat} {fb : SM} (hF : ∃ fd, FunD K x x (defArgs st) (defBody st) (defScope st) [] [] (He.ga K x) fd) (hm : mg x = some (.ref (He.ga K x))) (hb : BindsOk st x x ps) (S : FnScope N ps (defScope st))
    (hbody : ∀ (fd : FuncData) (cdv : Value) (A : Around) (outer : List Env) (s : Shared) (H : Hp) (E : XK), Room k (A.deeper (envOfC x (defScope st) s.heap.objs.size (He.ga K x) cdv)) →
      Ctx (cxOf (L2.CX P w) P w K mg base N x (defScope st) (He.ga K x) cdv A outer s H E) E → DSs (cxOf (L2.CX P w) P w K mg base N x (defScope st) (He.ga K x) cdv A outer s H E) E (defBody st) fb) :
    OkF P w K mg base x (k + 1) ps (runF N.length fb) := by
  obtain ⟨fd, F⟩ := hF
  exact ⟨fd, hm, F.kp, F.bindsN hb, ok_def (fun_ofD F) S (hbody fd)⟩
theorem OkF.zero {x : Str} {st : Stmt} {N ps : List Str} {k : Nat} (hF : ∃ fd, FunD K x x (defArgs st) (defBody st) (defScope st) [] [] (He.ga K x) fd) (hm : mg x = some (.ref (He.ga K x))) (hb : BindsOk st x x ps) (S : FnScope N ps (defScope st)) : OkF P w K mg base x (k + 1) ps (fun _ _ => .stuck) := by
  obtain ⟨fd, F⟩ := hF
  refine ⟨fd, hm, F.kp, F.bindsN hb, ?_⟩
  refine (fun_ofD F).okX S (fun vs H Q E h => h.1) (fun cdv A outer s H vs Q E hr h => ?_)
  obtain ⟨_, p, H0, ds, hs, _, _, hp⟩ := h
  exact (show False from hp).elim
end
section
variable {X : Cx} {E : XK} {e a b c : Expr} {es : List Expr} {fa fb fc : EM} {fr : AM} {pos pp : Pos} {x : Str}
theorem de_callG (C : Ctx X E) {k j : Nat} {ps : List Str} {F : List D → List D → R D} (O : OkF X.prog X.w X.K X.mg X.base x k ps F) (hr : Room j X.A) (hk : k ≤ j) (ha : DA X E (e :: es) fr) (hl : LenA fr ps.length) (hg : Gl X x := by rfl) (hdb : (x == ("__debug__" : Str)) = false := by decide) (he : starEach (e :: es) X.env = (false, eval e X.env) :: starEach es X.env := by rfl) (hpl : (backTo pos (starEach es X.env)).any (·.1) = false := by rfl) :
    DE X E (.Call (.Name x pp) (e :: es) [] pos) (e_call F fr) := by
  obtain ⟨fd, hm, kp, hb, G⟩ := O
  exact de_call C G (hr.mono hk) hm kp hb ha hl hg hdb he hpl
theorem Ctx.blk' {X : Cx} {E : XK} (C : Ctx X E) (s : Shared) (H : Hp) (scope : Scope) (cl : List (Str × Addr)) (a : Addr) (fp : List Addr) : Ctx (X.blk s H scope (compEnvC scope cl a X.env) fp) E0 := C.blk
/-! built-in calls in short -/
def e1 (g : D → Option D) (a : EM) : EM := e_app (on1 g) (a_cons a a_nil)
def e2 (g : D → D → Option D) (a b : EM) : EM := e_app (on2 g) (a_cons a (a_cons b a_nil))
theorem c_int (hm : X.mg "int" = none) (ha : DE X E e fa) (hg : Gl X "int" := by rfl) (he : starEach [e] X.env = (false, eval e X.env) :: starEach [] X.env := by rfl) (hpl : (backTo pos (starEach [] X.env)).any (·.1) = false := by rfl) : DE X E (.Call (.Name "int" pp) [e] [] pos) (e1 intD fa) :=
  de_callTy call_int1 og_int hg hm boot_int (da_cons ha da_nil he) (by decide) (by decide) he hpl
theorem c_tuple (hm : X.mg "tuple" = none) (ha : DE X E e fa) (hg : Gl X "tuple" := by rfl) (he : starEach [e] X.env = (false, eval e X.env) :: starEach [] X.env := by rfl) (hpl : (backTo pos (starEach [] X.env)).any (·.1) = false := by rfl) : DE X E (.Call (.Name "tuple" pp) [e] [] pos) (e1 tupleD fa) :=
  de_callTy call_tuple_of og_tuple hg hm boot_tuple (da_cons ha da_nil he) (by decide) (by decide) he hpl
theorem c_list (hm : X.mg "list" = none) (ha : DE X E e fa) (hg : Gl X "list" := by rfl) (he : starEach [e] X.env = (false, eval e X.env) :: starEach [] X.env := by rfl) (hpl : (backTo pos (starEach [] X.env)).any (·.1) = false := by rfl) : DE X E (.Call (.Name "list" pp) [e] [] pos) (e1 listD fa) :=
  de_callTy call_list_of og_list hg hm boot_list (da_cons ha da_nil he) (by decide) (by decide) he hpl
theorem c_abs (hm : X.mg "abs" = none) (ha : DE X E e fa) (hg : Gl X "abs" := by rfl) (he : starEach [e] X.env = (false, eval e X.env) :: starEach [] X.env := by rfl) (hpl : (backTo pos (starEach [] X.env)).any (·.1) = false := by rfl) : DE X E (.Call (.Name "abs" pp) [e] [] pos) (e1 absD fa) :=
  de_callB call_abs og_abs hg hm boot_abs (da_cons ha da_nil he) (by decide) (by decide) he hpl
theorem c_sum (C : Ctx X E) (hm : X.mg "sum" = none) (ha : DE X E e fa) (hg : Gl X "sum" := by rfl) (he : starEach [e] X.env = (false, eval e X.env) :: starEach [] X.env := by rfl) (hpl : (backTo pos (starEach [] X.env)).any (·.1) = false := by rfl) : DE X E (.Call (.Name "sum" pp) [e] [] pos) (e1 sumD fa) :=
  de_callB (cr_sumA C.calm) og_sum hg hm boot_sum (da_cons ha da_nil he) (by decide) (by decide) he hpl
theorem c_all (C : Ctx X E) (hm : X.mg "all" = none) (ha : DE X E e fa) (hg : Gl X "all" := by rfl) (he : starEach [e] X.env = (false, eval e X.env) :: starEach [] X.env := by rfl) (hpl : (backTo pos (starEach [] X.env)).any (·.1) = false := by rfl) : DE X E (.Call (.Name "all" pp) [e] [] pos) (e1 allD fa) :=
  de_callB (cr_all C.calm) og_all hg hm boot_all (da_cons ha da_nil he) (by decide) (by decide) he hpl
theorem c_any (C : Ctx X E) (hm : X.mg "any" = none) (ha : DE X E e fa) (hg : Gl X "any" := by rfl) (he : starEach [e] X.env = (false, eval e X.env) :: starEach [] X.env := by rfl) (hpl : (backTo pos (starEach [] X.env)).any (·.1) = false := by rfl) : DE X E (.Call (.Name "any" pp) [e] [] pos) (e1 anyD fa) :=
  de_callB (cr_any C.calm) og_any hg hm boot_any (da_cons ha da_nil he) (by decide) (by decide) he hpl
theorem c_max (C : Ctx X E) (hm : X.mg "max" = none) (ha : DE X E e fa) (hg : Gl X "max" := by rfl) (he : starEach [e] X.env = (false, eval e X.env) :: starEach [] X.env := by rfl) (hpl : (backTo pos (starEach [] X.env)).any (·.1) = false := by rfl) : DE X E (.Call (.Name "max" pp) [e] [] pos) (e1 maxD fa) :=
  de_callB (cr_max C.calm) og_max hg hm boot_max (da_cons ha da_nil he) (by decide) (by decide) he hpl
theorem c_min (C : Ctx X E) (hm : X.mg "min" = none) (ha : DE X E e fa) (hg : Gl X "min" := by rfl) (he : starEach [e] X.env = (false, eval e X.env) :: starEach [] X.env := by rfl) (hpl : (backTo pos (starEach [] X.env)).any (·.1) = false := by rfl) : DE X E (.Call (.Name "min" pp) [e] [] pos) (e1 minD fa) :=
  de_callB (cr_min C.calm) og_min hg hm boot_min (da_cons ha da_nil he) (by decide) (by decide) he hpl
theorem c_min2 (C : Ctx X E) (hm : X.mg "min" = none) (ha : DE X E a fa) (hb : DE X E b fb) (hg : Gl X "min" := by rfl) (he : starEach [a, b] X.env = (false, eval a X.env) :: starEach [b] X.env := by rfl) (he2 : starEach [b] X.env = (false, eval b X.env) :: starEach [] X.env := by rfl) (hpl : (backTo pos (starEach [b] X.env)).any (·.1) = false := by rfl) : DE X E (.Call (.Name "min" pp) [a, b] [] pos) (e2 min2D fa fb) :=
  de_callB (call_min2 C.calm) og_min2 hg hm boot_min (da_cons ha (da_cons hb da_nil he2) he) (by decide) (by decide) he hpl
theorem c_max2 (C : Ctx X E) (hm : X.mg "max" = none) (ha : DE X E a fa) (hb : DE X E b fb) (hg : Gl X "max" := by rfl) (he : starEach [a, b] X.env = (false, eval a X.env) :: starEach [b] X.env := by rfl) (he2 : starEach [b] X.env = (false, eval b X.env) :: starEach [] X.env := by rfl) (hpl : (backTo pos (starEach [b] X.env)).any (·.1) = false := by rfl) : DE X E (.Call (.Name "max" pp) [a, b] [] pos) (e2 max2D fa fb) :=
  de_callB (call_max2 C.calm) og_max2 hg hm boot_max (da_cons ha (da_cons hb da_nil he2) he) (by decide) (by decide) he hpl
theorem c_isi {cs : List Str} (O : Owns X.K X.mg cs) (hmI : X.mg "isinstance" = none) {y : Str} {n : String} {pn : Pos} (hm : X.mg y = none) (hv : bootBuiltins y = some (.type n)) (hn : n ∈ tyNames) (ha : DE X E e fa) (hg : Gl X y := by rfl) (hgI : Gl X "isinstance" := by rfl)
    (hy : y ≠ "__name__" := by decide) (hy2 : (y == ("__debug__" : Str)) = false := by decide)
    (he : starEach [e, .Name y pn] X.env = (false, eval e X.env) :: starEach [.Name y pn] X.env := by rfl) (hs1 : starEach [.Name y pn] X.env = (false, eval (.Name y pn) X.env) :: starEach [] X.env := by rfl) (hpl : (backTo pos (starEach [.Name y pn] X.env)).any (·.1) = false := by rfl) : DE X E (.Call (.Name "isinstance" pp) [e, .Name y pn] [] pos) (e_un (isTy cs n) fa) :=
  de_isi O hgI hmI hg hm hv hn ha hy hy2 he hs1 hpl
theorem c_isiC {cs : List Str} (O : Owns X.K X.mg cs) (hmI : X.mg "isinstance" = none) {y : Str} {pn : Pos} (hm : X.mg y = some (.ref (He.ga X.K y))) (hn : y ∈ cs) (ha : DE X E e fa) (hg : Gl X y := by rfl) (hgI : Gl X "isinstance" := by rfl)
    (hy2 : (y == ("__debug__" : Str)) = false := by decide)
    (he : starEach [e, .Name y pn] X.env = (false, eval e X.env) :: starEach [.Name y pn] X.env := by rfl) (hs1 : starEach [.Name y pn] X.env = (false, eval (.Name y pn) X.env) :: starEach [] X.env := by rfl) (hpl : (backTo pos (starEach [.Name y pn] X.env)).any (·.1) = false := by rfl) : DE X E (.Call (.Name "isinstance" pp) [e, .Name y pn] [] pos) (e_un (isOwn cs y) fa) :=
  de_isiC O hgI hmI hg hm hn ha hy2 he hs1 hpl
theorem de_gi {n : Int} (hm : ∃ t, X.mg x = some (.int n t)) (hg : Gl X x := by rfl) (hd : (x == ("__debug__" : Str)) = false := by decide) : DE X E (.Name x pos) (e_k (.int n)) := by
  obtain ⟨t, h⟩ := hm
  exact de_gint h hg hd
end
end DL

namespace DL
open PySem PySem.Spec L2
open PyProof.Rows hiding St

theorem r65 {k : Nat} {A : Around} (hr : Room k A) : A.units + 65 < cLine := by have := hr.un; omega
/-- the class c's own __eq__ keeps its promise -/
def OkEq (P : Program) (w : World) (K : PySem.W.Frag) (mg : Str → Option Value) (base : Heap) (c : Str) (k : Nat) (F : List D → List D → R D) : Prop :=
  ∃ (fd : FuncData) (ps : List Str) (f : Addr), mg c = some (.ref (He.ga K c)) ∧ PySem.W.findIn K (.ref (He.ga K c)) "__eq__" = some (some (.ref f)) ∧ PySem.W.isFn K (.ref f) = true ∧ Binds K fd ps [] ∧ FnOk P w K mg base (L2.CX P w) k f fd ps (spD K mg 2 F)
/-- making an instance of c: its __init__ keeps its promise -/
def OkMk (P : Program) (w : World) (K : PySem.W.Frag) (mg : Str → Option Value) (base : Heap) (c : Str) (k n : Nat) (F : List D → List D → R (List (Str × D))) : Prop :=
  ∃ (fd : FuncData) (ps : List Str) (f : Addr), mg c = some (.ref (He.ga K c)) ∧ Mk K (He.ga K c) f ∧ Binds K fd ps [] ∧ FnOk P w K mg base (L2.CX P w) k f fd ps (spI K mg (He.ga K c) n F)
section
variable {P : Program} {w : World} {K : PySem.W.Frag} {mg : Str → Option Value} {base : Heap}
theorem okeq_of {c qual : Str} {st : Stmt} {N ps : List Str} {k : Nat} {fb : SM} (hF : ∃ fd, FunD K "__eq__" qual (defArgs st) (defBody st) (defScope st) [] [] (He.ma K (He.ga K c) "__eq__") fd) (hm : mg c = some (.ref (He.ga K c))) (hM : Meth K (He.ga K c) "__eq__" (He.ma K (He.ga K c) "__eq__")) (hb : BindsOk st "__eq__" qual ps) (S : FnScope N ps (defScope st)) (h2 : ps.length = 2)
    (hbody : ∀ (fd : FuncData) (cdv : Value) (A : Around) (outer : List PySem.Env) (s : Shared) (H : Hp) (E : XK), Room k (A.deeper (envOfC qual (defScope st) s.heap.objs.size (He.ma K (He.ga K c) "__eq__") cdv)) →
      Ctx (cxOf (L2.CX P w) P w K mg base N qual (defScope st) (He.ma K (He.ga K c) "__eq__") cdv A outer s H E) E → DSs (cxOf (L2.CX P w) P w K mg base N qual (defScope st) (He.ma K (He.ga K c) "__eq__") cdv A outer s H E) E (defBody st) fb) :
    OkEq P w K mg base c (k + 1) (runF N.length fb) := by
  obtain ⟨fd, F⟩ := hF
  have G := ok_def (P := P) (w := w) (mg := mg) (base := base) (fun_ofD F) S (hbody fd)
  rw [h2] at G
  exact ⟨fd, ps, _, hm, hM.at_, hM.fn, F.bindsN hb, G⟩
theorem okmk_of {c qual : Str} {st : Stmt} {N ps : List Str} {k n i1 i2 : Nat} {f1 f2 : Str} {fb : SM} (hF : ∃ fd, FunD K "__init__" qual (defArgs st) (defBody st) (defScope st) [] [] (He.ma K (He.ga K c) "__init__") fd) (hm : mg c = some (.ref (He.ga K c))) (hM : Mk K (He.ga K c) (He.ma K (He.ga K c) "__init__")) (cl : Cls K (He.ga K c)) (n1 : NoAttr K (He.ga K c) f1) (n2 : NoAttr K (He.ga K c) f2) (hne : f1 ≠ f2) (hb : BindsOk st "__init__" qual ps) (S : FnScope N ps (defScope st)) (hn : ps.length = n + 1)
    (hbody : ∀ (fd : FuncData) (cdv : Value) (A : Around) (outer : List PySem.Env) (s : Shared) (H : Hp) (E : XK), Room k (A.deeper (envOfC qual (defScope st) s.heap.objs.size (He.ma K (He.ga K c) "__init__") cdv)) →
      Ctx (cxOf (L2.CX P w) P w K mg base N qual (defScope st) (He.ma K (He.ga K c) "__init__") cdv A outer s H E) E → DSk (cxOf (L2.CX P w) P w K mg base N qual (defScope st) (He.ma K (He.ga K c) "__init__") cdv A outer s H E) E (defBody st) fb (tSeq (sFld K (tVar 0) (tVar i1) f1) (sFld K (tVar 0) (tVar i2) f2))) :
    OkMk P w K mg base c (k + 1) n (initF N.length i1 i2 f1 f2 fb) := by
  obtain ⟨fd, F⟩ := hF
  exact ⟨fd, ps, _, hm, hM, F.bindsN hb, ok_init2 (fun_ofD F) S hn cl n1 n2 hne (hbody fd)⟩
/-- raw_task -/
theorem okf_raw {x : Str} {st : Stmt} {k : Nat} {f1 f2 cn a1 a2 tk : Str} {FT : List D → List D → R (List (Str × D))} {e1 e2 u1 u2 : Expr} {fr : AM} {v1 v2 : EM} {d1 d2 : D} {a0 b0 : D}
    {p1 p2 p3 p4 p5 p6 q1 q2 q6 r1 r2 r6 : Pos}
    (hF : ∃ fd, FunD K x x (defArgs st) (defBody st) (defScope st) [] [] (He.ga K x) fd) (hm : mg x = some (.ref (He.ga K x))) (hb : BindsOk st x x [a1, a2]) (S : FnScope [a1, a2, tk] [a1, a2] (defScope st)) (cl : Cls K (He.ga K cn)) (n1 : NoAttr K (He.ga K cn) f1) (n2 : NoAttr K (He.ga K cn) f2) (hne : f1 ≠ f2)
    (O : OkMk P w K mg base cn k 2 FT)
    (h0 : ∀ hs, FT [d1, d2] hs = .ok [(f1, a0), (f2, b0)] hs) (hfr : ∀ ρ hs, fr ρ hs = .ok [d1, d2] hs)
    (hbody : defBody st = [.Assign [.Name tk p1] (.Call (.Name cn p2) [e1, e2] [] p3) p4, .Assign [.Attribute (.Name tk q1) f1 q2] u1 q6,
      .Assign [.Attribute (.Name tk r1) f2 r2] u2 r6, .Return (some (.Name tk p5)) p6])
    (hd : (tk == ("__debug__" : Str)) = false) (hcd : (tk == ("__classdict__" : Str)) = false) (hdb : (cn == ("__debug__" : Str)) = false)
    (hX : ∀ (cdv : Value) (A : Around) (outer : List PySem.Env) (s : Shared) (H : Hp) (E : XK), Room (k + 1) (A.deeper (envOfC x (defScope st) s.heap.objs.size (He.ga K x) cdv)) → let X := cxOf (L2.CX P w) P w K mg base [a1, a2, tk] x (defScope st) (He.ga K x) cdv A outer s H E
      Ctx X E → DA X E [e1, e2] fr ∧ DE X E u1 v1 ∧ DE X E u2 v2 ∧ Gl X cn ∧ starEach [e1, e2] X.env = (false, eval e1 X.env) :: starEach [e2] X.env ∧ (backTo p3 (starEach [e2] X.env)).any (·.1) = false ∧
      swapsWith (.Call (.Name cn p2) [e1, e2] [] p3) (some (.Name tk p1)) p4.line X.env = pure false ∧ L2.Loc X.env.scope tk ∧ Vis X.env.scope tk ∧ (X.fn tk = true ∨ X.env.scope.names.lookup tk = some .local) ∧
      swapsWith u1 (some (.Attribute (.Name tk q1) f1 q2)) q6.line X.env = pure false ∧ swapsWith u2 (some (.Attribute (.Name tk r1) f2 r2)) r6.line X.env = pure false) :
    OkF P w K mg base x (k + 2) [a1, a2] (rawF cn f1 f2 v1 v2) := by
  obtain ⟨fd, F⟩ := hF
  obtain ⟨fdi, psi, fi, hC, M, hbi, G⟩ := O
  exact ⟨fd, hm, F.kp, F.bindsN hb, ok_raw (fun_ofD F) S cl n1 n2 hne M hC hbi G h0 hfr hbody hd hcd hdb hX⟩
end
section
variable {X : Cx} {E : XK} {e a b c : Expr} {es : List Expr} {fa fb fc : EM} {fr : AM} {pos pp : Pos} {x cn : Str}
theorem de_eqG {F : List D → List D → R D} {n j : Nat} (C0 : Ctx X E) (O : OkEq X.prog X.w X.K X.mg X.base cn n F) (hr : Room j X.A) (hk : n ≤ j) (ha : DE X E a fa) (hb' : DE X E b fb) : DE X E (.Compare a [.Eq] [b] pos) (e_eqO cn F fa fb) := by
  obtain ⟨fd, ps, f, hC, hs, hf, hb, G⟩ := O
  exact de_eqO C0 G (hr.mono hk) hC hs hf hb ha hb'
theorem dt_eqG {F : List D → List D → R D} {n j : Nat} (C0 : Ctx X E) (O : OkEq X.prog X.w X.K X.mg X.base cn n F) (hr : Room j X.A) (hk : n ≤ j) (ha : DE X E a fa) (hb' : DE X E b fb) : DT X E (.Compare a [.Eq] [b] pos) (t_val (e_eqO cn F fa fb)) := by
  obtain ⟨fd, ps, f, hC, hs, hf, hb, G⟩ := O
  exact dt_eqO C0 G (hr.mono hk) hC hs hf hb ha hb'
theorem de_makeG {F : List D → List D → R (List (Str × D))} {n m j : Nat} (C0 : Ctx X E) (O : OkMk X.prog X.w X.K X.mg X.base x n m F) (hr : Room j X.A) (hk : n + 1 ≤ j) (hm : m = es.length.succ)
    (ha : DA X E (e :: es) fr) (hl : LenA fr es.length.succ) (hg : Gl X x := by rfl) (hdb : (x == ("__debug__" : Str)) = false := by decide) (he : starEach (e :: es) X.env = (false, eval e X.env) :: starEach es X.env := by rfl) (hpl : (backTo pos (starEach es X.env)).any (·.1) = false := by rfl) :
    DE X E (.Call (.Name x pp) (e :: es) [] pos) (e_make x F fr) := by
  obtain ⟨fd, ps, f, hC, M, hb, G⟩ := O
  subst hm
  exact de_make C0 M G (hr.mono hk) hC hb ha hl hg hdb he hpl
end
end DL

namespace DL
open PySem PySem.Spec L2
open PyProof.Rows hiding St

/-! # Plain lemmas over the mirrors -/
theorem R.b1 {α β : Type} {a : α} {h : List D} {k : α → List D → R β} : (R.ok a h).bind k = k a h := id rfl
theorem R.l1 {α : Type} {a : α} {h : List D} : R.lift (some a) h = .ok a h := id rfl
theorem Fl.t1 {ρ : List Sl} {g : SM} {h : List D} : (Fl.nx ρ).then g h = g ρ h := id rfl
theorem Fl.t2 {d : D} {g : SM} {h : List D} : (Fl.rt d).then g h = .ok (.rt d) h := id rfl
theorem R.assoc {α β γ : Type} {r : R α} {f : α → List D → R β} {g : β → List D → R γ} : (r.bind f).bind g = r.bind fun a h => (f a h).bind g := by cases r <;> exact id rfl
theorem R.ite_bind {α β : Type} {c : Prop} [Decidable c] {a b : R α} {k : α → List D → R β} : (if c then a else b).bind k = if c then a.bind k else b.bind k := by split <;> rfl
theorem ok_ite {α : Type} {c : Prop} [Decidable c] {a b : α} {h : List D} : (if c then R.ok a h else R.ok b h) = R.ok (if c then a else b) h := by split <;> rfl

/-- it ends well, with P -/
@[irreducible] def Wp {α : Type} (r : R α) (P : α → List D → Prop) : Prop := match r with | .ok a h => P a h | _ => False
theorem wp_ok {α : Type} {a : α} {h : List D} {P : α → List D → Prop} : Wp (.ok a h) P ↔ P a h := by unfold Wp; exact Iff.rfl
theorem Wp.ex {α : Type} {r : R α} {P : α → List D → Prop} (h : Wp r P) : ∃ a h, r = .ok a h ∧ P a h := by
  unfold Wp at h
  cases r with
  | ok a h1 => exact ⟨a, h1, rfl, h⟩
  | exc _ _ => exact h.elim
  | stuck => exact h.elim
theorem wp_use {α β : Type} {r : R α} {Q : α → List D → Prop} {k : α → List D → R β} {P : β → List D → Prop} (h : Wp r Q) (hk : ∀ a h, Q a h → Wp (k a h) P) : Wp (r.bind k) P := by
  obtain ⟨a, h1, rfl, q⟩ := h.ex
  exact hk a h1 q
theorem wp_bind {α β : Type} {r : R α} {k : α → List D → R β} {P : β → List D → Prop} (h : Wp r fun a h => Wp (k a h) P) : Wp (r.bind k) P := wp_use h fun _ _ q => q
theorem Wp.mono {α : Type} {r : R α} {Q P : α → List D → Prop} (h : Wp r Q) (hk : ∀ a h, Q a h → P a h) : Wp r P := by
  obtain ⟨a, h1, rfl, q⟩ := h.ex
  exact wp_ok.mpr (hk a h1 q)
theorem wp_seq {f g : SM} {ρ : List Sl} {h : List D} {P : Fl → List D → Prop} (M : Fl → List D → Prop) (h1 : Wp (f ρ h) M) (h2 : ∀ fl h', M fl h' → Wp (fl.then g h') P) : Wp (s_seq f g ρ h) P := wp_use h1 h2
theorem wp_run {n : Nat} {b : SM} {args hs : List D} {P : D → List D → Prop} (h : Wp (b (args.map .val ++ List.replicate (n - args.length) .un) hs) fun fl h => match fl with | .rt d => P d h | .nx _ => P .non h) : Wp (runF n b args hs) P := by
  unfold runF
  refine wp_use h fun fl h' q => ?_
  cases fl with
  | rt d => exact wp_ok.mpr q
  | nx ρ => exact wp_ok.mpr q
theorem wp_if {α : Type} {c : Prop} [Decidable c] {a b : R α} {P : α → List D → Prop} (h1 : c → Wp a P) (h2 : ¬ c → Wp b P) : Wp (if c then a else b) P := by
  by_cases h : c
  · rw [if_pos h]; exact h1 h
  · rw [if_neg h]; exact h2 h
theorem wp_ifb {α β : Type} {c : Prop} [Decidable c] {a b : R α} {k : α → List D → R β} {P : β → List D → Prop} (h1 : c → Wp (a.bind k) P) (h2 : ¬ c → Wp (b.bind k) P) : Wp ((if c then a else b).bind k) P := by
  by_cases h : c
  · rw [if_pos h]; exact h1 h
  · rw [if_neg h]; exact h2 h
/-! ### plain data -/
def nums (ns : List Int) : List D := ns.map .int
abbrev row (ns : List Int) : D := .tup (nums ns)
def tri (rs : List (List Int)) : D := .tup (rs.map row)
theorem nums_len {ns : List Int} : (nums ns).length = ns.length := by simp [nums]
theorem nums_get {ns : List Int} {i : Nat} : (nums ns)[i]? = (ns[i]?).map D.int := by simp [nums]
def Plain : Nat → D → Prop
  | 0, _ => False
  | _ + 1, .non => True
  | _ + 1, .bl _ => True
  | _ + 1, .int _ => True
  | n + 1, .tup xs => ∀ x ∈ xs, Plain n x
  | n + 1, .lst xs => ∀ x ∈ xs, Plain n x
  | _ + 1, _ => False
theorem Plain.lay : ∀ {n : Nat} {d : D}, Plain n d → (toPD d).canLay0 = true ∧ (toPD d).depth ≤ n
  | 0, _, h => h.elim
  | n + 1, .non, _ => ⟨rfl, by simp [toPD, PyData.depth]⟩
  | n + 1, .bl _, _ => ⟨rfl, by simp [toPD, PyData.depth]⟩
  | n + 1, .int _, _ => ⟨rfl, by simp [toPD, PyData.depth]⟩
  | n + 1, .str _, h => (show False from h).elim
  | n + 1, .scr _, h => (show False from h).elim
  | n + 1, .dct _, h => (show False from h).elim
  | n + 1, .ins _ _, h => (show False from h).elim
  | n + 1, .hnd, h => (show False from h).elim
  | n + 1, .tup xs, h => by
    have key : ∀ ys : List D, (∀ y ∈ ys, Plain n y) → PyData.canLayAll0 (toPDs ys) = true ∧ PyData.depthAll (toPDs ys) ≤ n := fun ys => by
      induction ys with
      | nil => intro _; exact ⟨rfl, by simp [toPDs, PyData.depthAll]⟩
      | cons y ys ih =>
        intro hy
        obtain ⟨a, b⟩ := ih fun z hz => hy z (List.mem_cons_of_mem _ hz)
        obtain ⟨c, d⟩ := Plain.lay (hy y List.mem_cons_self)
        refine ⟨?_, ?_⟩
        · simp only [toPDs, PyData.canLayAll0, a, c, Bool.and_self]
        · simp only [toPDs, PyData.depthAll]; omega
    obtain ⟨a, b⟩ := key xs h
    refine ⟨by simpa only [toPD, PyData.canLay0] using a, ?_⟩
    simp only [toPD, PyData.depth]; omega
  | n + 1, .lst xs, h => by
    have key : ∀ ys : List D, (∀ y ∈ ys, Plain n y) → PyData.canLayAll0 (toPDs ys) = true ∧ PyData.depthAll (toPDs ys) ≤ n := fun ys => by
      induction ys with
      | nil => intro _; exact ⟨rfl, by simp [toPDs, PyData.depthAll]⟩
      | cons y ys ih =>
        intro hy
        obtain ⟨a, b⟩ := ih fun z hz => hy z (List.mem_cons_of_mem _ hz)
        obtain ⟨c, d⟩ := Plain.lay (hy y List.mem_cons_self)
        refine ⟨?_, ?_⟩
        · simp only [toPDs, PyData.canLayAll0, a, c, Bool.and_self]
        · simp only [toPDs, PyData.depthAll]; omega
    obtain ⟨a, b⟩ := key xs h
    refine ⟨by simpa only [toPD, PyData.canLay0] using a, ?_⟩
    simp only [toPD, PyData.depth]; omega
theorem Plain.shp {n : Nat} {d : D} (h : Plain n d) (hn : n ≤ 64) : shp d = true := by
  obtain ⟨a, b⟩ := h.lay
  unfold DL.shp SeqAt.shaped
  rw [a, decide_eq_true (by omega)]; rfl
mutual
theorem eqv_self : ∀ {n : Nat} {d : D}, Plain n d → PyData.eqv (toPD d) (toPD d) = true
  | 0, _, h => h.elim
  | n + 1, .non, _ => rfl
  | n + 1, .bl b, _ => by simp [toPD, PyData.eqv]
  | n + 1, .int _, _ => by simp [toPD, PyData.eqv]
  | n + 1, .str _, h => (show False from h).elim
  | n + 1, .scr _, h => (show False from h).elim
  | n + 1, .dct _, h => (show False from h).elim
  | n + 1, .ins _ _, h => (show False from h).elim
  | n + 1, .hnd, h => (show False from h).elim
  | n + 1, .tup xs, h => by simp only [toPD, PyData.eqv]; exact eqv_selfs h
  | n + 1, .lst xs, h => by simp only [toPD, PyData.eqv]; exact eqv_selfs h
theorem eqv_selfs : ∀ {n : Nat} {ds : List D}, (∀ x ∈ ds, Plain n x) → PyData.eqvAll (toPDs ds) (toPDs ds) = true
  | n, [], _ => rfl
  | n, d :: ds, h => by simp only [toPDs, PyData.eqvAll, eqv_self (h d List.mem_cons_self), eqv_selfs fun x hx => h x (List.mem_cons_of_mem _ hx), Bool.and_self]
end
theorem eqD_self {n : Nat} {d : D} (h : Plain n d) (hn : n ≤ 64) : eqD d d = some (.bl true) := by
  unfold eqD eqv; rw [h.shp hn, eqv_self h]; rfl
theorem neD_self {n : Nat} {d : D} (h : Plain n d) (hn : n ≤ 64) : neD d d = some (.bl false) := by
  unfold neD eqv; rw [h.shp hn, eqv_self h]; rfl
theorem eqv_int {a b : Int} : eqv (.int a) (.int b) = decide (a = b) := by
  simp only [eqv, toPD, PyData.eqv]; by_cases h : a = b <;> simp [h]
theorem eqv_bl {a b : Bool} : eqv (.bl a) (.bl b) = decide (a = b) := by
  simp only [eqv, toPD, PyData.eqv]; by_cases h : a = b <;> simp [h]
theorem eqD_int {a b : Int} : eqD (.int a) (.int b) = some (.bl (decide (a = b))) := by
  unfold eqD; rw [eqv_int]; rfl
theorem neD_int {a b : Int} : neD (.int a) (.int b) = some (.bl (!decide (a = b))) := by
  unfold neD; rw [eqv_int]; rfl
theorem eqD_bl {a b : Bool} : eqD (.bl a) (.bl b) = some (.bl (decide (a = b))) := by
  unfold eqD; rw [eqv_bl]; rfl
theorem neD_bl {a b : Bool} : neD (.bl a) (.bl b) = some (.bl (!decide (a = b))) := by
  unfold neD; rw [eqv_bl]; rfl
theorem flat_nums {ns : List Int} : (nums ns).all flatD = true := by simp [nums, flatD]
theorem any_nums {ns : List Int} {a : Int} : ((nums ns).any fun z => eqv z (.int a)) = decide (a ∈ ns) := by
  induction ns with
  | nil => rfl
  | cons n ns ih =>
    have ih' : ((ns.map D.int).any fun z => eqv z (.int a)) = decide (a ∈ ns) := ih
    simp only [nums, List.map_cons, List.any_cons, ih', eqv_int, List.mem_cons]
    by_cases h : n = a
    · subst h; simp
    · have : ¬ a = n := fun z => h z.symm
      simp [h, this]
theorem inD_row {ns : List Int} {a : Int} : inD (.int a) (row ns) = some (.bl (decide (a ∈ ns))) := by
  simp only [inD, inList, flat_nums, any_nums, flatD, Bool.and_self, if_true]; simp
theorem notInD_row {ns : List Int} {a : Int} : notInD (.int a) (row ns) = some (.bl (!decide (a ∈ ns))) := by
  simp only [notInD, inList, flat_nums, any_nums, flatD, Bool.and_self, if_true]; simp
theorem plain_nums {ns : List Int} {n : Nat} : ∀ x ∈ nums ns, Plain (n + 1) x := fun x hx => by
  obtain ⟨i, _, rfl⟩ := List.mem_map.mp hx; trivial
theorem plain_row {ns : List Int} {n : Nat} : Plain (n + 2) (row ns) := plain_nums
theorem plain_tri {rs : List (List Int)} {n : Nat} : Plain (n + 3) (tri rs) := fun x hx => by
  obtain ⟨r, _, rfl⟩ := List.mem_map.mp hx; exact plain_row
/-! ### loops, comprehensions -/
theorem compL_pure {g : GM} {te : EM} {ρ : List Sl} {h : List D} {f : D → D} : ∀ {ds : List D}, (∀ d ∈ ds, ∃ ρ1, g d ρ = some ρ1 ∧ te ρ1 h = .ok (f d) h) → compL g t_yes te ρ ds h = .ok (ds.map f) h
  | [], _ => rfl
  | d :: ds, hd => by
    obtain ⟨ρ1, e1, e2⟩ := hd d List.mem_cons_self
    have ih := compL_pure (ds := ds) fun z hz => hd z (List.mem_cons_of_mem _ hz)
    simp only [compL, e1, R.l1, R.b1, t_yes, R.noexc, if_true, e2, ih, List.map_cons]
theorem compL_filter {g : GM} {tt : TM} {te : EM} {ρ : List Sl} {h : List D} {f : D → D} {p : D → Bool} : ∀ {ds : List D}, (∀ d ∈ ds, ∃ ρ1, g d ρ = some ρ1 ∧ tt ρ1 h = .ok (p d) h ∧ (p d = true → te ρ1 h = .ok (f d) h)) → compL g tt te ρ ds h = .ok ((ds.filter p).map f) h
  | [], _ => rfl
  | d :: ds, hd => by
    obtain ⟨ρ1, e1, e2, e3⟩ := hd d List.mem_cons_self
    have ih := compL_filter (ds := ds) (f := f) (p := p) fun z hz => hd z (List.mem_cons_of_mem _ hz)
    cases e : p d with
    | true =>
      rw [e] at e2
      simp only [compL, e1, R.l1, R.b1, e2, R.noexc, if_true, e3 e, ih, List.filter_cons, e, List.map_cons]
    | false =>
      rw [e] at e2
      simp only [compL, e1, R.l1, R.b1, e2, R.noexc, ih, List.filter_cons, e, Bool.false_eq_true, if_false]
theorem compL_each {g : GM} {te : EM} {ρ : List Sl} {Hd : List D → Prop} {Q : Nat → D → Prop} : ∀ {ds : List D} {h : List D}, Hd h → (∀ i d h, ds[i]? = some d → Hd h → ∃ ρ1 y h', g d ρ = some ρ1 ∧ te ρ1 h = .ok y h' ∧ Q i y ∧ Hd h') →
    ∃ ys h', compL g t_yes te ρ ds h = .ok ys h' ∧ Hd h' ∧ ys.length = ds.length ∧ ∀ i y, ys[i]? = some y → Q i y
  | [], h, hh, _ => ⟨[], h, rfl, hh, rfl, fun i y e => by cases e⟩
  | d :: ds, h, hh, hd => by
    obtain ⟨ρ1, y, h1, e1, e2, q, hh1⟩ := hd 0 d h rfl hh
    obtain ⟨ys, h2, e3, hh2, hl, hq⟩ := compL_each (Q := fun i => Q (i + 1)) (ds := ds) hh1 fun i d h e => hd (i + 1) d h e
    refine ⟨y :: ys, h2, ?_, hh2, by simp [hl], fun i z e => ?_⟩
    · simp only [compL, e1, R.l1, R.b1, t_yes, R.noexc, if_true, e2, e3]
    · cases i with
      | zero => cases e; exact q
      | succ i => exact hq i z (by simpa using e)
theorem forL_inv {g : GM} {body : SM} {Inv : Nat → List Sl → List D → Prop} : ∀ {ds : List D} {ρ : List Sl} {h : List D}, Inv 0 ρ h → (∀ i d ρ h, ds[i]? = some d → Inv i ρ h → ∃ ρ1 ρ2 h2, g d ρ = some ρ1 ∧ body ρ1 h = .ok (.nx ρ2) h2 ∧ Inv (i + 1) ρ2 h2) →
    ∃ ρ' h', forL g body ds ρ h = .ok (.nx ρ') h' ∧ Inv ds.length ρ' h'
  | [], ρ, h, hi, _ => ⟨ρ, h, rfl, hi⟩
  | d :: ds, ρ, h, hi, hd => by
    obtain ⟨ρ1, ρ2, h2, e1, e2, hi2⟩ := hd 0 d ρ h rfl hi
    obtain ⟨ρ', h', e3, hi3⟩ := forL_inv (Inv := fun i => Inv (i + 1)) (ds := ds) hi2 fun i d ρ h e => hd (i + 1) d ρ h e
    exact ⟨ρ', h', by simp only [forL, e1, R.l1, R.b1, e2, Fl.t1, e3], hi3⟩
theorem l_comp_eq {it : AM} {vs : List Nat} {g : GM} {tt : TM} {te : EM} {ρ : List Sl} {h h1 : List D} {ds : List D} (e : it ρ h = .ok ds h1) (hz : ds.length ≤ 16777216) : l_comp it vs g tt te ρ h = compL g tt te (wipeR ρ vs) ds h1 := by
  unfold l_comp; rw [e]; exact if_pos hz
theorem wp_for {g : GM} {body : SM} {β : Type} {k : Fl → List D → R β} {P : β → List D → Prop} (Inv : Nat → List Sl → List D → Prop) {ds : List D} {ρ : List Sl} {h : List D} (h0 : Inv 0 ρ h)
    (hs : ∀ i d ρ h, ds[i]? = some d → Inv i ρ h → ∃ ρ1, g d ρ = some ρ1 ∧ Wp (body ρ1 h) fun fl h2 => ∃ ρ2, fl = .nx ρ2 ∧ Inv (i + 1) ρ2 h2)
    (hk : ∀ ρ' h', Inv ds.length ρ' h' → Wp (k (.nx ρ') h') P) : Wp ((forL g body ds ρ h).bind k) P := by
  obtain ⟨ρ', h', e, hi⟩ := forL_inv (g := g) (body := body) (Inv := Inv) h0 fun i d ρ h e hi => by
    obtain ⟨ρ1, e1, w⟩ := hs i d ρ h e hi
    obtain ⟨fl, h2, e2, ρ2, rfl, i2⟩ := w.ex
    exact ⟨ρ1, ρ2, h2, e1, e2, i2⟩
  rw [e]
  exact hk ρ' h' hi
theorem wp_comp {g : GM} {te : EM} {ρ : List Sl} {β : Type} {k : List D → List D → R β} {P : β → List D → Prop} (Hd : List D → Prop) (Q : Nat → D → Prop) {ds : List D} {h : List D} (h0 : Hd h)
    (hs : ∀ i d h, ds[i]? = some d → Hd h → ∃ ρ1, g d ρ = some ρ1 ∧ Wp (te ρ1 h) fun y h' => Q i y ∧ Hd h')
    (hk : ∀ ys h', Hd h' → ys.length = ds.length → (∀ i y, ys[i]? = some y → Q i y) → Wp (k ys h') P) : Wp ((compL g t_yes te ρ ds h).bind k) P := by
  obtain ⟨ys, h', e, a, b, c⟩ := compL_each (g := g) (te := te) (ρ := ρ) (Hd := Hd) (Q := Q) h0 fun i d h e hi => by
    obtain ⟨ρ1, e1, w⟩ := hs i d h e hi
    obtain ⟨y, h2, e2, q, i2⟩ := w.ex
    exact ⟨ρ1, y, h2, e1, e2, q, i2⟩
  rw [e]
  exact hk ys h' a b c
theorem atI_nat {α : Type} {xs : List α} {i : Nat} : atI xs (i : Int) = xs[i]? := by
  unfold atI ixN
  rw [if_pos (by omega)]
  by_cases h : i < xs.length
  · rw [if_pos (by omega)]; simp
  · rw [if_neg (by omega)]; simp; try omega
theorem at0 {α : Type} {a : α} {xs : List α} : atI (a :: xs) 0 = some a := by show atI (a :: xs) ((0 : Nat) : Int) = _; rw [atI_nat]; rfl
theorem at1 {α : Type} {a b : α} {xs : List α} : atI (a :: b :: xs) 1 = some b := by show atI (a :: b :: xs) ((1 : Nat) : Int) = _; rw [atI_nat]; rfl
theorem at2 {α : Type} {a b c : α} {xs : List α} : atI (a :: b :: c :: xs) 2 = some c := by show atI (a :: b :: c :: xs) ((2 : Nat) : Int) = _; rw [atI_nat]; rfl
theorem at3 {α : Type} {a b c d : α} {xs : List α} : atI (a :: b :: c :: d :: xs) 3 = some d := by show atI (a :: b :: c :: d :: xs) ((3 : Nat) : Int) = _; rw [atI_nat]; rfl
theorem at4 {α : Type} {a b c d e : α} {xs : List α} : atI (a :: b :: c :: d :: e :: xs) 4 = some e := by show atI (a :: b :: c :: d :: e :: xs) ((4 : Nat) : Int) = _; rw [atI_nat]; rfl
theorem ix51 : ixN 5 1 = some 1 := by decide
theorem ix52 : ixN 5 2 = some 2 := by decide
theorem ix53 : ixN 5 3 = some 3 := by decide
theorem ix54 : ixN 5 4 = some 4 := by decide
theorem pow18 : powD (.int 10) (.int 18) = some (.int 1000000000000000000) := rfl
theorem pow9 : powD (.int 10) (.int 9) = some (.int 1000000000) := rfl
theorem pow6 : powD (.int 10) (.int 6) = some (.int 1000000) := rfl
theorem modD_pos {a b : Int} (h : 0 < b) : modD (.int a) (.int b) = some (.int (a % b)) := if_pos h
theorem divD_pos {a b : Int} (h : 0 < b) (h2 : b < 2 ^ 62) : divD (.int a) (.int b) = some (.int (a / b)) := if_pos ⟨h, Nat.lt_of_lt_of_le (show b.natAbs < 2 ^ 62 by omega) (Nat.pow_le_pow_right (by decide) (by decide))⟩
theorem mulD_r {a b : Int} (h : -(2 ^ 62) < b) (h2 : b < 2 ^ 62) : mulD (.int a) (.int b) = some (.int (a * b)) := by
  have : mulOk a b = true := by unfold mulOk; rw [decide_eq_true (show b.natAbs < 2 ^ 64 by omega)]; simp
  show (if mulOk a b then _ else _) = _
  rw [if_pos this]
theorem mulD_l {a b : Int} (h : -(2 ^ 62) < a) (h2 : a < 2 ^ 62) : mulD (.int a) (.int b) = some (.int (a * b)) := by
  have : mulOk a b = true := by unfold mulOk; rw [decide_eq_true (show a.natAbs < 2 ^ 64 by omega)]; simp
  show (if mulOk a b then _ else _) = _
  rw [if_pos this]
/-! ### the hand -/
def HandOk (h : List D) : Prop := ∃ (cells : List Int) (i big s c : Int), h = [.lst (nums cells), .int i, .int big, .int s, .int c] ∧ 0 ≤ i
theorem hand0_ok {ns : List Int} : HandOk (hand0 ns) := by
  refine ⟨ns.map fun n => (n.natAbs : Int), 0, 0, 1 + (ns.length : Int), 0, ?_, Int.le_refl _⟩
  unfold hand0 nums
  rw [List.map_map]; rfl
/-! ### ranges, indices, slices -/
theorem inI_nat {n : Nat} (h : n < 2 ^ 62) : inI (n : Int) = true := by
  unfold inI; rw [decide_eq_true (by omega), decide_eq_true (by omega)]; rfl
theorem rangeL_mem {lo : Int} {n : Nat} {d : D} (h : d ∈ rangeL lo n) : ∃ i : Nat, i < n ∧ d = .int (lo + i) := by
  obtain ⟨i, hi, rfl⟩ := List.mem_map.mp h; exact ⟨i, List.mem_range.mp hi, rfl⟩
theorem atI_lt {α : Type} {xs : List α} {i : Int} (h0 : 0 ≤ i) (h : i < xs.length) : atI xs i = some (xs[i.toNat]'(by omega)) := by
  obtain ⟨n, rfl⟩ := Int.eq_ofNat_of_zero_le h0
  show atI xs (n : Int) = _
  rw [atI_nat]
  simp
theorem cut_take {α : Type} {xs : List α} {k : Nat} : cutD xs none (some (k : Int)) = xs.take k := by
  unfold cutD; rw [HT.sIx_nat, HT.sIx_none]; simp
theorem cut_drop {α : Type} {xs : List α} {k : Nat} : cutD xs (some (k : Int)) none = xs.drop k := by
  unfold cutD; rw [HT.sIx_nat, HT.sIx_none]
  by_cases h : k ≤ xs.length
  · rw [Nat.min_eq_left h, List.take_of_length_le (by simp)]
  · rw [Nat.min_eq_right (by omega), List.take_of_length_le (by simp), List.drop_of_length_le (by omega), List.drop_of_length_le (by omega)]
theorem cut_mid {α : Type} {xs : List α} {j k : Nat} : cutD xs (some (j : Int)) (some (k : Int)) = (xs.drop j).take (k - j) := by
  unfold cutD; rw [HT.sIx_nat, HT.sIx_nat]
  by_cases h : j ≤ xs.length
  · rw [Nat.min_eq_left h]
    by_cases h2 : k ≤ xs.length
    · rw [Nat.min_eq_left h2]
    · rw [show min k xs.length = xs.length from Nat.min_eq_right (by omega), List.take_of_length_le (by simp), List.take_of_length_le (by simp; omega)]
  · rw [show min j xs.length = xs.length from Nat.min_eq_right (by omega), List.drop_of_length_le (Nat.le_refl _), List.drop_of_length_le (by omega)]; simp
theorem toInts_nums {ns : List Int} : toInts (nums ns) = some ns := toInts_map ns
theorem sumD_lst {ns : List Int} : sumD (.lst (nums ns)) = some (.int ns.sum) := by simp only [sumD, toInts_nums, Option.map_some]
theorem sumD_tup {ns : List Int} : sumD (.tup (nums ns)) = some (.int ns.sum) := by simp only [sumD, toInts_nums, Option.map_some]
theorem allD_map {α : Type} {xs : List α} {f : α → Bool} : allD (.lst (xs.map fun x => .bl (f x))) = some (.bl (xs.all f)) := by
  have e : toBools (xs.map fun x => .bl (f x)) = some (xs.map f) := by
    have := toBools_map (xs.map f)
    rw [List.map_map] at this; exact this
  simp only [allD, e, Option.map_some, List.all_map]; rfl
theorem anyD_map {α : Type} {xs : List α} {f : α → Bool} : anyD (.lst (xs.map fun x => .bl (f x))) = some (.bl (xs.any f)) := by
  have e : toBools (xs.map fun x => .bl (f x)) = some (xs.map f) := by
    have := toBools_map (xs.map f)
    rw [List.map_map] at this; exact this
  simp only [anyD, e, Option.map_some, List.any_map]; rfl
/-- all the values are numbers within bounds -/
theorem nums_of {ys : List D} {P : Int → Prop} (h : ∀ (i : Nat) y, ys[i]? = some y → ∃ n, y = .int n ∧ P n) : ∃ ns : List Int, ys = nums ns ∧ ∀ n ∈ ns, P n := by
  induction ys with
  | nil => exact ⟨[], rfl, fun n hn => by cases hn⟩
  | cons y ys ih =>
    obtain ⟨n, rfl, hn⟩ := h 0 y rfl
    obtain ⟨ns, rfl, hs⟩ := ih fun i y e => h (i + 1) y (by simpa using e)
    exact ⟨n :: ns, rfl, fun m hm => by rcases List.mem_cons.mp hm with rfl | hm; exact hn; exact hs m hm⟩
theorem compL_map {α : Type} {e : α → D} {f : α → D} {g : GM} {te : EM} {ρ : List Sl} {h : List D} : ∀ {xs : List α}, (∀ x ∈ xs, ∃ ρ1, g (e x) ρ = some ρ1 ∧ te ρ1 h = .ok (f x) h) → compL g t_yes te ρ (xs.map e) h = .ok (xs.map f) h
  | [], _ => rfl
  | x :: xs, hd => by
    obtain ⟨ρ1, e1, e2⟩ := hd x List.mem_cons_self
    have ih := compL_map (f := f) (xs := xs) fun z hz => hd z (List.mem_cons_of_mem _ hz)
    simp only [List.map_cons, compL, e1, R.l1, R.b1, t_yes, R.noexc, if_true, e2, ih]
theorem compL_fmap {α : Type} {e : α → D} {f : α → D} {p : α → Bool} {g : GM} {tt : TM} {te : EM} {ρ : List Sl} {h : List D} : ∀ {xs : List α}, (∀ x ∈ xs, ∃ ρ1, g (e x) ρ = some ρ1 ∧ tt ρ1 h = .ok (p x) h ∧ (p x = true → te ρ1 h = .ok (f x) h)) → compL g tt te ρ (xs.map e) h = .ok ((xs.filter p).map f) h
  | [], _ => rfl
  | x :: xs, hd => by
    obtain ⟨ρ1, e1, e2, e3⟩ := hd x List.mem_cons_self
    have ih := compL_fmap (f := f) (p := p) (xs := xs) fun z hz => hd z (List.mem_cons_of_mem _ hz)
    cases e : p x with
    | true =>
      rw [e] at e2
      simp only [List.map_cons, compL, e1, R.l1, R.b1, e2, R.noexc, if_true, e3 e, ih, List.filter_cons, e]
    | false =>
      rw [e] at e2
      simp only [List.map_cons, compL, e1, R.l1, R.b1, e2, R.noexc, ih, List.filter_cons, e, Bool.false_eq_true, if_false]
theorem compL_range {f : Nat → D} {g : GM} {te : EM} {ρ : List Sl} {h : List D} {lo : Int} {n : Nat} (hd : ∀ i : Nat, i < n → ∃ ρ1, g (.int (lo + (i : Int))) ρ = some ρ1 ∧ te ρ1 h = .ok (f i) h) : compL g t_yes te ρ (rangeL lo n) h = .ok ((List.range n).map f) h :=
  compL_map fun i hi => hd i (List.mem_range.mp hi)
theorem rangeD1 {n : Nat} (h : n ≤ 1000000) : rangeD [.int (n : Int)] = some (rangeL 0 n) := by
  show (if inI (n : Int) then some (rangeL 0 (n : Int).toNat) else none) = _
  rw [if_pos (inI_nat (by omega))]; simp
theorem rangeD2 {a b : Nat} (h : a ≤ 1000000) (h2 : b ≤ 1000000) : rangeD [.int (a : Int), .int (b : Int)] = some (rangeL a (b - a)) := by
  show (if (inI (a : Int) && inI (b : Int)) = true then some (rangeL (a : Int) ((b : Int) - (a : Int)).toNat) else none) = _
  rw [inI_nat (by omega), inI_nat (by omega)]
  rw [show ((b : Int) - (a : Int)).toNat = b - a by omega]; rfl
theorem nums_take {ns : List Int} {k : Nat} : (nums ns).take k = nums (ns.take k) := by simp [nums, List.map_take]
theorem nums_drop {ns : List Int} {k : Nat} : (nums ns).drop k = nums (ns.drop k) := by simp [nums, List.map_drop]
theorem nums_app {xs ys : List Int} : nums xs ++ nums ys = nums (xs ++ ys) := by simp [nums]
theorem at_nums {ns : List Int} {i : Nat} {n : Int} (h : ns[i]? = some n) : atI (nums ns) (i : Int) = some (.int n) := by rw [atI_nat, nums_get, h]; rfl
theorem at_map {α : Type} {xs : List α} {f : α → D} {i : Nat} {x : α} (h : xs[i]? = some x) : atI (xs.map f) (i : Int) = some (f x) := by rw [atI_nat, List.getElem?_map, h]; rfl
theorem at_last {α : Type} {xs : List α} {x : α} : atI (xs ++ [x]) (-1) = some x := by
  unfold atI ixN
  have hl : (xs ++ [x]).length = xs.length + 1 := by simp
  rw [if_neg (by omega), if_pos (by rw [hl]; omega), hl, show ((-1 : Int) + ((xs.length + 1 : Nat) : Int)).toNat = xs.length by omega]
  simp
theorem eq_of_wp {α : Type} {r : R α} {a : α} {h : List D} (w : Wp r fun a' h' => a' = a ∧ h' = h) : r = .ok a h := by
  obtain ⟨_, _, e, rfl, rfl⟩ := w.ex; exact e
/-- the numbers of a list of naturals -/
def nat (ns : List Nat) : List Int := ns.map fun n : Nat => (n : Int)
theorem nat_len {ns : List Nat} : (nat ns).length = ns.length := by simp [nat]
theorem nat_get {ns : List Nat} {i : Nat} : (nat ns)[i]? = (ns[i]?).map (fun n : Nat => (n : Int)) := by simp [nat]
theorem nat_app {xs ys : List Nat} : nat xs ++ nat ys = nat (xs ++ ys) := by simp [nat]
theorem nat_take {ns : List Nat} {k : Nat} : (nat ns).take k = nat (ns.take k) := by simp [nat, List.map_take]
theorem looks_ne : (("looks" : Str) == ("writes" : Str)) = false := by decide +kernel
theorem tri_eq {rs : List (List Int)} : eqD (tri rs) (tri rs) = some (.bl true) := eqD_self (plain_tri (n := 0)) (by decide)
theorem tri_ne {rs : List (List Int)} : neD (tri rs) (tri rs) = some (.bl false) := neD_self (plain_tri (n := 0)) (by decide)
/-- plain data of lists that are not too long -/
def Pls : Nat → D → Prop
  | 0, _ => False
  | _ + 1, .non => True
  | _ + 1, .bl _ => True
  | _ + 1, .int _ => True
  | n + 1, .tup xs => xs.length ≤ 16777216 ∧ ∀ x ∈ xs, Pls n x
  | n + 1, .lst xs => xs.length ≤ 16777216 ∧ ∀ x ∈ xs, Pls n x
  | _ + 1, _ => False
theorem Pls.plain : ∀ {n : Nat} {d : D}, Pls n d → Plain n d
  | 0, _, h => h.elim
  | n + 1, .non, _ => trivial
  | n + 1, .bl b, _ => trivial
  | n + 1, .int _, _ => trivial
  | n + 1, .str _, h => (show False from h).elim
  | n + 1, .scr _, h => (show False from h).elim
  | n + 1, .dct _, h => (show False from h).elim
  | n + 1, .ins _ _, h => (show False from h).elim
  | n + 1, .hnd, h => (show False from h).elim
  | n + 1, .tup xs, h => fun x hx => Pls.plain (h.2 x hx)
  | n + 1, .lst xs, h => fun x hx => Pls.plain (h.2 x hx)
theorem pls_row {ns : List Int} {n : Nat} (h : ns.length ≤ 16777216) : Pls (n + 2) (row ns) := ⟨by rw [nums_len]; exact h, fun x hx => by
  obtain ⟨i, _, rfl⟩ := List.mem_map.mp hx; trivial⟩
theorem pls_tri {rs : List (List Int)} {n : Nat} (h : rs.length ≤ 16777216) (h2 : ∀ r ∈ rs, r.length ≤ 16777216) : Pls (n + 3) (tri rs) := ⟨by simpa using h, fun x hx => by
  obtain ⟨r, hr, rfl⟩ := List.mem_map.mp hx; exact pls_row (h2 r hr)⟩
theorem zipL_self {xs : List D} : zipL xs xs = xs.map fun x => .tup [x, x] := by
  unfold zipL
  induction xs with
  | nil => rfl
  | cons x xs ih => simp only [List.zip_cons_cons, List.map_cons, ih]
theorem all_true {α : Type} {xs : List α} : allD (.lst (xs.map fun _ => .bl true)) = some (.bl true) := by
  rw [allD_map (f := fun _ => true)]; simp
theorem map_of {α : Type} {f : α → D} : ∀ {ys : List D} {P : Nat → α → Prop}, (∀ (i : Nat) y, ys[i]? = some y → ∃ a, y = f a ∧ P i a) → ∃ as : List α, ys = as.map f ∧ as.length = ys.length ∧ ∀ (i : Nat) a, as[i]? = some a → P i a
  | [], P, _ => ⟨[], rfl, rfl, fun i a e => by cases e⟩
  | y :: ys, P, h => by
    obtain ⟨a, rfl, ha⟩ := h 0 y rfl
    obtain ⟨as, rfl, hl, hs⟩ := map_of (ys := ys) (P := fun i => P (i + 1)) fun i y e => h (i + 1) y (by simpa using e)
    refine ⟨a :: as, rfl, by rw [List.length_cons, List.length_cons, hl], fun i b e => ?_⟩
    cases i with
    | zero => cases e; exact ha
    | succ i => exact hs i b (by simpa using e)
/-! ### plans: the begins that stand -/
def nextB (bs : List Nat) (b : Nat) : List Nat := bs.filter (fun x => decide (x < b)) ++ [b]
def stB (p : List Nat) : List Nat := p.foldl nextB []
theorem stB_snoc {p : List Nat} {b : Nat} : stB (p ++ [b]) = nextB (stB p) b := by simp [stB]
theorem stB_take {p : List Nat} {i b : Nat} (h : p[i]? = some b) : stB (p.take (i + 1)) = nextB (stB (p.take i)) b := by
  rw [← stB_snoc]
  congr 1
  obtain ⟨hi, e⟩ := List.getElem?_eq_some_iff.mp h
  rw [← e]; simp
theorem nextB_mem {bs : List Nat} {b x : Nat} (h : x ∈ nextB bs b) : x ∈ bs ∨ x = b := by
  unfold nextB at h
  rcases List.mem_append.mp h with h | h
  · exact .inl (List.mem_filter.mp h).1
  · exact .inr (List.mem_singleton.mp h)
theorem nextB_le {bs : List Nat} {b x : Nat} (h : x ∈ nextB bs b) : x ≤ b := by
  unfold nextB at h
  rcases List.mem_append.mp h with h | h
  · have := (List.mem_filter.mp h).2
    simp at this; omega
  · rw [List.mem_singleton.mp h]; exact Nat.le_refl _
theorem fold_mem : ∀ {p bs : List Nat} {x : Nat}, x ∈ p.foldl nextB bs → x ∈ bs ∨ x ∈ p
  | [], bs, x, h => .inl h
  | b :: p, bs, x, h => by
    rcases fold_mem (p := p) h with h | h
    · rcases nextB_mem h with h | h
      · exact .inl h
      · exact .inr (by simp [h])
    · exact .inr (List.mem_cons_of_mem _ h)
theorem stB_mem {p : List Nat} {x : Nat} (h : x ∈ stB p) : x ∈ p := by
  rcases fold_mem h with h | h
  · cases h
  · exact h
def Valid (p : List Nat) : Prop := ∀ i b, p[i]? = some b → b ≤ i ∧ (b = i ∨ b ∈ stB (p.take i))
theorem nat_mem {ns : List Nat} {n : Nat} : ((n : Int) ∈ nat ns) ↔ n ∈ ns := by
  unfold nat
  rw [List.mem_map]
  constructor
  · rintro ⟨m, hm, e⟩
    have : m = n := by omega
    rw [← this]; exact hm
  · exact fun h => ⟨n, h, rfl⟩
theorem filter_lt_take : ∀ {s : List Nat} {k : Nat} {x : Nat}, s.Pairwise (· < ·) → s[k]? = some x → s.filter (fun y => decide (y < x)) = s.take k
  | [], k, x, _, h => by simp at h
  | a :: s, 0, x, hp, h => by
    simp at h; subst h
    rw [List.take_zero, List.filter_eq_nil_iff]
    intro y hy
    rcases List.mem_cons.mp hy with rfl | hy
    · simp
    · have := List.rel_of_pairwise_cons hp hy
      simp; omega
  | a :: s, k + 1, x, hp, h => by
    have h : s[k]? = some x := by simpa using h
    have hx : x ∈ s := List.mem_of_getElem? h
    have ha : a < x := List.rel_of_pairwise_cons hp hx
    rw [List.filter_cons_of_pos (by simp [ha]), filter_lt_take hp.of_cons h]; rfl
end DL

namespace DL
open PySem PySem.Spec L2
open PyProof.Rows hiding St

/-- the law's end: as walk_ofE, for what may let exceptions out on the way -/
theorem walk_ofD {l : PySem.W.OpenLaw} {n k : Nat} {q : Program} {loose : List Str} {XP : (Str → Option Value) → Heap → Prop} {YP : World → Heap → Prop} {d : DefRec} {x : Str}
    (hn : l.most = some n) (hn2 : n ≤ sizeLine) (hdf : d.params.defaults = []) (hr : Room k callerA)
    (F : ∀ (w : World) (mg : Str → Option Value) (fa : Addr) (h : Heap), YP w h → h.Ns mainGlobals mg → mg d.name = some (.ref fa) →
      ∃ (K : PySem.W.Frag) (fd : FuncData) (sp : Sp), K.In h ∧ (∀ (s : Shared) (u : Value), BindsTo s fd ⟨[u], []⟩ [(x, u)]) ∧
        (∀ (H : Hp) (a : Addr) (ns : List Int), ns.length ≤ n → Only H → SqL K H a (ns.map V.int) → sp [.ref a] H (fun v _ => v = .bl true) fun _ _ _ => False) ∧
        ∀ base : Heap, K.In base → base.Ns mainGlobals mg → FnOk l.prog w K mg base (L2.CX l.prog w) k fa fd [x] sp) :
    PySem.W.WalkO q loose XP YP l.row.toRowW d [] (fun f vs => PySem.call f vs) := by
  refine Att.attach_call hn hdf fun w s₀ s₁ mg mb fa o pm cd doc a vs ns G Y ho hd hcd hmg hobj hints hlen hg => ?_
  obtain ⟨K, fd, sp, KX, hb, hsp, hF⟩ := F w mg fa _ Y G.T.g hmg
  refine law_call KX G.T.g G.T.b G.T.builtins G.T.nolimit hg hobj hints (Nat.le_trans hlen hn2) hr hF hb (fun H hO hS => hsp H a ns hlen hO hS) fun H e s' h => ?_
  obtain ⟨_, _, _, _, _, _, _, _, _, _, _, _, z⟩ := h
  exact z
end DL

namespace DL.Law
open PySem PySem.Spec L2 DL
open PyProof.Rows hiding St
local macro_rules
  | `(tactic| dsimp! [$ts,*]) => `(tactic| simp only [runF, s_seq, s_nil, s_if, s_ret, s_set, s_seto, s_unp, s_expr, s_frz, frzR, s_append, s_extend, s_for, s_hset, s_oset, s_never, e_var, e_varb, e_k, e_bin, e_un, e_app, e1, e2, on1, on2, e_call, a_nil, a_cons, e_tup, e_lst, e_if, t_val, t_not, t_and, t_or, t_yes, e_not, e_and, e_or, e_chain, D.bool, e_len, e_slice, e_hix, o_none, o_some, D.toInt, e_make, e_eqO, eqO, addD, subD, ltD, leD, gtD, geD, isD, isNotD, lenD, intD, tupleD, listD, itemsD, i_of, i_range, i_enum, i_zip, zipD, g_name, g_tup, gs_cons, gs_nil, isB, isTy, isTy2, isOwn, min2D, max2D, fldD, sliceD, R.b1, R.l1, Fl.t1, Fl.t2, List.getElem?_cons_zero, List.getElem?_cons_succ, List.set_cons_zero, List.set_cons_succ, List.map_cons, List.map_nil, List.nil_append, List.cons_append, List.append_nil, List.length_cons, List.length_nil, List.replicate_succ, List.replicate_zero, Nat.reduceSub, Nat.reduceAdd, Nat.zero_add, Nat.add_zero, Bool.not_true, Bool.not_false, Bool.false_eq_true, if_true, if_false, ite_true, ite_false, Bool.true_and, Bool.and_true, Bool.false_and, Bool.or_true, Bool.or_false, Bool.true_or, Bool.false_or, Option.bind, reduceIte, String.reduceBEq, List.contains_cons, List.contains_nil, beq_self_eq_true, BEq.rfl, Option.bind_some, ixD, eqD_int, neD_int, eqD_bl, neD_bl, at0, at1, at2, at3, at4, ix51, ix52, ix53, ix54, pow18, pow9, pow6, decide_true, decide_false, nums_len, Int.reducePow, Int.reduceLT, Int.reduceNeg, Int.reduceLE, Int.reduceSub, Int.reduceAdd, Int.reduceEq, Int.reduceMul, Int.reduceToNat, Option.map_some, Int.zero_add, l_comp, wipeR, rangeL_len, List.length_map, D.isNon, List.lookup, looks_ne, $ts,*])
  | `(tactic| dsimp!) => `(tactic| simp only [runF, s_seq, s_nil, s_if, s_ret, s_set, s_seto, s_unp, s_expr, s_frz, frzR, s_append, s_extend, s_for, s_hset, s_oset, s_never, e_var, e_varb, e_k, e_bin, e_un, e_app, e1, e2, on1, on2, e_call, a_nil, a_cons, e_tup, e_lst, e_if, t_val, t_not, t_and, t_or, t_yes, e_not, e_and, e_or, e_chain, D.bool, e_len, e_slice, e_hix, o_none, o_some, D.toInt, e_make, e_eqO, eqO, addD, subD, ltD, leD, gtD, geD, isD, isNotD, lenD, intD, tupleD, listD, itemsD, i_of, i_range, i_enum, i_zip, zipD, g_name, g_tup, gs_cons, gs_nil, isB, isTy, isTy2, isOwn, min2D, max2D, fldD, sliceD, R.b1, R.l1, Fl.t1, Fl.t2, List.getElem?_cons_zero, List.getElem?_cons_succ, List.set_cons_zero, List.set_cons_succ, List.map_cons, List.map_nil, List.nil_append, List.cons_append, List.append_nil, List.length_cons, List.length_nil, List.replicate_succ, List.replicate_zero, Nat.reduceSub, Nat.reduceAdd, Nat.zero_add, Nat.add_zero, Bool.not_true, Bool.not_false, Bool.false_eq_true, if_true, if_false, ite_true, ite_false, Bool.true_and, Bool.and_true, Bool.false_and, Bool.or_true, Bool.or_false, Bool.true_or, Bool.false_or, Option.bind, reduceIte, String.reduceBEq, List.contains_cons, List.contains_nil, beq_self_eq_true, BEq.rfl, Option.bind_some, ixD, eqD_int, neD_int, eqD_bl, neD_bl, at0, at1, at2, at3, at4, ix51, ix52, ix53, ix54, pow18, pow9, pow6, decide_true, decide_false, nums_len, Int.reducePow, Int.reduceLT, Int.reduceNeg, Int.reduceLE, Int.reduceSub, Int.reduceAdd, Int.reduceEq, Int.reduceMul, Int.reduceToNat, Option.map_some, Int.zero_add, l_comp, wipeR, rangeL_len, List.length_map, D.isNon, List.lookup, looks_ne])
def top (i : Nat) : Stmt := PySem.Challenge.pw_joinshelf_k38_whole_tasks_of_sizes_and_p.main.body.getD i (.Pass ⟨0, 0, 0, 0⟩)
abbrev s_is_integer : Stmt := top 8
abbrev s_is_within : Stmt := top 9
abbrev s_is_row : Stmt := top 10
abbrev s_first_wrong_row : Stmt := top 11
abbrev s_check_number : Stmt := top 12
abbrev s_check_hour : Stmt := top 13
abbrev s_raw_task : Stmt := top 19
abbrev s_length_of : Stmt := top 20
abbrev s_write_of : Stmt := top 21
abbrev s_sized_task : Stmt := top 22
abbrev s_task_of_sizes : Stmt := top 23
abbrev s_part_of : Stmt := top 24
abbrev s_task_part : Stmt := top 25
abbrev s_is_plan_of : Stmt := top 27
abbrev s_begins_next : Stmt := top 28
abbrev s_begins_behind : Stmt := top 29
abbrev s_check_plan_for : Stmt := top 31
abbrev s_writing_of : Stmt := top 32
abbrev s_looking_of : Stmt := top 33
abbrev s_cost_of : Stmt := top 34
abbrev s_cost : Stmt := top 35
abbrev s__law_hand : Stmt := top 37
abbrev s__law_draw : Stmt := top 38
abbrev s__law_is : Stmt := top 39
abbrev s__law_triangle : Stmt := top 40
abbrev s__law_summed : Stmt := top 41
abbrev s__law_prices : Stmt := top 42
abbrev s__law_begins : Stmt := top 43
abbrev s__law_plan : Stmt := top 44
abbrev s__law_cost : Stmt := top 45
abbrev s__law_part : Stmt := top 46
abbrev s__law_part_right : Stmt := top 47
abbrev s_law : Stmt := top 48
abbrev s_Task_init : Stmt := inClass (top 18) 0
abbrev s_Task_eq : Stmt := inClass (top 18) 1
def fn : List He.DefD := [mkD ("is_integer", none) "is_integer" "is_integer" s_is_integer,
  mkD ("is_within", none) "is_within" "is_within" s_is_within,
  mkD ("is_row", none) "is_row" "is_row" s_is_row,
  mkD ("first_wrong_row", none) "first_wrong_row" "first_wrong_row" s_first_wrong_row,
  mkD ("check_number", none) "check_number" "check_number" s_check_number,
  mkD ("check_hour", none) "check_hour" "check_hour" s_check_hour,
  mkD ("raw_task", none) "raw_task" "raw_task" s_raw_task,
  mkD ("length_of", none) "length_of" "length_of" s_length_of,
  mkD ("write_of", none) "write_of" "write_of" s_write_of,
  mkD ("sized_task", none) "sized_task" "sized_task" s_sized_task,
  mkD ("task_of_sizes", none) "task_of_sizes" "task_of_sizes" s_task_of_sizes,
  mkD ("part_of", none) "part_of" "part_of" s_part_of,
  mkD ("task_part", none) "task_part" "task_part" s_task_part,
  mkD ("is_plan_of", none) "is_plan_of" "is_plan_of" s_is_plan_of,
  mkD ("begins_next", none) "begins_next" "begins_next" s_begins_next,
  mkD ("begins_behind", none) "begins_behind" "begins_behind" s_begins_behind,
  mkD ("check_plan_for", none) "check_plan_for" "check_plan_for" s_check_plan_for,
  mkD ("writing_of", none) "writing_of" "writing_of" s_writing_of,
  mkD ("looking_of", none) "looking_of" "looking_of" s_looking_of,
  mkD ("cost_of", none) "cost_of" "cost_of" s_cost_of,
  mkD ("cost", none) "cost" "cost" s_cost,
  mkD ("_law_hand", none) "_law_hand" "_law_hand" s__law_hand,
  mkD ("_law_draw", none) "_law_draw" "_law_draw" s__law_draw,
  mkD ("_law_is", none) "_law_is" "_law_is" s__law_is,
  mkD ("_law_triangle", none) "_law_triangle" "_law_triangle" s__law_triangle,
  mkD ("_law_summed", none) "_law_summed" "_law_summed" s__law_summed,
  mkD ("_law_prices", none) "_law_prices" "_law_prices" s__law_prices,
  mkD ("_law_begins", none) "_law_begins" "_law_begins" s__law_begins,
  mkD ("_law_plan", none) "_law_plan" "_law_plan" s__law_plan,
  mkD ("_law_cost", none) "_law_cost" "_law_cost" s__law_cost,
  mkD ("_law_part", none) "_law_part" "_law_part" s__law_part,
  mkD ("_law_part_right", none) "_law_part_right" "_law_part_right" s__law_part_right,
  mkD ("law", none) "law" "law" s_law,
  mkD ("Task", some "__init__") "__init__" "Task.__init__" s_Task_init,
  mkD ("Task", some "__eq__") "__eq__" "Task.__eq__" s_Task_eq]
def fa : List He.Fa := [.free "len", .free "int", .free "tuple", .free "list", .free "abs", .free "sum", .free "all", .free "min", .free "range", .free "enumerate", .free "zip", .free "isinstance", .free "bool", .glo "is_integer", .glo "is_within", .glo "is_row", .glo "first_wrong_row", .glo "check_number", .glo "check_hour", .glo "raw_task", .glo "length_of", .glo "write_of", .glo "sized_task", .glo "task_of_sizes", .glo "part_of", .glo "task_part", .glo "is_plan_of", .glo "begins_next", .glo "begins_behind", .glo "check_plan_for", .glo "writing_of", .glo "looking_of", .glo "cost_of", .glo "cost", .glo "_law_hand", .glo "_law_draw", .glo "_law_is", .glo "_law_triangle", .glo "_law_summed", .glo "_law_prices", .glo "_law_begins", .glo "_law_plan", .glo "_law_cost", .glo "_law_part", .glo "_law_part_right", .glo "law", .glo "ShelfError", .glo "NoHour", .glo "NoNumber", .glo "NoPlan", .glo "BadTask", .glo "NoSizes", .glo "Task", .int "MOST_HOURS" 30, .int "MOST_PRICE" 1000000000, .int "MOST_SIZE" 1000000, .cls "Task", .mkr "Task", .noat "Task" "writes", .noat "Task" "looks", .meth "Task" "__eq__"]
def ex : PySem.W.Frag → Bool := fun K => ownsB K ["Task"]
abbrev EP (K : PySem.W.Frag) (mg : Str → Option Value) : Prop := EnvP fa fn (fun K => ownsB K ["Task"]) K mg
section
variable {P : Program} {w : World} {K : PySem.W.Frag} {mg : Str → Option Value} {base : Heap}
theorem fld_Task_writes (T : EP K mg) : ∀ c ∈ [("Task" : Str)], ∃ C, mg c = some (.ref C) ∧ Cls K C ∧ NoAttr K C "writes" := fun c hc => by
  rw [List.mem_singleton] at hc; subst hc
  exact ⟨_, T.glo 52, T.cls 56, T.noat 58⟩
theorem fld_Task_looks (T : EP K mg) : ∀ c ∈ [("Task" : Str)], ∃ C, mg c = some (.ref C) ∧ Cls K C ∧ NoAttr K C "looks" := fun c hc => by
  rw [List.mem_singleton] at hc; subst hc
  exact ⟨_, T.glo 52, T.cls 56, T.noat 59⟩
theorem sc_is_integer : FnScope ["thing"] ["thing"] (defScope s_is_integer) := ⟨rfl, rfl, rfl, by decide +kernel, rfl, by decide +kernel, by decide +kernel⟩
theorem bd_is_integer : BindsOk s_is_integer "is_integer" "is_integer" ["thing"] := fun _ _ _ _ _ _ us hl => match us, hl with | [_], _ => rfl
def b_is_integer : SM :=
 (s_seq (s_ret (e_and (e_un (isTy ["Task"] "int") (e_var 0)) (e_not (e_un (isTy ["Task"] "bool") (e_var 0)))))
 s_nil)
def F_is_integer : List D → List D → R D := runF 1 b_is_integer
theorem ok_is_integer (T : EP K mg) : OkF P w K mg base "is_integer" 1 ["thing"] F_is_integer := okf_of (T.def_ 0) (T.glo 13) bd_is_integer sc_is_integer fun _ cdv A outer s H E hr C =>
 (dss_cons (ds_ret (de_and (c_isi (cs := ["Task"]) T.owns (T.free 11) (T.free 1) boot_int (by decide) (de_var 0)) (de_one (de_not (c_isi (cs := ["Task"]) T.owns (T.free 11) (T.free 12) boot_bool (by decide) (de_var 0))))))
 dss_nil)
theorem sc_is_within : FnScope ["thing", "least", "most"] ["thing", "least", "most"] (defScope s_is_within) := ⟨rfl, rfl, rfl, by decide +kernel, rfl, by decide +kernel, by decide +kernel⟩
theorem bd_is_within : BindsOk s_is_within "is_within" "is_within" ["thing", "least", "most"] := fun _ _ _ _ _ _ us hl => match us, hl with | [_, _, _], _ => rfl
def b_is_within : SM :=
 (s_seq (s_ret (e_and (e_call F_is_integer (a_cons (e_var 0) a_nil)) (e_chain leD leD (e_var 1) (e_var 0) (e_var 2))))
 s_nil)
def F_is_within : List D → List D → R D := runF 3 b_is_within
theorem ok_is_within (T : EP K mg) : OkF P w K mg base "is_within" 2 ["thing", "least", "most"] F_is_within := okf_of (T.def_ 1) (T.glo 14) bd_is_within sc_is_within fun _ cdv A outer s H E hr C =>
 (dss_cons (ds_ret (de_and (de_callG C (ok_is_integer T) hr (by decide) (da_cons (de_var 0) da_nil) (len_cons len_nil)) (de_one (de_chain op_le op_le og_le og_le (de_var 1) (de_var 0) (de_var 2)))))
 dss_nil)
theorem sc_is_row : FnScope ["thing", "size", "least", "most", "number"] ["thing", "size", "least", "most"] (defScope s_is_row) := ⟨rfl, rfl, rfl, by decide +kernel, rfl, by decide +kernel, by decide +kernel⟩
theorem bd_is_row : BindsOk s_is_row "is_row" "is_row" ["thing", "size", "least", "most"] := fun _ _ _ _ _ _ us hl => match us, hl with | [_, _, _, _], _ => rfl
def cs_is_row_0 : Scope := { kind := .function, names := [(".0", .«local»), ("number", .«local»), ("is_within", .globalImplicit), ("least", .free), ("most", .free)], isGenerator := false, isCoroutine := false, more := [] }
theorem blk_is_row_0 : BlkOk ["thing", "size", "least", "most", "number"] (defScope s_is_row) cs_is_row_0 [("number", 4)] := ⟨rfl, by decide +kernel, by decide +kernel, by decide +kernel, by decide +kernel⟩
def b_is_row : SM :=
 (s_seq (s_if (t_or (t_not (t_val (e_un (isTy ["Task"] "tuple") (e_var 0)))) (t_val (e_bin neD (e_len (e_var 0)) (e_var 1)))) (s_seq (s_ret (e_k (.bl false)))
 s_nil) s_nil)
 (s_seq (s_ret (e1 allD (e_lst (l_comp (i_of (e_var 0)) [4] (g_name 4) t_yes (e_call F_is_within (a_cons (e_var 4) (a_cons (e_var 2) (a_cons (e_var 3) a_nil))))))))
 s_nil))
def F_is_row : List D → List D → R D := runF 5 b_is_row
theorem ok_is_row (T : EP K mg) : OkF P w K mg base "is_row" 3 ["thing", "size", "least", "most"] F_is_row := okf_of (T.def_ 2) (T.glo 15) bd_is_row sc_is_row fun _ cdv A outer s H E hr C =>
 (dss_cons (ds_if (dt_w (dw_or (dt_not (dt_val (c_isi (cs := ["Task"]) T.owns (T.free 11) (T.free 2) boot_tuple (by decide) (de_var 0)))) (dw_or1 (dt_cmp (op_neD C.un) og_ne (nomark _) (de_lenB (T.free 0) (db_of (de_var 0))) (de_var 1))))) (dss_cons (ds_ret de_bl)
 dss_nil) dss_nil)
 (dss_cons (ds_ret (c_all C (T.free 6) (de_of_df (df_comp C.calm C.nd (di_seq (de_var 0)) blk_is_row_0 ⟨fun s0 H0 a0 l0 p0 => (dg_name 4 (C.blk' s0 H0 cs_is_row_0 l0 a0 p0).nd), fun s0 H0 a0 l0 p0 => pts_nil', fun s0 H0 a0 l0 p0 => (de_callG (C.blk' s0 H0 cs_is_row_0 l0 a0 p0) (ok_is_within T) hr (by decide) (da_cons (de_var 4) (da_cons (de_var 2) (da_cons (de_var 3) da_nil))) (len_cons (len_cons (len_cons len_nil))))⟩))))
 dss_nil))
theorem sc_first_wrong_row : FnScope ["rows", "least", "most", "number", "row"] ["rows", "least", "most"] (defScope s_first_wrong_row) := ⟨rfl, rfl, rfl, by decide +kernel, rfl, by decide +kernel, by decide +kernel⟩
theorem bd_first_wrong_row : BindsOk s_first_wrong_row "first_wrong_row" "first_wrong_row" ["rows", "least", "most"] := fun _ _ _ _ _ _ us hl => match us, hl with | [_, _, _], _ => rfl
def b_first_wrong_row : SM :=
 (s_seq (s_for (i_enum (e_var 0)) (g_tup 2 (gs_cons (g_name 3) (gs_cons (g_name 4) gs_nil))) (s_seq (s_if (t_not (t_val (e_call F_is_row (a_cons (e_var 4) (a_cons (e_bin subD (e_len (e_var 0)) (e_var 3)) (a_cons (e_var 1) (a_cons (e_var 2) a_nil))))))) (s_seq (s_ret (e_var 3))
 s_nil) s_nil)
 s_nil))
 (s_seq (s_ret (e_k .non))
 s_nil))
def F_first_wrong_row : List D → List D → R D := runF 5 b_first_wrong_row
theorem ok_first_wrong_row (T : EP K mg) : OkF P w K mg base "first_wrong_row" 4 ["rows", "least", "most"] F_first_wrong_row := okf_of (T.def_ 3) (T.glo 16) bd_first_wrong_row sc_first_wrong_row fun _ cdv A outer s H E hr C =>
 (dss_cons (ds_for C (di_enum (T.free 9) (de_var 0)) (dg_tup C.calm (dgs_cons (dg_name 3 C.nd) (dgs_cons (dg_name 4 C.nd) dgs_nil))) (dss_cons (ds_if (dt_not (dt_val (de_callG C (ok_is_row T) hr (by decide) (da_cons (de_var 4) (da_cons (de_bin op_sub og_sub (de_lenB (T.free 0) (db_of (de_var 0))) (de_var 3)) (da_cons (de_var 1) (da_cons (de_var 2) da_nil)))) (len_cons (len_cons (len_cons (len_cons len_nil))))))) (dss_cons (ds_ret (de_var 3))
 dss_nil) dss_nil)
 dss_nil))
 (dss_cons (ds_ret de_non)
 dss_nil))
theorem sc_check_number : FnScope ["thing", "least", "most"] ["thing", "least", "most"] (defScope s_check_number) := ⟨rfl, rfl, rfl, by decide +kernel, rfl, by decide +kernel, by decide +kernel⟩
theorem bd_check_number : BindsOk s_check_number "check_number" "check_number" ["thing", "least", "most"] := fun _ _ _ _ _ _ us hl => match us, hl with | [_, _, _], _ => rfl
def b_check_number : SM :=
 (s_seq (s_if (t_not (t_val (e_call F_is_within (a_cons (e_var 0) (a_cons (e_var 1) (a_cons (e_var 2) a_nil)))))) (s_seq s_never
 s_nil) s_nil)
 s_nil)
def F_check_number : List D → List D → R D := runF 3 b_check_number
theorem ok_check_number (T : EP K mg) : OkF P w K mg base "check_number" 3 ["thing", "least", "most"] F_check_number := okf_of (T.def_ 4) (T.glo 17) bd_check_number sc_check_number fun _ cdv A outer s H E hr C =>
 (dss_cons (ds_if (dt_not (dt_val (de_callG C (ok_is_within T) hr (by decide) (da_cons (de_var 0) (da_cons (de_var 1) (da_cons (de_var 2) da_nil))) (len_cons (len_cons (len_cons len_nil)))))) (dss_cons ds_never
 dss_nil) dss_nil)
 dss_nil)
theorem sc_check_hour : FnScope ["thing", "least", "hours"] ["thing", "least", "hours"] (defScope s_check_hour) := ⟨rfl, rfl, rfl, by decide +kernel, rfl, by decide +kernel, by decide +kernel⟩
theorem bd_check_hour : BindsOk s_check_hour "check_hour" "check_hour" ["thing", "least", "hours"] := fun _ _ _ _ _ _ us hl => match us, hl with | [_, _, _], _ => rfl
def b_check_hour : SM :=
 (s_seq (s_if (t_not (t_val (e_call F_is_within (a_cons (e_var 0) (a_cons (e_var 1) (a_cons (e_bin subD (e_var 2) (e_k (.int 1))) a_nil)))))) (s_seq s_never
 s_nil) s_nil)
 s_nil)
def F_check_hour : List D → List D → R D := runF 3 b_check_hour
theorem ok_check_hour (T : EP K mg) : OkF P w K mg base "check_hour" 3 ["thing", "least", "hours"] F_check_hour := okf_of (T.def_ 5) (T.glo 18) bd_check_hour sc_check_hour fun _ cdv A outer s H E hr C =>
 (dss_cons (ds_if (dt_not (dt_val (de_callG C (ok_is_within T) hr (by decide) (da_cons (de_var 0) (da_cons (de_var 1) (da_cons (de_bin op_sub og_sub (de_var 2) de_int) da_nil))) (len_cons (len_cons (len_cons len_nil)))))) (dss_cons ds_never
 dss_nil) dss_nil)
 dss_nil)
theorem sc_length_of : FnScope ["task"] ["task"] (defScope s_length_of) := ⟨rfl, rfl, rfl, by decide +kernel, rfl, by decide +kernel, by decide +kernel⟩
theorem bd_length_of : BindsOk s_length_of "length_of" "length_of" ["task"] := fun _ _ _ _ _ _ us hl => match us, hl with | [_], _ => rfl
def b_length_of : SM :=
 (s_seq (s_ret (e_len (e_un (fldD ["Task"] "writes") (e_var 0))))
 s_nil)
def F_length_of : List D → List D → R D := runF 1 b_length_of
theorem ok_length_of (T : EP K mg) : OkF P w K mg base "length_of" 1 ["task"] F_length_of := okf_of (T.def_ 7) (T.glo 20) bd_length_of sc_length_of fun _ cdv A outer s H E hr C =>
 (dss_cons (ds_ret (de_lenB (T.free 0) (db_of (de_fld (fld_Task_writes T) rfl (de_var 0)))))
 dss_nil)
theorem sc_write_of : FnScope ["task", "first", "last"] ["task", "first", "last"] (defScope s_write_of) := ⟨rfl, rfl, rfl, by decide +kernel, rfl, by decide +kernel, by decide +kernel⟩
theorem bd_write_of : BindsOk s_write_of "write_of" "write_of" ["task", "first", "last"] := fun _ _ _ _ _ _ us hl => match us, hl with | [_, _, _], _ => rfl
def b_write_of : SM :=
 (s_seq (s_ret (e_bin ixD (e_bin ixD (e_un (fldD ["Task"] "writes") (e_var 0)) (e_var 1)) (e_bin subD (e_var 2) (e_var 1))))
 s_nil)
def F_write_of : List D → List D → R D := runF 3 b_write_of
theorem ok_write_of (T : EP K mg) : OkF P w K mg base "write_of" 1 ["task", "first", "last"] F_write_of := okf_of (T.def_ 8) (T.glo 21) bd_write_of sc_write_of fun _ cdv A outer s H E hr C =>
 (dss_cons (ds_ret (de_ix (fun _ _ => rfl) (de_ix (fun _ _ => rfl) (de_fld (fld_Task_writes T) rfl (de_var 0)) (de_var 1)) (de_bin op_sub og_sub (de_var 2) (de_var 1))))
 dss_nil)
theorem sc_begins_next : FnScope ["begins", "begin", "one"] ["begins", "begin"] (defScope s_begins_next) := ⟨rfl, rfl, rfl, by decide +kernel, rfl, by decide +kernel, by decide +kernel⟩
theorem bd_begins_next : BindsOk s_begins_next "begins_next" "begins_next" ["begins", "begin"] := fun _ _ _ _ _ _ us hl => match us, hl with | [_, _], _ => rfl
def cs_begins_next_0 : Scope := { kind := .function, names := [(".0", .«local»), ("one", .«local»), ("begin", .free)], isGenerator := false, isCoroutine := false, more := [] }
theorem blk_begins_next_0 : BlkOk ["begins", "begin", "one"] (defScope s_begins_next) cs_begins_next_0 [("one", 2)] := ⟨rfl, by decide +kernel, by decide +kernel, by decide +kernel, by decide +kernel⟩
def b_begins_next : SM :=
 (s_seq (s_ret (e_bin addD (e1 tupleD (e_lst (l_comp (i_of (e_var 0)) [2] (g_name 2) (t_val (e_bin ltD (e_var 2) (e_var 1))) (e_var 2)))) (e_tup (a_cons (e_var 1) a_nil))))
 s_nil)
def F_begins_next : List D → List D → R D := runF 3 b_begins_next
theorem ok_begins_next (T : EP K mg) : OkF P w K mg base "begins_next" 1 ["begins", "begin"] F_begins_next := okf_of (T.def_ 14) (T.glo 27) bd_begins_next sc_begins_next fun _ cdv A outer s H E hr C =>
 (dss_cons (ds_ret (de_bin op_plus og_plus (c_tuple (T.free 2) (de_of_df (df_comp C.calm C.nd (di_seq (de_var 0)) blk_begins_next_0 ⟨fun s0 H0 a0 l0 p0 => (dg_name 2 (C.blk' s0 H0 cs_begins_next_0 l0 a0 p0).nd), fun s0 H0 a0 l0 p0 => (pts_one' (dt_cmp op_lt og_lt (nomark _) (de_var 2) (de_var 1))), fun s0 H0 a0 l0 p0 => (de_var 2)⟩))) (de_tup (da_cons (de_var 1) da_nil) (len_cons len_nil))))
 dss_nil)
theorem sc_is_plan_of : FnScope ["hours", "thing", "begins", "hour", "begin"] ["hours", "thing"] (defScope s_is_plan_of) := ⟨rfl, rfl, rfl, by decide +kernel, rfl, by decide +kernel, by decide +kernel⟩
theorem bd_is_plan_of : BindsOk s_is_plan_of "is_plan_of" "is_plan_of" ["hours", "thing"] := fun _ _ _ _ _ _ us hl => match us, hl with | [_, _], _ => rfl
def b_is_plan_of : SM :=
 (s_seq (s_if (t_or (t_not (t_val (e_un (isTy ["Task"] "tuple") (e_var 1)))) (t_val (e_bin neD (e_len (e_var 1)) (e_var 0)))) (s_seq (s_ret (e_k (.bl false)))
 s_nil) s_nil)
 (s_seq (s_set 2 (e_tup a_nil))
 (s_seq (s_for (i_enum (e_var 1)) (g_tup 2 (gs_cons (g_name 3) (gs_cons (g_name 4) gs_nil))) (s_seq (s_if (t_or (t_not (t_val (e_call F_is_within (a_cons (e_var 4) (a_cons (e_k (.int 0)) (a_cons (e_var 3) a_nil)))))) (t_and (t_val (e_bin neD (e_var 4) (e_var 3))) (t_val (e_bin notInD (e_var 4) (e_var 2))))) (s_seq (s_ret (e_k (.bl false)))
 s_nil) s_nil)
 (s_seq (s_set 2 (e_call F_begins_next (a_cons (e_var 2) (a_cons (e_var 4) a_nil))))
 s_nil)))
 (s_seq (s_ret (e_k (.bl true)))
 s_nil))))
def F_is_plan_of : List D → List D → R D := runF 5 b_is_plan_of
theorem ok_is_plan_of (T : EP K mg) : OkF P w K mg base "is_plan_of" 3 ["hours", "thing"] F_is_plan_of := okf_of (T.def_ 13) (T.glo 26) bd_is_plan_of sc_is_plan_of fun _ cdv A outer s H E hr C =>
 (dss_cons (ds_if (dt_w (dw_or (dt_not (dt_val (c_isi (cs := ["Task"]) T.owns (T.free 11) (T.free 2) boot_tuple (by decide) (de_var 1)))) (dw_or1 (dt_cmp (op_neD C.un) og_ne (nomark _) (de_lenB (T.free 0) (db_of (de_var 1))) (de_var 0))))) (dss_cons (ds_ret de_bl)
 dss_nil) dss_nil)
 (dss_cons (ds_set 2 C.nd (de_tup da_nil len_nil))
 (dss_cons (ds_for C (di_enum (T.free 9) (de_var 1)) (dg_tup C.calm (dgs_cons (dg_name 3 C.nd) (dgs_cons (dg_name 4 C.nd) dgs_nil))) (dss_cons (ds_if (dt_w (dw_or (dt_not (dt_val (de_callG C (ok_is_within T) hr (by decide) (da_cons (de_var 4) (da_cons de_int (da_cons (de_var 3) da_nil))) (len_cons (len_cons (len_cons len_nil)))))) (dw_or1 (dt_w (dw_and (dt_cmp (op_neD C.un) og_ne (nomark _) (de_var 4) (de_var 3)) (dw_and1 (dt_cmp (op_notInA (r65 hr)) og_notIn rfl (de_var 4) (de_var 2)))))))) (dss_cons (ds_ret de_bl)
 dss_nil) dss_nil)
 (dss_cons (ds_set 2 C.nd (de_callG C (ok_begins_next T) hr (by decide) (da_cons (de_var 2) (da_cons (de_var 4) da_nil)) (len_cons (len_cons len_nil))))
 dss_nil)))
 (dss_cons (ds_ret de_bl)
 dss_nil))))
theorem sc_begins_behind : FnScope ["plan", "found", "begins", "begin"] ["plan"] (defScope s_begins_behind) := ⟨rfl, rfl, rfl, by decide +kernel, rfl, by decide +kernel, by decide +kernel⟩
theorem bd_begins_behind : BindsOk s_begins_behind "begins_behind" "begins_behind" ["plan"] := fun _ _ _ _ _ _ us hl => match us, hl with | [_], _ => rfl
def b_begins_behind : SM :=
 (s_seq (s_seto 1 a_nil)
 (s_seq (s_set 2 (e_tup a_nil))
 (s_seq (s_for (i_of (e_var 0)) (g_name 3) (s_seq (s_set 2 (e_call F_begins_next (a_cons (e_var 2) (a_cons (e_var 3) a_nil))))
 (s_seq (s_append 1 (e_var 2))
 s_nil)))
 (s_seq (s_frz 1 (s_ret (e_var 1)))
 s_nil))))
def F_begins_behind : List D → List D → R D := runF 4 b_begins_behind
theorem ok_begins_behind (T : EP K mg) : OkF P w K mg base "begins_behind" 2 ["plan"] F_begins_behind := okf_of (T.def_ 15) (T.glo 28) bd_begins_behind sc_begins_behind fun _ cdv A outer s H E hr C =>
 (dss_cons (ds_seto 1 C.nd (df_lst da_nil len_nil))
 (dss_cons (ds_set 2 C.nd (de_tup da_nil len_nil))
 (dss_cons (ds_for C (di_seq (de_var 0)) (dg_name 3 C.nd) (dss_cons (ds_set 2 C.nd (de_callG C (ok_begins_next T) hr (by decide) (da_cons (de_var 2) (da_cons (de_var 3) da_nil)) (len_cons (len_cons len_nil))))
 (dss_cons (ds_append 1 (de_var 2))
 dss_nil)))
 (dss_cons (ds_frz 1 (ds_ret (de_var 1)))
 dss_nil))))
theorem sc_check_plan_for : FnScope ["task", "plan"] ["task", "plan"] (defScope s_check_plan_for) := ⟨rfl, rfl, rfl, by decide +kernel, rfl, by decide +kernel, by decide +kernel⟩
theorem bd_check_plan_for : BindsOk s_check_plan_for "check_plan_for" "check_plan_for" ["task", "plan"] := fun _ _ _ _ _ _ us hl => match us, hl with | [_, _], _ => rfl
def b_check_plan_for : SM :=
 (s_seq (s_if (t_not (t_val (e_call F_is_plan_of (a_cons (e_call F_length_of (a_cons (e_var 0) a_nil)) (a_cons (e_var 1) a_nil))))) (s_seq s_never
 s_nil) s_nil)
 s_nil)
def F_check_plan_for : List D → List D → R D := runF 2 b_check_plan_for
theorem ok_check_plan_for (T : EP K mg) : OkF P w K mg base "check_plan_for" 4 ["task", "plan"] F_check_plan_for := okf_of (T.def_ 16) (T.glo 29) bd_check_plan_for sc_check_plan_for fun _ cdv A outer s H E hr C =>
 (dss_cons (ds_if (dt_not (dt_val (de_callG C (ok_is_plan_of T) hr (by decide) (da_cons (de_callG C (ok_length_of T) hr (by decide) (da_cons (de_var 0) da_nil) (len_cons len_nil)) (da_cons (de_var 1) da_nil)) (len_cons (len_cons len_nil))))) (dss_cons ds_never
 dss_nil) dss_nil)
 dss_nil)
theorem sc_writing_of : FnScope ["task", "plan", "hour", "begin"] ["task", "plan"] (defScope s_writing_of) := ⟨rfl, rfl, rfl, by decide +kernel, rfl, by decide +kernel, by decide +kernel⟩
theorem bd_writing_of : BindsOk s_writing_of "writing_of" "writing_of" ["task", "plan"] := fun _ _ _ _ _ _ us hl => match us, hl with | [_, _], _ => rfl
def cs_writing_of_0 : Scope := { kind := .function, names := [(".0", .«local»), ("hour", .«local»), ("begin", .«local»), ("write_of", .globalImplicit), ("task", .free)], isGenerator := false, isCoroutine := false, more := [] }
theorem blk_writing_of_0 : BlkOk ["task", "plan", "hour", "begin"] (defScope s_writing_of) cs_writing_of_0 [("hour", 2), ("begin", 3)] := ⟨rfl, by decide +kernel, by decide +kernel, by decide +kernel, by decide +kernel⟩
def b_writing_of : SM :=
 (s_seq (s_ret (e_lst (l_comp (i_enum (e_var 1)) [2, 3] (g_tup 2 (gs_cons (g_name 2) (gs_cons (g_name 3) gs_nil))) t_yes (e_call F_write_of (a_cons (e_var 0) (a_cons (e_var 3) (a_cons (e_var 2) a_nil)))))))
 s_nil)
def F_writing_of : List D → List D → R D := runF 4 b_writing_of
theorem ok_writing_of (T : EP K mg) : OkF P w K mg base "writing_of" 2 ["task", "plan"] F_writing_of := okf_of (T.def_ 17) (T.glo 30) bd_writing_of sc_writing_of fun _ cdv A outer s H E hr C =>
 (dss_cons (ds_ret (de_of_df (df_comp C.calm C.nd (di_enum (T.free 9) (de_var 1)) blk_writing_of_0 ⟨fun s0 H0 a0 l0 p0 => (dg_tup (C.blk' s0 H0 cs_writing_of_0 l0 a0 p0).calm (dgs_cons (dg_name 2 (C.blk' s0 H0 cs_writing_of_0 l0 a0 p0).nd) (dgs_cons (dg_name 3 (C.blk' s0 H0 cs_writing_of_0 l0 a0 p0).nd) dgs_nil))), fun s0 H0 a0 l0 p0 => pts_nil', fun s0 H0 a0 l0 p0 => (de_callG (C.blk' s0 H0 cs_writing_of_0 l0 a0 p0) (ok_write_of T) hr (by decide) (da_cons (de_var 0) (da_cons (de_var 3) (da_cons (de_var 2) da_nil))) (len_cons (len_cons (len_cons len_nil))))⟩)))
 dss_nil)
theorem sc_looking_of : FnScope ["task", "standing", "found", "hour", "begins", "begin"] ["task", "standing"] (defScope s_looking_of) := ⟨rfl, rfl, rfl, by decide +kernel, rfl, by decide +kernel, by decide +kernel⟩
theorem bd_looking_of : BindsOk s_looking_of "looking_of" "looking_of" ["task", "standing"] := fun _ _ _ _ _ _ us hl => match us, hl with | [_, _], _ => rfl
def cs_looking_of_0 : Scope := { kind := .function, names := [(".0", .«local»), ("begin", .«local»), ("hour", .free), ("task", .free)], isGenerator := false, isCoroutine := false, more := [] }
theorem blk_looking_of_0 : BlkOk ["task", "standing", "found", "hour", "begins", "begin"] (defScope s_looking_of) cs_looking_of_0 [("begin", 5)] := ⟨rfl, by decide +kernel, by decide +kernel, by decide +kernel, by decide +kernel⟩
def b_looking_of : SM :=
 (s_seq (s_seto 2 a_nil)
 (s_seq (s_for (i_enum (e_var 1)) (g_tup 2 (gs_cons (g_name 3) (gs_cons (g_name 4) gs_nil))) (s_seq (s_append 2 (e1 sumD (e_lst (l_comp (i_of (e_var 4)) [5] (g_name 5) t_yes (e_bin ixD (e_bin ixD (e_un (fldD ["Task"] "looks") (e_var 0)) (e_var 5)) (e_bin subD (e_var 3) (e_var 5)))))))
 s_nil))
 (s_seq (s_frz 2 (s_ret (e_var 2)))
 s_nil)))
def F_looking_of : List D → List D → R D := runF 6 b_looking_of
theorem ok_looking_of (T : EP K mg) : OkF P w K mg base "looking_of" 1 ["task", "standing"] F_looking_of := okf_of (T.def_ 18) (T.glo 31) bd_looking_of sc_looking_of fun _ cdv A outer s H E hr C =>
 (dss_cons (ds_seto 2 C.nd (df_lst da_nil len_nil))
 (dss_cons (ds_for C (di_enum (T.free 9) (de_var 1)) (dg_tup C.calm (dgs_cons (dg_name 3 C.nd) (dgs_cons (dg_name 4 C.nd) dgs_nil))) (dss_cons (ds_append 2 (c_sum C (T.free 5) (de_of_df (df_comp C.calm C.nd (di_seq (de_var 4)) blk_looking_of_0 ⟨fun s0 H0 a0 l0 p0 => (dg_name 5 (C.blk' s0 H0 cs_looking_of_0 l0 a0 p0).nd), fun s0 H0 a0 l0 p0 => pts_nil', fun s0 H0 a0 l0 p0 => (de_ix (fun _ _ => rfl) (de_ix (fun _ _ => rfl) (de_fld (fld_Task_looks T) rfl (de_var 0)) (de_var 5)) (de_bin op_sub og_sub (de_var 3) (de_var 5)))⟩))))
 dss_nil))
 (dss_cons (ds_frz 2 (ds_ret (de_var 2)))
 dss_nil)))
theorem sc_cost_of : FnScope ["task", "plan"] ["task", "plan"] (defScope s_cost_of) := ⟨rfl, rfl, rfl, by decide +kernel, rfl, by decide +kernel, by decide +kernel⟩
theorem bd_cost_of : BindsOk s_cost_of "cost_of" "cost_of" ["task", "plan"] := fun _ _ _ _ _ _ us hl => match us, hl with | [_, _], _ => rfl
def b_cost_of : SM :=
 (s_seq (s_ret (e_bin addD (e1 sumD (e_call F_writing_of (a_cons (e_var 0) (a_cons (e_var 1) a_nil)))) (e1 sumD (e_call F_looking_of (a_cons (e_var 0) (a_cons (e_call F_begins_behind (a_cons (e_var 1) a_nil)) a_nil))))))
 s_nil)
def F_cost_of : List D → List D → R D := runF 2 b_cost_of
theorem ok_cost_of (T : EP K mg) : OkF P w K mg base "cost_of" 3 ["task", "plan"] F_cost_of := okf_of (T.def_ 19) (T.glo 32) bd_cost_of sc_cost_of fun _ cdv A outer s H E hr C =>
 (dss_cons (ds_ret (de_bin op_plus og_plus (c_sum C (T.free 5) (de_callG C (ok_writing_of T) hr (by decide) (da_cons (de_var 0) (da_cons (de_var 1) da_nil)) (len_cons (len_cons len_nil)))) (c_sum C (T.free 5) (de_callG C (ok_looking_of T) hr (by decide) (da_cons (de_var 0) (da_cons (de_callG C (ok_begins_behind T) hr (by decide) (da_cons (de_var 1) da_nil) (len_cons len_nil)) da_nil)) (len_cons (len_cons len_nil))))))
 dss_nil)
theorem sc_cost : FnScope ["task", "plan"] ["task", "plan"] (defScope s_cost) := ⟨rfl, rfl, rfl, by decide +kernel, rfl, by decide +kernel, by decide +kernel⟩
theorem bd_cost : BindsOk s_cost "cost" "cost" ["task", "plan"] := fun _ _ _ _ _ _ us hl => match us, hl with | [_, _], _ => rfl
def b_cost : SM :=
 (s_seq (s_expr (e_call F_check_plan_for (a_cons (e_var 0) (a_cons (e_var 1) a_nil))))
 (s_seq (s_ret (e_call F_cost_of (a_cons (e_var 0) (a_cons (e_var 1) a_nil))))
 s_nil))
def F_cost : List D → List D → R D := runF 2 b_cost
theorem ok_cost (T : EP K mg) : OkF P w K mg base "cost" 5 ["task", "plan"] F_cost := okf_of (T.def_ 20) (T.glo 33) bd_cost sc_cost fun _ cdv A outer s H E hr C =>
 (dss_cons (ds_expr (de_callG C (ok_check_plan_for T) hr (by decide) (da_cons (de_var 0) (da_cons (de_var 1) da_nil)) (len_cons (len_cons len_nil))))
 (dss_cons (ds_ret (de_callG C (ok_cost_of T) hr (by decide) (da_cons (de_var 0) (da_cons (de_var 1) da_nil)) (len_cons (len_cons len_nil))))
 dss_nil))
theorem sc__law_hand : FnScope ["_law_script", "_law_cells", "_law_cell"] ["_law_script"] (defScope s__law_hand) := ⟨rfl, rfl, rfl, by decide +kernel, rfl, by decide +kernel, by decide +kernel⟩
theorem bd__law_hand : BindsOk s__law_hand "_law_hand" "_law_hand" ["_law_script"] := fun _ _ _ _ _ _ us hl => match us, hl with | [_], _ => rfl
def cs__law_hand_0 : Scope := { kind := .function, names := [(".0", .«local»), ("_law_cell", .«local»), ("abs", .globalImplicit), ("int", .globalImplicit)], isGenerator := false, isCoroutine := false, more := [] }
theorem blk__law_hand_0 : BlkOk ["_law_script", "_law_cells", "_law_cell"] (defScope s__law_hand) cs__law_hand_0 [("_law_cell", 2)] := ⟨rfl, by decide +kernel, by decide +kernel, by decide +kernel, by decide +kernel⟩
def b__law_hand : SM :=
 (s_seq (s_seto 1 (l_comp (i_of (e_slice (e_var 0) o_none (o_some (e_k (.int 63))))) [2] (g_name 2) t_yes (e1 absD (e1 intD (e_var 2)))))
 (s_seq (s_frz 1 (s_ret (e_lst (a_cons (e_var 1) (a_cons (e_k (.int 0)) (a_cons (e_k (.int 0)) (a_cons (e_bin addD (e_k (.int 1)) (e_len (e_varb 1))) (a_cons (e_k (.int 0)) a_nil))))))))
 s_nil))
def F__law_hand : List D → List D → R D := runF 3 b__law_hand
theorem ok__law_hand (T : EP K mg) : OkF P w K mg base "_law_hand" 1 ["_law_script"] F__law_hand := okf_of (T.def_ 21) (T.glo 34) bd__law_hand sc__law_hand fun _ cdv A outer s H E hr C =>
 (dss_cons (ds_setLc 1 C.calm C.nd rfl (di_seq (de_slice (de_var 0) do_none (do_some de_int))) blk__law_hand_0 ⟨fun s0 H0 a0 l0 p0 => (dg_name 2 (C.blk' s0 H0 cs__law_hand_0 l0 a0 p0).nd), fun s0 H0 a0 l0 p0 => pts_nil', fun s0 H0 a0 l0 p0 => (c_abs (T.free 4) (c_int (T.free 1) (de_var 2)))⟩)
 (dss_cons (ds_frz 1 (ds_ret (de_lst (da_cons (de_var 1) (da_cons de_int (da_cons de_int (da_cons (de_bin op_plus og_plus de_int (de_lenB (T.free 0) (db_var 1))) (da_cons de_int da_nil))))) (len_cons (len_cons (len_cons (len_cons (len_cons len_nil))))))))
 dss_nil))
theorem sc__law_summed : FnScope ["_law_sizes", "_law_hours", "_law_first", "_law_hour"] ["_law_sizes"] (defScope s__law_summed) := ⟨rfl, rfl, rfl, by decide +kernel, rfl, by decide +kernel, by decide +kernel⟩
theorem bd__law_summed : BindsOk s__law_summed "_law_summed" "_law_summed" ["_law_sizes"] := fun _ _ _ _ _ _ us hl => match us, hl with | [_], _ => rfl
def cs__law_summed_0 : Scope := { kind := .function, names := [(".0", .«local»), ("_law_first", .cell), ("tuple", .globalImplicit), ("range", .globalImplicit), ("_law_hours", .free), ("_law_sizes", .free)], isGenerator := false, isCoroutine := false, more := [] }
theorem blk__law_summed_0 : BlkOk ["_law_sizes", "_law_hours", "_law_first", "_law_hour"] (defScope s__law_summed) cs__law_summed_0 [("_law_first", 2)] := ⟨rfl, by decide +kernel, by decide +kernel, by decide +kernel, by decide +kernel⟩
def cs__law_summed_1 : Scope := { kind := .function, names := [(".0", .«local»), ("_law_hour", .«local»), ("sum", .globalImplicit), ("_law_first", .free), ("_law_sizes", .free)], isGenerator := false, isCoroutine := false, more := [] }
theorem blk__law_summed_1 : BlkOk ["_law_sizes", "_law_hours", "_law_first", "_law_hour"] (relS cs__law_summed_0 (defScope s__law_summed)) cs__law_summed_1 [("_law_hour", 3)] := ⟨rfl, by decide +kernel, by decide +kernel, by decide +kernel, by decide +kernel⟩
def b__law_summed : SM :=
 (s_seq (s_set 1 (e_len (e_var 0)))
 (s_seq (s_ret (e1 tupleD (e_lst (l_comp (i_range (a_cons (e_var 1) a_nil)) [2] (g_name 2) t_yes (e1 tupleD (e_lst (l_comp (i_range (a_cons (e_var 2) (a_cons (e_var 1) a_nil))) [3] (g_name 3) t_yes (e1 sumD (e_slice (e_var 0) (o_some (e_var 2)) (o_some (e_bin addD (e_var 3) (e_k (.int 1)))))))))))))
 s_nil))
def F__law_summed : List D → List D → R D := runF 4 b__law_summed
theorem ok__law_summed (T : EP K mg) : OkF P w K mg base "_law_summed" 1 ["_law_sizes"] F__law_summed := okf_of (T.def_ 25) (T.glo 38) bd__law_summed sc__law_summed fun _ cdv A outer s H E hr C =>
 (dss_cons (ds_set 1 C.nd (de_lenB (T.free 0) (db_of (de_var 0))))
 (dss_cons (ds_ret (c_tuple (T.free 2) (de_of_df (df_comp C.calm C.nd (di_range1 (T.free 8) (de_var 1)) blk__law_summed_0 ⟨fun s0 H0 a0 l0 p0 => (dg_name 2 (C.blk' s0 H0 cs__law_summed_0 l0 a0 p0).nd), fun s0 H0 a0 l0 p0 => pts_nil', fun s0 H0 a0 l0 p0 => (c_tuple (T.free 2) (de_of_df (df_comp (C.blk' s0 H0 cs__law_summed_0 l0 a0 p0).calm (C.blk' s0 H0 cs__law_summed_0 l0 a0 p0).nd (di_range2 (T.free 8) (de_var 2) (de_var 1)) blk__law_summed_1 ⟨fun s1 H1 a1 l1 p1 => (dg_name 3 ((C.blk' s0 H0 cs__law_summed_0 l0 a0 p0).blk' s1 H1 cs__law_summed_1 l1 a1 p1).nd), fun s1 H1 a1 l1 p1 => pts_nil', fun s1 H1 a1 l1 p1 => (c_sum ((C.blk' s0 H0 cs__law_summed_0 l0 a0 p0).blk' s1 H1 cs__law_summed_1 l1 a1 p1) (T.free 5) (de_slice (de_var 0) (do_some (de_var 2)) (do_some (de_bin op_plus og_plus (de_var 3) de_int))))⟩)))⟩))))
 dss_nil))
theorem sc__law_begins : FnScope ["_law_plan_here", "_law_found", "_law_hour", "_law_begin", "_law_ahead", "_law_one"] ["_law_plan_here"] (defScope s__law_begins) := ⟨rfl, rfl, rfl, by decide +kernel, rfl, by decide +kernel, by decide +kernel⟩
theorem bd__law_begins : BindsOk s__law_begins "_law_begins" "_law_begins" ["_law_plan_here"] := fun _ _ _ _ _ _ us hl => match us, hl with | [_], _ => rfl
def cs__law_begins_0 : Scope := { kind := .function, names := [(".0", .«local»), ("_law_one", .«local»), ("_law_begin", .free)], isGenerator := false, isCoroutine := false, more := [] }
theorem blk__law_begins_0 : BlkOk ["_law_plan_here", "_law_found", "_law_hour", "_law_begin", "_law_ahead", "_law_one"] (defScope s__law_begins) cs__law_begins_0 [("_law_one", 5)] := ⟨rfl, by decide +kernel, by decide +kernel, by decide +kernel, by decide +kernel⟩
def b__law_begins : SM :=
 (s_seq (s_seto 1 a_nil)
 (s_seq (s_for (i_enum (e_var 0)) (g_tup 2 (gs_cons (g_name 2) (gs_cons (g_name 3) gs_nil))) (s_seq (s_set 4 (e_if (t_val (e_bin gtD (e_var 2) (e_k (.int 0)))) (e_bin ixD (e_varb 1) (e_un negD (e_k (.int 1)))) (e_tup a_nil)))
 (s_seq (s_append 1 (e_bin addD (e1 tupleD (e_lst (l_comp (i_of (e_var 4)) [5] (g_name 5) (t_val (e_bin ltD (e_var 5) (e_var 3))) (e_var 5)))) (e_tup (a_cons (e_var 3) a_nil))))
 s_nil)))
 (s_seq (s_frz 1 (s_ret (e_var 1)))
 s_nil)))
def F__law_begins : List D → List D → R D := runF 6 b__law_begins
theorem ok__law_begins (T : EP K mg) : OkF P w K mg base "_law_begins" 1 ["_law_plan_here"] F__law_begins := okf_of (T.def_ 27) (T.glo 40) bd__law_begins sc__law_begins fun _ cdv A outer s H E hr C =>
 (dss_cons (ds_seto 1 C.nd (df_lst da_nil len_nil))
 (dss_cons (ds_for C (di_enum (T.free 9) (de_var 0)) (dg_tup C.calm (dgs_cons (dg_name 2 C.nd) (dgs_cons (dg_name 3 C.nd) dgs_nil))) (dss_cons (ds_set 4 C.nd (de_if (dt_cmp op_gt og_gt (nomark _) (de_var 2) de_int) (de_ixB (fun _ _ => rfl) (db_var 1) (de_un un_neg og_neg de_int)) (de_tup da_nil len_nil)))
 (dss_cons (ds_append 1 (de_bin op_plus og_plus (c_tuple (T.free 2) (de_of_df (df_comp C.calm C.nd (di_seq (de_var 4)) blk__law_begins_0 ⟨fun s0 H0 a0 l0 p0 => (dg_name 5 (C.blk' s0 H0 cs__law_begins_0 l0 a0 p0).nd), fun s0 H0 a0 l0 p0 => (pts_one' (dt_cmp op_lt og_lt (nomark _) (de_var 5) (de_var 3))), fun s0 H0 a0 l0 p0 => (de_var 5)⟩))) (de_tup (da_cons (de_var 3) da_nil) (len_cons len_nil))))
 dss_nil)))
 (dss_cons (ds_frz 1 (ds_ret (de_var 1)))
 dss_nil)))
theorem sc__law_cost : FnScope ["_law_task", "_law_first", "_law_plan_here", "_law_found", "_law_hour", "_law_begins_here", "_law_one"] ["_law_task", "_law_first", "_law_plan_here"] (defScope s__law_cost) := ⟨rfl, rfl, rfl, by decide +kernel, rfl, by decide +kernel, by decide +kernel⟩
theorem bd__law_cost : BindsOk s__law_cost "_law_cost" "_law_cost" ["_law_task", "_law_first", "_law_plan_here"] := fun _ _ _ _ _ _ us hl => match us, hl with | [_, _, _], _ => rfl
def cs__law_cost_0 : Scope := { kind := .function, names := [(".0", .«local»), ("_law_one", .«local»), ("_law_first", .free), ("_law_hour", .free), ("_law_task", .free)], isGenerator := false, isCoroutine := false, more := [] }
theorem blk__law_cost_0 : BlkOk ["_law_task", "_law_first", "_law_plan_here", "_law_found", "_law_hour", "_law_begins_here", "_law_one"] (defScope s__law_cost) cs__law_cost_0 [("_law_one", 6)] := ⟨rfl, by decide +kernel, by decide +kernel, by decide +kernel, by decide +kernel⟩
def b__law_cost : SM :=
 (s_seq (s_set 3 (e_k (.int 0)))
 (s_seq (s_for (i_enum (e_call F__law_begins (a_cons (e_var 2) a_nil))) (g_tup 2 (gs_cons (g_name 4) (gs_cons (g_name 5) gs_nil))) (s_seq (s_set 3 (e_bin addD (e_var 3) (e_bin ixD (e_bin ixD (e_un (fldD ["Task"] "writes") (e_var 0)) (e_bin addD (e_var 1) (e_bin ixD (e_var 2) (e_var 4)))) (e_bin subD (e_var 4) (e_bin ixD (e_var 2) (e_var 4))))))
 (s_seq (s_set 3 (e_bin addD (e_var 3) (e1 sumD (e_lst (l_comp (i_of (e_var 5)) [6] (g_name 6) t_yes (e_bin ixD (e_bin ixD (e_un (fldD ["Task"] "looks") (e_var 0)) (e_bin addD (e_var 1) (e_var 6))) (e_bin subD (e_var 4) (e_var 6))))))))
 s_nil)))
 (s_seq (s_ret (e_var 3))
 s_nil)))
def F__law_cost : List D → List D → R D := runF 7 b__law_cost
theorem ok__law_cost (T : EP K mg) : OkF P w K mg base "_law_cost" 2 ["_law_task", "_law_first", "_law_plan_here"] F__law_cost := okf_of (T.def_ 29) (T.glo 42) bd__law_cost sc__law_cost fun _ cdv A outer s H E hr C =>
 (dss_cons (ds_set 3 C.nd de_int)
 (dss_cons (ds_for C (di_enum (T.free 9) (de_callG C (ok__law_begins T) hr (by decide) (da_cons (de_var 2) da_nil) (len_cons len_nil))) (dg_tup C.calm (dgs_cons (dg_name 4 C.nd) (dgs_cons (dg_name 5 C.nd) dgs_nil))) (dss_cons (ds_set 3 C.nd (de_bin op_plus og_plus (de_var 3) (de_ix (fun _ _ => rfl) (de_ix (fun _ _ => rfl) (de_fld (fld_Task_writes T) rfl (de_var 0)) (de_bin op_plus og_plus (de_var 1) (de_ix (fun _ _ => rfl) (de_var 2) (de_var 4)))) (de_bin op_sub og_sub (de_var 4) (de_ix (fun _ _ => rfl) (de_var 2) (de_var 4))))))
 (dss_cons (ds_set 3 C.nd (de_bin op_plus og_plus (de_var 3) (c_sum C (T.free 5) (de_of_df (df_comp C.calm C.nd (di_seq (de_var 5)) blk__law_cost_0 ⟨fun s0 H0 a0 l0 p0 => (dg_name 6 (C.blk' s0 H0 cs__law_cost_0 l0 a0 p0).nd), fun s0 H0 a0 l0 p0 => pts_nil', fun s0 H0 a0 l0 p0 => (de_ix (fun _ _ => rfl) (de_ix (fun _ _ => rfl) (de_fld (fld_Task_looks T) rfl (de_var 0)) (de_bin op_plus og_plus (de_var 1) (de_var 6))) (de_bin op_sub og_sub (de_var 4) (de_var 6)))⟩)))))
 dss_nil)))
 (dss_cons (ds_ret (de_var 3))
 dss_nil)))
theorem sc__law_part : FnScope ["_law_rows", "_law_first", "_law_last", "_law_begin"] ["_law_rows", "_law_first", "_law_last"] (defScope s__law_part) := ⟨rfl, rfl, rfl, by decide +kernel, rfl, by decide +kernel, by decide +kernel⟩
theorem bd__law_part : BindsOk s__law_part "_law_part" "_law_part" ["_law_rows", "_law_first", "_law_last"] := fun _ _ _ _ _ _ us hl => match us, hl with | [_, _, _], _ => rfl
def cs__law_part_0 : Scope := { kind := .function, names := [(".0", .«local»), ("_law_begin", .«local»), ("_law_last", .free), ("_law_rows", .free)], isGenerator := false, isCoroutine := false, more := [] }
theorem blk__law_part_0 : BlkOk ["_law_rows", "_law_first", "_law_last", "_law_begin"] (defScope s__law_part) cs__law_part_0 [("_law_begin", 3)] := ⟨rfl, by decide +kernel, by decide +kernel, by decide +kernel, by decide +kernel⟩
def b__law_part : SM :=
 (s_seq (s_ret (e1 tupleD (e_lst (l_comp (i_range (a_cons (e_var 1) (a_cons (e_bin addD (e_var 2) (e_k (.int 1))) a_nil))) [3] (g_name 3) t_yes (e_slice (e_bin ixD (e_var 0) (e_var 3)) o_none (o_some (e_bin addD (e_bin subD (e_var 2) (e_var 3)) (e_k (.int 1)))))))))
 s_nil)
def F__law_part : List D → List D → R D := runF 4 b__law_part
theorem ok__law_part (T : EP K mg) : OkF P w K mg base "_law_part" 1 ["_law_rows", "_law_first", "_law_last"] F__law_part := okf_of (T.def_ 30) (T.glo 43) bd__law_part sc__law_part fun _ cdv A outer s H E hr C =>
 (dss_cons (ds_ret (c_tuple (T.free 2) (de_of_df (df_comp C.calm C.nd (di_range2 (T.free 8) (de_var 1) (de_bin op_plus og_plus (de_var 2) de_int)) blk__law_part_0 ⟨fun s0 H0 a0 l0 p0 => (dg_name 3 (C.blk' s0 H0 cs__law_part_0 l0 a0 p0).nd), fun s0 H0 a0 l0 p0 => pts_nil', fun s0 H0 a0 l0 p0 => (de_slice (de_ix (fun _ _ => rfl) (de_var 0) (de_var 3)) do_none (do_some (de_bin op_plus og_plus (de_bin op_sub og_sub (de_var 2) (de_var 3)) de_int)))⟩))))
 dss_nil)
theorem sc_Task_init : FnScope ["self", "writes", "looks", "wrong"] ["self", "writes", "looks"] (defScope s_Task_init) := ⟨rfl, rfl, rfl, by decide +kernel, rfl, by decide +kernel, by decide +kernel⟩
theorem bd_Task_init : BindsOk s_Task_init "__init__" "Task.__init__" ["self", "writes", "looks"] := fun _ _ _ _ _ _ us hl => match us, hl with | [_, _, _], _ => rfl
def b_Task_init : SM :=
 (s_seq (s_if (t_or (t_not (t_val (e_un (isTy ["Task"] "tuple") (e_var 1)))) (t_not (t_val (e_chain leD leD (e_k (.int 1)) (e_len (e_var 1)) (e_k (.int 30)))))) (s_seq s_never
 s_nil) s_nil)
 (s_seq (s_set 3 (e_call F_first_wrong_row (a_cons (e_var 1) (a_cons (e_k (.int 0)) (a_cons (e_k (.int 1000000000)) a_nil)))))
 (s_seq (s_if (t_val (e_bin isNotD (e_var 3) (e_k .non))) (s_seq s_never
 s_nil) s_nil)
 (s_seq (s_if (t_or (t_not (t_val (e_un (isTy ["Task"] "tuple") (e_var 2)))) (t_val (e_bin neD (e_len (e_var 2)) (e_len (e_var 1))))) (s_seq s_never
 s_nil) s_nil)
 (s_seq (s_set 3 (e_call F_first_wrong_row (a_cons (e_var 2) (a_cons (e_k (.int 0)) (a_cons (e_k (.int 1000000000)) a_nil)))))
 (s_seq (s_if (t_val (e_bin isNotD (e_var 3) (e_k .non))) (s_seq s_never
 s_nil) s_nil)
 s_nil))))))
def F_Task_init : List D → List D → R (List (Str × D)) := initF 4 1 2 "writes" "looks" b_Task_init
theorem ok_Task_init (T : EP K mg) : OkMk P w K mg base "Task" 5 2 F_Task_init := okmk_of (T.def_ 33) (T.glo 52) (T.mkr 57) (T.cls 56) (T.noat 58) (T.noat 59) (by decide) bd_Task_init sc_Task_init rfl fun _ cdv A outer s H E hr C =>
 (dsk_cons (ds_if (dt_w (dw_or (dt_not (dt_val (c_isi (cs := ["Task"]) T.owns (T.free 11) (T.free 2) boot_tuple (by decide) (de_var 1)))) (dw_or1 (dt_not (dt_chain op_le op_le og_le og_le de_int (de_lenB (T.free 0) (db_of (de_var 1))) (de_gi (T.int 53))))))) (dss_cons ds_never
 dss_nil) dss_nil)
 (dsk_cons (ds_set 3 C.nd (de_callG C (ok_first_wrong_row T) hr (by decide) (da_cons (de_var 1) (da_cons de_int (da_cons (de_gi (T.int 54)) da_nil))) (len_cons (len_cons (len_cons len_nil)))))
 (dsk_cons (ds_if (dt_cmp op_notN og_isNot (nomark _) (de_var 3) de_non) (dss_cons ds_never
 dss_nil) dss_nil)
 (dsk_cons (ds_if (dt_w (dw_or (dt_not (dt_val (c_isi (cs := ["Task"]) T.owns (T.free 11) (T.free 2) boot_tuple (by decide) (de_var 2)))) (dw_or1 (dt_cmp (op_neD C.un) og_ne (nomark _) (de_lenB (T.free 0) (db_of (de_var 2))) (de_lenB (T.free 0) (db_of (de_var 1))))))) (dss_cons ds_never
 dss_nil) dss_nil)
 (dsk_cons (ds_set 3 C.nd (de_callG C (ok_first_wrong_row T) hr (by decide) (da_cons (de_var 2) (da_cons de_int (da_cons (de_gi (T.int 54)) da_nil))) (len_cons (len_cons (len_cons len_nil)))))
 (dsk_cons (ds_if (dt_cmp op_notN og_isNot (nomark _) (de_var 3) de_non) (dss_cons ds_never
 dss_nil) dss_nil)
 (dsk_base (pss_cons (ps_fld (pv 0) (pv 1) rfl) (pss_one (ps_fld (pv 0) (pv 2) rfl))))))))))
theorem sc_raw_task : FnScope ["writes", "looks", "task"] ["writes", "looks"] (defScope s_raw_task) := ⟨rfl, rfl, rfl, by decide +kernel, rfl, by decide +kernel, by decide +kernel⟩
theorem bd_raw_task : BindsOk s_raw_task "raw_task" "raw_task" ["writes", "looks"] := fun _ _ _ _ _ _ us hl => match us, hl with | [_, _], _ => rfl
def F_raw_task : List D → List D → R D := rawF "Task" "writes" "looks" (e1 tupleD (e_var 0)) (e1 tupleD (e_var 1))
theorem ok_raw_task (T : EP K mg) : OkF P w K mg base "raw_task" 7 ["writes", "looks"] F_raw_task := okf_raw (d1 := .tup [.tup [.int 0]]) (d2 := .tup [.tup [.int 0]]) (T.def_ 6) (T.glo 19) bd_raw_task sc_raw_task (T.cls 56) (T.noat 58) (T.noat 59) (by decide) (ok_Task_init T) (a0 := .tup [.tup [.int 0]]) (b0 := .tup [.tup [.int 0]]) (fun _ => by rfl) (fun _ _ => by rfl) rfl (by decide) (by decide) (by decide) fun cdv A outer s H E hr C =>
 ⟨(da_cons (de_tup (da_cons (de_tup (da_cons de_int da_nil) (len_cons len_nil)) da_nil) (len_cons len_nil)) (da_cons (de_tup (da_cons (de_tup (da_cons de_int da_nil) (len_cons len_nil)) da_nil) (len_cons len_nil)) da_nil)), (c_tuple (T.free 2) (de_var 0)), (c_tuple (T.free 2) (de_var 1)), rfl, rfl, rfl, rfl, .inl rfl, .inl rfl, .inl rfl, rfl, rfl⟩
theorem sc_sized_task : FnScope ["sizes", "look", "hours", "writes", "first", "last"] ["sizes", "look"] (defScope s_sized_task) := ⟨rfl, rfl, rfl, by decide +kernel, rfl, by decide +kernel, by decide +kernel⟩
theorem bd_sized_task : BindsOk s_sized_task "sized_task" "sized_task" ["sizes", "look"] := fun _ _ _ _ _ _ us hl => match us, hl with | [_, _], _ => rfl
def cs_sized_task_0 : Scope := { kind := .function, names := [(".0", .«local»), ("first", .cell), ("tuple", .globalImplicit), ("range", .globalImplicit), ("hours", .free), ("sizes", .free)], isGenerator := false, isCoroutine := false, more := [] }
theorem blk_sized_task_0 : BlkOk ["sizes", "look", "hours", "writes", "first", "last"] (defScope s_sized_task) cs_sized_task_0 [("first", 4)] := ⟨rfl, by decide +kernel, by decide +kernel, by decide +kernel, by decide +kernel⟩
def cs_sized_task_1 : Scope := { kind := .function, names := [(".0", .«local»), ("last", .«local»), ("sum", .globalImplicit), ("first", .free), ("sizes", .free)], isGenerator := false, isCoroutine := false, more := [] }
theorem blk_sized_task_1 : BlkOk ["sizes", "look", "hours", "writes", "first", "last"] (relS cs_sized_task_0 (defScope s_sized_task)) cs_sized_task_1 [("last", 5)] := ⟨rfl, by decide +kernel, by decide +kernel, by decide +kernel, by decide +kernel⟩
def cs_sized_task_2 : Scope := { kind := .function, names := [(".0", .«local»), ("first", .«local»), ("hours", .free), ("look", .free)], isGenerator := false, isCoroutine := false, more := [] }
theorem blk_sized_task_2 : BlkOk ["sizes", "look", "hours", "writes", "first", "last"] (defScope s_sized_task) cs_sized_task_2 [("first", 4)] := ⟨rfl, by decide +kernel, by decide +kernel, by decide +kernel, by decide +kernel⟩
def b_sized_task : SM :=
 (s_seq (s_set 2 (e_len (e_var 0)))
 (s_seq (s_seto 3 (l_comp (i_range (a_cons (e_var 2) a_nil)) [4] (g_name 4) t_yes (e1 tupleD (e_lst (l_comp (i_range (a_cons (e_var 4) (a_cons (e_var 2) a_nil))) [5] (g_name 5) t_yes (e1 sumD (e_slice (e_var 0) (o_some (e_var 4)) (o_some (e_bin addD (e_var 5) (e_k (.int 1)))))))))))
 (s_seq (s_frz 3 (s_ret (e_call F_raw_task (a_cons (e_var 3) (a_cons (e_lst (l_comp (i_range (a_cons (e_var 2) a_nil)) [4] (g_name 4) t_yes (e_bin mulD (e_tup (a_cons (e_var 1) a_nil)) (e_bin subD (e_var 2) (e_var 4))))) a_nil)))))
 s_nil)))
def F_sized_task : List D → List D → R D := runF 6 b_sized_task
theorem ok_sized_task (T : EP K mg) : OkF P w K mg base "sized_task" 8 ["sizes", "look"] F_sized_task := okf_of (T.def_ 9) (T.glo 22) bd_sized_task sc_sized_task fun _ cdv A outer s H E hr C =>
 (dss_cons (ds_set 2 C.nd (de_lenB (T.free 0) (db_of (de_var 0))))
 (dss_cons (ds_setLc 3 C.calm C.nd rfl (di_range1 (T.free 8) (de_var 2)) blk_sized_task_0 ⟨fun s0 H0 a0 l0 p0 => (dg_name 4 (C.blk' s0 H0 cs_sized_task_0 l0 a0 p0).nd), fun s0 H0 a0 l0 p0 => pts_nil', fun s0 H0 a0 l0 p0 => (c_tuple (T.free 2) (de_of_df (df_comp (C.blk' s0 H0 cs_sized_task_0 l0 a0 p0).calm (C.blk' s0 H0 cs_sized_task_0 l0 a0 p0).nd (di_range2 (T.free 8) (de_var 4) (de_var 2)) blk_sized_task_1 ⟨fun s1 H1 a1 l1 p1 => (dg_name 5 ((C.blk' s0 H0 cs_sized_task_0 l0 a0 p0).blk' s1 H1 cs_sized_task_1 l1 a1 p1).nd), fun s1 H1 a1 l1 p1 => pts_nil', fun s1 H1 a1 l1 p1 => (c_sum ((C.blk' s0 H0 cs_sized_task_0 l0 a0 p0).blk' s1 H1 cs_sized_task_1 l1 a1 p1) (T.free 5) (de_slice (de_var 0) (do_some (de_var 4)) (do_some (de_bin op_plus og_plus (de_var 5) de_int))))⟩)))⟩)
 (dss_cons (ds_frz 3 (ds_ret (de_callG C (ok_raw_task T) hr (by decide) (da_cons (de_var 3) (da_cons (de_of_df (df_comp C.calm C.nd (di_range1 (T.free 8) (de_var 2)) blk_sized_task_2 ⟨fun s0 H0 a0 l0 p0 => (dg_name 4 (C.blk' s0 H0 cs_sized_task_2 l0 a0 p0).nd), fun s0 H0 a0 l0 p0 => pts_nil', fun s0 H0 a0 l0 p0 => (de_bin op_times og_times (de_tup (da_cons (de_var 1) da_nil) (len_cons len_nil)) (de_bin op_sub og_sub (de_var 2) (de_var 4)))⟩)) da_nil)) (len_cons (len_cons len_nil)))))
 dss_nil)))
theorem sc_task_of_sizes : FnScope ["sizes", "look"] ["sizes", "look"] (defScope s_task_of_sizes) := ⟨rfl, rfl, rfl, by decide +kernel, rfl, by decide +kernel, by decide +kernel⟩
theorem bd_task_of_sizes : BindsOk s_task_of_sizes "task_of_sizes" "task_of_sizes" ["sizes", "look"] := fun _ _ _ _ _ _ us hl => match us, hl with | [_, _], _ => rfl
def b_task_of_sizes : SM :=
 (s_seq (s_if (t_or (t_not (t_val (e_un (isTy ["Task"] "tuple") (e_var 0)))) (t_or (t_not (t_val (e_chain leD leD (e_k (.int 1)) (e_len (e_var 0)) (e_k (.int 30))))) (t_not (t_val (e_call F_is_row (a_cons (e_var 0) (a_cons (e_len (e_var 0)) (a_cons (e_k (.int 0)) (a_cons (e_k (.int 1000000)) a_nil))))))))) (s_seq s_never
 s_nil) s_nil)
 (s_seq (s_expr (e_call F_check_number (a_cons (e_var 1) (a_cons (e_k (.int 0)) (a_cons (e_k (.int 1000000)) a_nil)))))
 (s_seq (s_ret (e_call F_sized_task (a_cons (e_var 0) (a_cons (e_var 1) a_nil))))
 s_nil)))
def F_task_of_sizes : List D → List D → R D := runF 2 b_task_of_sizes
theorem ok_task_of_sizes (T : EP K mg) : OkF P w K mg base "task_of_sizes" 9 ["sizes", "look"] F_task_of_sizes := okf_of (T.def_ 10) (T.glo 23) bd_task_of_sizes sc_task_of_sizes fun _ cdv A outer s H E hr C =>
 (dss_cons (ds_if (dt_w (dw_or (dt_not (dt_val (c_isi (cs := ["Task"]) T.owns (T.free 11) (T.free 2) boot_tuple (by decide) (de_var 0)))) (dw_or (dt_not (dt_chain op_le op_le og_le og_le de_int (de_lenB (T.free 0) (db_of (de_var 0))) (de_gi (T.int 53)))) (dw_or1 (dt_not (dt_val (de_callG C (ok_is_row T) hr (by decide) (da_cons (de_var 0) (da_cons (de_lenB (T.free 0) (db_of (de_var 0))) (da_cons de_int (da_cons (de_gi (T.int 55)) da_nil)))) (len_cons (len_cons (len_cons (len_cons len_nil))))))))))) (dss_cons ds_never
 dss_nil) dss_nil)
 (dss_cons (ds_expr (de_callG C (ok_check_number T) hr (by decide) (da_cons (de_var 1) (da_cons de_int (da_cons (de_gi (T.int 55)) da_nil))) (len_cons (len_cons (len_cons len_nil)))))
 (dss_cons (ds_ret (de_callG C (ok_sized_task T) hr (by decide) (da_cons (de_var 0) (da_cons (de_var 1) da_nil)) (len_cons (len_cons len_nil))))
 dss_nil)))
theorem sc_part_of : FnScope ["task", "first", "last", "writes", "begin"] ["task", "first", "last"] (defScope s_part_of) := ⟨rfl, rfl, rfl, by decide +kernel, rfl, by decide +kernel, by decide +kernel⟩
theorem bd_part_of : BindsOk s_part_of "part_of" "part_of" ["task", "first", "last"] := fun _ _ _ _ _ _ us hl => match us, hl with | [_, _, _], _ => rfl
def cs_part_of_0 : Scope := { kind := .function, names := [(".0", .«local»), ("begin", .«local»), ("last", .free), ("task", .free)], isGenerator := false, isCoroutine := false, more := [] }
theorem blk_part_of_0 : BlkOk ["task", "first", "last", "writes", "begin"] (defScope s_part_of) cs_part_of_0 [("begin", 4)] := ⟨rfl, by decide +kernel, by decide +kernel, by decide +kernel, by decide +kernel⟩
def cs_part_of_1 : Scope := { kind := .function, names := [(".0", .«local»), ("begin", .«local»), ("last", .free), ("task", .free)], isGenerator := false, isCoroutine := false, more := [] }
theorem blk_part_of_1 : BlkOk ["task", "first", "last", "writes", "begin"] (defScope s_part_of) cs_part_of_1 [("begin", 4)] := ⟨rfl, by decide +kernel, by decide +kernel, by decide +kernel, by decide +kernel⟩
def b_part_of : SM :=
 (s_seq (s_seto 3 (l_comp (i_range (a_cons (e_var 1) (a_cons (e_bin addD (e_var 2) (e_k (.int 1))) a_nil))) [4] (g_name 4) t_yes (e_slice (e_bin ixD (e_un (fldD ["Task"] "writes") (e_var 0)) (e_var 4)) o_none (o_some (e_bin addD (e_bin subD (e_var 2) (e_var 4)) (e_k (.int 1)))))))
 (s_seq (s_frz 3 (s_ret (e_call F_raw_task (a_cons (e_var 3) (a_cons (e_lst (l_comp (i_range (a_cons (e_var 1) (a_cons (e_bin addD (e_var 2) (e_k (.int 1))) a_nil))) [4] (g_name 4) t_yes (e_slice (e_bin ixD (e_un (fldD ["Task"] "looks") (e_var 0)) (e_var 4)) o_none (o_some (e_bin addD (e_bin subD (e_var 2) (e_var 4)) (e_k (.int 1))))))) a_nil)))))
 s_nil))
def F_part_of : List D → List D → R D := runF 5 b_part_of
theorem ok_part_of (T : EP K mg) : OkF P w K mg base "part_of" 8 ["task", "first", "last"] F_part_of := okf_of (T.def_ 11) (T.glo 24) bd_part_of sc_part_of fun _ cdv A outer s H E hr C =>
 (dss_cons (ds_setLc 3 C.calm C.nd rfl (di_range2 (T.free 8) (de_var 1) (de_bin op_plus og_plus (de_var 2) de_int)) blk_part_of_0 ⟨fun s0 H0 a0 l0 p0 => (dg_name 4 (C.blk' s0 H0 cs_part_of_0 l0 a0 p0).nd), fun s0 H0 a0 l0 p0 => pts_nil', fun s0 H0 a0 l0 p0 => (de_slice (de_ix (fun _ _ => rfl) (de_fld (fld_Task_writes T) rfl (de_var 0)) (de_var 4)) do_none (do_some (de_bin op_plus og_plus (de_bin op_sub og_sub (de_var 2) (de_var 4)) de_int)))⟩)
 (dss_cons (ds_frz 3 (ds_ret (de_callG C (ok_raw_task T) hr (by decide) (da_cons (de_var 3) (da_cons (de_of_df (df_comp C.calm C.nd (di_range2 (T.free 8) (de_var 1) (de_bin op_plus og_plus (de_var 2) de_int)) blk_part_of_1 ⟨fun s0 H0 a0 l0 p0 => (dg_name 4 (C.blk' s0 H0 cs_part_of_1 l0 a0 p0).nd), fun s0 H0 a0 l0 p0 => pts_nil', fun s0 H0 a0 l0 p0 => (de_slice (de_ix (fun _ _ => rfl) (de_fld (fld_Task_looks T) rfl (de_var 0)) (de_var 4)) do_none (do_some (de_bin op_plus og_plus (de_bin op_sub og_sub (de_var 2) (de_var 4)) de_int)))⟩)) da_nil)) (len_cons (len_cons len_nil)))))
 dss_nil))
theorem sc_task_part : FnScope ["task", "first", "last"] ["task", "first", "last"] (defScope s_task_part) := ⟨rfl, rfl, rfl, by decide +kernel, rfl, by decide +kernel, by decide +kernel⟩
theorem bd_task_part : BindsOk s_task_part "task_part" "task_part" ["task", "first", "last"] := fun _ _ _ _ _ _ us hl => match us, hl with | [_, _, _], _ => rfl
def b_task_part : SM :=
 (s_seq (s_expr (e_call F_check_hour (a_cons (e_var 1) (a_cons (e_k (.int 0)) (a_cons (e_call F_length_of (a_cons (e_var 0) a_nil)) a_nil)))))
 (s_seq (s_expr (e_call F_check_hour (a_cons (e_var 2) (a_cons (e_var 1) (a_cons (e_call F_length_of (a_cons (e_var 0) a_nil)) a_nil)))))
 (s_seq (s_ret (e_call F_part_of (a_cons (e_var 0) (a_cons (e_var 1) (a_cons (e_var 2) a_nil)))))
 s_nil)))
def F_task_part : List D → List D → R D := runF 3 b_task_part
theorem ok_task_part (T : EP K mg) : OkF P w K mg base "task_part" 9 ["task", "first", "last"] F_task_part := okf_of (T.def_ 12) (T.glo 25) bd_task_part sc_task_part fun _ cdv A outer s H E hr C =>
 (dss_cons (ds_expr (de_callG C (ok_check_hour T) hr (by decide) (da_cons (de_var 1) (da_cons de_int (da_cons (de_callG C (ok_length_of T) hr (by decide) (da_cons (de_var 0) da_nil) (len_cons len_nil)) da_nil))) (len_cons (len_cons (len_cons len_nil)))))
 (dss_cons (ds_expr (de_callG C (ok_check_hour T) hr (by decide) (da_cons (de_var 2) (da_cons (de_var 1) (da_cons (de_callG C (ok_length_of T) hr (by decide) (da_cons (de_var 0) da_nil) (len_cons len_nil)) da_nil))) (len_cons (len_cons (len_cons len_nil)))))
 (dss_cons (ds_ret (de_callG C (ok_part_of T) hr (by decide) (da_cons (de_var 0) (da_cons (de_var 1) (da_cons (de_var 2) da_nil))) (len_cons (len_cons (len_cons len_nil)))))
 dss_nil)))
theorem sc_Task_eq : FnScope ["self", "other"] ["self", "other"] (defScope s_Task_eq) := ⟨rfl, rfl, rfl, by decide +kernel, rfl, by decide +kernel, by decide +kernel⟩
theorem bd_Task_eq : BindsOk s_Task_eq "__eq__" "Task.__eq__" ["self", "other"] := fun _ _ _ _ _ _ us hl => match us, hl with | [_, _], _ => rfl
def b_Task_eq : SM :=
 (s_seq (s_if (t_not (t_val (e_un (isOwn ["Task"] "Task") (e_var 1)))) (s_seq (s_ret (e_k (.bl false)))
 s_nil) s_nil)
 (s_seq (s_ret (e_and (e_bin eqD (e_un (fldD ["Task"] "writes") (e_var 0)) (e_un (fldD ["Task"] "writes") (e_var 1))) (e_bin eqD (e_un (fldD ["Task"] "looks") (e_var 0)) (e_un (fldD ["Task"] "looks") (e_var 1)))))
 s_nil))
def F_Task_eq : List D → List D → R D := runF 2 b_Task_eq
theorem ok_Task_eq (T : EP K mg) : OkEq P w K mg base "Task" 1 F_Task_eq := okeq_of (T.def_ 34) (T.glo 52) (T.meth 60) bd_Task_eq sc_Task_eq rfl fun _ cdv A outer s H E hr C =>
 (dss_cons (ds_if (dt_not (dt_val (c_isiC (cs := ["Task"]) T.owns (T.free 11) (T.glo 52) (by decide) (de_var 1)))) (dss_cons (ds_ret de_bl)
 dss_nil) dss_nil)
 (dss_cons (ds_ret (de_and (de_cmp (op_eqD C.un) og_eq (nomark _) (de_fld (fld_Task_writes T) rfl (de_var 0)) (de_fld (fld_Task_writes T) rfl (de_var 1))) (de_one (de_cmp (op_eqD C.un) og_eq (nomark _) (de_fld (fld_Task_looks T) rfl (de_var 0)) (de_fld (fld_Task_looks T) rfl (de_var 1))))))
 dss_nil))
theorem sc__law_draw : FnScope ["_law_hand_here", "_law_many", "_law_number", "_law_cell", "_law_digit"] ["_law_hand_here", "_law_many"] (defScope s__law_draw) := ⟨rfl, rfl, rfl, by decide +kernel, rfl, by decide +kernel, by decide +kernel⟩
theorem bd__law_draw : BindsOk s__law_draw "_law_draw" "_law_draw" ["_law_hand_here", "_law_many"] := fun _ _ _ _ _ _ us hl => match us, hl with | [_, _], _ => rfl
def b__law_draw : SM :=
 (s_seq (s_if (t_and (t_val (e_bin eqD (e_hix 0 (e_k (.int 2))) (e_k (.int 0)))) (t_val (e_bin ltD (e_hix 0 (e_k (.int 1))) (e_len (e_hix 0 (e_k (.int 0))))))) (s_seq (s_set 3 (e_bin ixD (e_hix 0 (e_k (.int 0))) (e_hix 0 (e_k (.int 1)))))
 (s_seq (s_hset 0 (e_k (.int 1)) (e_bin addD (e_hix 0 (e_k (.int 1))) (e_k (.int 1))))
 (s_seq (s_hset 0 (e_k (.int 3)) (e_bin modD (e1 intD (e_bin addD (e_bin addD (e_bin mulD (e_hix 0 (e_k (.int 3))) (e_k (.int 69621))) (e_var 3)) (e_k (.int 11)))) (e_k (.int 2147483629))))
 (s_seq (s_if (t_val (e_bin geD (e_var 3) (e_bin powD (e_k (.int 10)) (e_k (.int 18))))) (s_seq (s_hset 0 (e_k (.int 2)) (e_var 3))
 s_nil) s_nil)
 s_nil)))) s_nil)
 (s_seq (s_if (t_val (e_bin gtD (e_hix 0 (e_k (.int 2))) (e_k (.int 0)))) (s_seq (s_set 4 (e_bin modD (e1 intD (e_hix 0 (e_k (.int 2)))) (e_var 1)))
 (s_seq (s_hset 0 (e_k (.int 2)) (e_bin divD (e_hix 0 (e_k (.int 2))) (e_var 1)))
 (s_seq (s_ret (e_var 4))
 s_nil))) s_nil)
 (s_seq (s_hset 0 (e_k (.int 4)) (e_bin addD (e_hix 0 (e_k (.int 4))) (e_k (.int 1))))
 (s_seq (s_set 2 (e_bin modD (e1 intD (e_bin mulD (e1 intD (e_bin addD (e_hix 0 (e_k (.int 3))) (e_bin mulD (e_k (.int 7919)) (e_hix 0 (e_k (.int 4)))))) (e_k (.int 48271)))) (e_k (.int 2147483647))))
 (s_seq (s_set 2 (e_bin modD (e1 intD (e_bin mulD (e_var 2) (e_bin addD (e_bin divD (e_var 2) (e_k (.int 1009))) (e_k (.int 69621))))) (e_k (.int 2147483647))))
 (s_seq (s_set 2 (e_bin modD (e1 intD (e_bin mulD (e_var 2) (e_bin addD (e_bin divD (e_var 2) (e_k (.int 2003))) (e_k (.int 40692))))) (e_k (.int 2147483399))))
 (s_seq (s_ret (e_bin modD (e1 intD (e_bin divD (e_var 2) (e_k (.int 16)))) (e_var 1)))
 s_nil)))))))
def F__law_draw : List D → List D → R D := runF 5 b__law_draw
theorem ok__law_draw (T : EP K mg) : OkF P w K mg base "_law_draw" 1 ["_law_hand_here", "_law_many"] F__law_draw := okf_of (T.def_ 22) (T.glo 35) bd__law_draw sc__law_draw fun _ cdv A outer s H E hr C =>
 (dss_cons (ds_if (dt_w (dw_and (dt_cmp (op_eqD C.un) og_eq (nomark _) (de_hix 0 (fun _ _ => rfl) de_int) de_int) (dw_and1 (dt_cmp op_lt og_lt (nomark _) (de_hix 0 (fun _ _ => rfl) de_int) (de_lenB (T.free 0) (db_of (de_hix 0 (fun _ _ => rfl) de_int))))))) (dss_cons (ds_set 3 C.nd (de_ix (fun _ _ => rfl) (de_hix 0 (fun _ _ => rfl) de_int) (de_hix 0 (fun _ _ => rfl) de_int)))
 (dss_cons (ds_hset 0 (de_bin op_plus og_plus (de_hix 0 (fun _ _ => rfl) de_int) de_int) de_int)
 (dss_cons (ds_hset 0 (de_bin op_mod og_mod (c_int (T.free 1) (de_bin op_plus og_plus (de_bin op_plus og_plus (de_bin op_times og_times (de_hix 0 (fun _ _ => rfl) de_int) de_int) (de_var 3)) de_int)) de_int) de_int)
 (dss_cons (ds_if (dt_cmp op_ge og_ge (nomark _) (de_var 3) (de_bin op_pow og_pow de_int de_int)) (dss_cons (ds_hset 0 (de_var 3) de_int)
 dss_nil) dss_nil)
 dss_nil)))) dss_nil)
 (dss_cons (ds_if (dt_cmp op_gt og_gt (nomark _) (de_hix 0 (fun _ _ => rfl) de_int) de_int) (dss_cons (ds_set 4 C.nd (de_bin op_mod og_mod (c_int (T.free 1) (de_hix 0 (fun _ _ => rfl) de_int)) (de_var 1)))
 (dss_cons (ds_hset 0 (de_bin op_fdivW og_div (de_hix 0 (fun _ _ => rfl) de_int) (de_var 1)) de_int)
 (dss_cons (ds_ret (de_var 4))
 dss_nil))) dss_nil)
 (dss_cons (ds_hset 0 (de_bin op_plus og_plus (de_hix 0 (fun _ _ => rfl) de_int) de_int) de_int)
 (dss_cons (ds_set 2 C.nd (de_bin op_mod og_mod (c_int (T.free 1) (de_bin op_times og_times (c_int (T.free 1) (de_bin op_plus og_plus (de_hix 0 (fun _ _ => rfl) de_int) (de_bin op_times og_times de_int (de_hix 0 (fun _ _ => rfl) de_int)))) de_int)) de_int))
 (dss_cons (ds_set 2 C.nd (de_bin op_mod og_mod (c_int (T.free 1) (de_bin op_times og_times (de_var 2) (de_bin op_plus og_plus (de_bin op_fdivW og_div (de_var 2) de_int) de_int))) de_int))
 (dss_cons (ds_set 2 C.nd (de_bin op_mod og_mod (c_int (T.free 1) (de_bin op_times og_times (de_var 2) (de_bin op_plus og_plus (de_bin op_fdivW og_div (de_var 2) de_int) de_int))) de_int))
 (dss_cons (ds_ret (de_bin op_mod og_mod (c_int (T.free 1) (de_bin op_fdivW og_div (de_var 2) de_int)) (de_var 1)))
 dss_nil)))))))
theorem sc__law_is : FnScope ["_law_got", "_law_due", "_law_one", "_law_two"] ["_law_got", "_law_due"] (defScope s__law_is) := ⟨rfl, rfl, rfl, by decide +kernel, rfl, by decide +kernel, by decide +kernel⟩
theorem bd__law_is : BindsOk s__law_is "_law_is" "_law_is" ["_law_got", "_law_due"] := fun _ _ _ _ _ _ us hl => match us, hl with | [_, _], _ => rfl
def cs__law_is_0 : Scope := { kind := .function, names := [(".0", .«local»), ("_law_one", .«local»), ("_law_two", .«local»), ("_law_is", .globalImplicit)], isGenerator := false, isCoroutine := false, more := [] }
theorem blk__law_is_0 : BlkOk ["_law_got", "_law_due", "_law_one", "_law_two"] (defScope s__law_is) cs__law_is_0 [("_law_one", 2), ("_law_two", 3)] := ⟨rfl, by decide +kernel, by decide +kernel, by decide +kernel, by decide +kernel⟩
def b__law_is (rec : List D → List D → R D) : SM :=
 (s_seq (s_if (t_val (e_un (isTy2 ["Task"] "tuple" "list") (e_var 1))) (s_seq (s_if (t_or (t_val (e_bin neD (e_un (isTy ["Task"] "tuple") (e_var 0)) (e_un (isTy ["Task"] "tuple") (e_var 1)))) (t_not (t_val (e_un (isTy2 ["Task"] "tuple" "list") (e_var 0))))) (s_seq (s_ret (e_k (.bl false)))
 s_nil) s_nil)
 (s_seq (s_ret (e_and (e_bin eqD (e_len (e_var 0)) (e_len (e_var 1))) (e1 allD (e_lst (l_comp (i_zip (a_cons (e_var 0) (a_cons (e_var 1) a_nil))) [2, 3] (g_tup 2 (gs_cons (g_name 2) (gs_cons (g_name 3) gs_nil))) t_yes (e_call rec (a_cons (e_var 2) (a_cons (e_var 3) a_nil))))))))
 s_nil)) s_nil)
 (s_seq (s_ret (e_and (e_bin eqD (e_un (isTy ["Task"] "bool") (e_var 0)) (e_un (isTy ["Task"] "bool") (e_var 1))) (e_bin eqD (e_var 0) (e_var 1))))
 s_nil))
def F__law_is : Nat → List D → List D → R D
  | 0 => fun _ _ => .stuck
  | n + 1 => runF 4 (b__law_is (F__law_is n))
theorem ok__law_is (T : EP K mg) : ∀ n : Nat, OkF P w K mg base "_law_is" (1 + n) ["_law_got", "_law_due"] (F__law_is n)
  | 0 => OkF.zero (T.def_ 23) (T.glo 36) bd__law_is sc__law_is
  | n + 1 => okf_of (T.def_ 23) (T.glo 36) bd__law_is sc__law_is fun _ cdv A outer s H E hr C =>
   have ih := ok__law_is T n
 (dss_cons (ds_if (dt_val (de_isi2 (cs := ["Task"]) T.owns rfl (T.free 11) rfl (T.free 2) boot_tuple (by decide) rfl (T.free 3) boot_list (by decide) (de_var 1))) (dss_cons (ds_if (dt_w (dw_or (dt_cmp (op_neD C.un) og_ne (nomark _) (c_isi (cs := ["Task"]) T.owns (T.free 11) (T.free 2) boot_tuple (by decide) (de_var 0)) (c_isi (cs := ["Task"]) T.owns (T.free 11) (T.free 2) boot_tuple (by decide) (de_var 1))) (dw_or1 (dt_not (dt_val (de_isi2 (cs := ["Task"]) T.owns rfl (T.free 11) rfl (T.free 2) boot_tuple (by decide) rfl (T.free 3) boot_list (by decide) (de_var 0))))))) (dss_cons (ds_ret de_bl)
 dss_nil) dss_nil)
 (dss_cons (ds_ret (de_and (de_cmp (op_eqD C.un) og_eq (nomark _) (de_lenB (T.free 0) (db_of (de_var 0))) (de_lenB (T.free 0) (db_of (de_var 1)))) (de_one (c_all C (T.free 6) (de_of_df (df_comp C.calm C.nd (di_zip (T.free 10) (de_var 0) (de_var 1)) blk__law_is_0 ⟨fun s0 H0 a0 l0 p0 => (dg_tup (C.blk' s0 H0 cs__law_is_0 l0 a0 p0).calm (dgs_cons (dg_name 2 (C.blk' s0 H0 cs__law_is_0 l0 a0 p0).nd) (dgs_cons (dg_name 3 (C.blk' s0 H0 cs__law_is_0 l0 a0 p0).nd) dgs_nil))), fun s0 H0 a0 l0 p0 => pts_nil', fun s0 H0 a0 l0 p0 => (de_callG (C.blk' s0 H0 cs__law_is_0 l0 a0 p0) (ih) hr (by first | exact Nat.le_refl _ | exact Nat.le_trans (by decide) (Nat.le_add_right _ _)) (da_cons (de_var 2) (da_cons (de_var 3) da_nil)) (len_cons (len_cons len_nil)))⟩))))))
 dss_nil)) dss_nil)
 (dss_cons (ds_ret (de_and (de_cmp (op_eqD C.un) og_eq (nomark _) (c_isi (cs := ["Task"]) T.owns (T.free 11) (T.free 12) boot_bool (by decide) (de_var 0)) (c_isi (cs := ["Task"]) T.owns (T.free 11) (T.free 12) boot_bool (by decide) (de_var 1))) (de_one (de_cmp (op_eqD C.un) og_eq (nomark _) (de_var 0) (de_var 1)))))
 dss_nil))
theorem sc__law_triangle : FnScope ["_law_hand_here", "_law_hours", "_law_most", "_law_first", "_law_hour"] ["_law_hand_here", "_law_hours", "_law_most"] (defScope s__law_triangle) := ⟨rfl, rfl, rfl, by decide +kernel, rfl, by decide +kernel, by decide +kernel⟩
theorem bd__law_triangle : BindsOk s__law_triangle "_law_triangle" "_law_triangle" ["_law_hand_here", "_law_hours", "_law_most"] := fun _ _ _ _ _ _ us hl => match us, hl with | [_, _, _], _ => rfl
def cs__law_triangle_0 : Scope := { kind := .function, names := [(".0", .«local»), ("_law_first", .«local»), ("tuple", .globalImplicit), ("range", .globalImplicit), ("_law_hand_here", .free), ("_law_hours", .free), ("_law_most", .free)], isGenerator := false, isCoroutine := false, more := [] }
theorem blk__law_triangle_0 : BlkOk ["_law_hand_here", "_law_hours", "_law_most", "_law_first", "_law_hour"] (defScope s__law_triangle) cs__law_triangle_0 [("_law_first", 3)] := ⟨rfl, by decide +kernel, by decide +kernel, by decide +kernel, by decide +kernel⟩
def cs__law_triangle_1 : Scope := { kind := .function, names := [(".0", .«local»), ("_law_hour", .«local»), ("_law_draw", .globalImplicit), ("_law_hand_here", .free), ("_law_most", .free)], isGenerator := false, isCoroutine := false, more := [] }
theorem blk__law_triangle_1 : BlkOk ["_law_hand_here", "_law_hours", "_law_most", "_law_first", "_law_hour"] (relS cs__law_triangle_0 (defScope s__law_triangle)) cs__law_triangle_1 [("_law_hour", 4)] := ⟨rfl, by decide +kernel, by decide +kernel, by decide +kernel, by decide +kernel⟩
def b__law_triangle : SM :=
 (s_seq (s_ret (e1 tupleD (e_lst (l_comp (i_range (a_cons (e_var 1) a_nil)) [3] (g_name 3) t_yes (e1 tupleD (e_lst (l_comp (i_range (a_cons (e_var 3) (a_cons (e_var 1) a_nil))) [4] (g_name 4) t_yes (e_call F__law_draw (a_cons (e_var 0) (a_cons (e_bin addD (e_var 2) (e_k (.int 1))) a_nil))))))))))
 s_nil)
def F__law_triangle : List D → List D → R D := runF 5 b__law_triangle
theorem ok__law_triangle (T : EP K mg) : OkF P w K mg base "_law_triangle" 2 ["_law_hand_here", "_law_hours", "_law_most"] F__law_triangle := okf_of (T.def_ 24) (T.glo 37) bd__law_triangle sc__law_triangle fun _ cdv A outer s H E hr C =>
 (dss_cons (ds_ret (c_tuple (T.free 2) (de_of_df (df_comp C.calm C.nd (di_range1 (T.free 8) (de_var 1)) blk__law_triangle_0 ⟨fun s0 H0 a0 l0 p0 => (dg_name 3 (C.blk' s0 H0 cs__law_triangle_0 l0 a0 p0).nd), fun s0 H0 a0 l0 p0 => pts_nil', fun s0 H0 a0 l0 p0 => (c_tuple (T.free 2) (de_of_df (df_comp (C.blk' s0 H0 cs__law_triangle_0 l0 a0 p0).calm (C.blk' s0 H0 cs__law_triangle_0 l0 a0 p0).nd (di_range2 (T.free 8) (de_var 3) (de_var 1)) blk__law_triangle_1 ⟨fun s1 H1 a1 l1 p1 => (dg_name 4 ((C.blk' s0 H0 cs__law_triangle_0 l0 a0 p0).blk' s1 H1 cs__law_triangle_1 l1 a1 p1).nd), fun s1 H1 a1 l1 p1 => pts_nil', fun s1 H1 a1 l1 p1 => (de_callG ((C.blk' s0 H0 cs__law_triangle_0 l0 a0 p0).blk' s1 H1 cs__law_triangle_1 l1 a1 p1) (ok__law_draw T) hr (by decide) (da_cons (de_var 0) (da_cons (de_bin op_plus og_plus (de_var 2) de_int) da_nil)) (len_cons (len_cons len_nil)))⟩)))⟩))))
 dss_nil)
theorem sc__law_prices : FnScope ["_law_hand_here", "_law_hours", "_law_kind", "_law_most", "_law_zeros", "_law_sizes", "_law_hour"] ["_law_hand_here", "_law_hours"] (defScope s__law_prices) := ⟨rfl, rfl, rfl, by decide +kernel, rfl, by decide +kernel, by decide +kernel⟩
theorem bd__law_prices : BindsOk s__law_prices "_law_prices" "_law_prices" ["_law_hand_here", "_law_hours"] := fun _ _ _ _ _ _ us hl => match us, hl with | [_, _], _ => rfl
def cs__law_prices_0 : Scope := { kind := .function, names := [(".0", .«local»), ("_law_hour", .«local»), ("_law_draw", .globalImplicit), ("_law_hand_here", .free)], isGenerator := false, isCoroutine := false, more := [] }
theorem blk__law_prices_0 : BlkOk ["_law_hand_here", "_law_hours", "_law_kind", "_law_most", "_law_zeros", "_law_sizes", "_law_hour"] (defScope s__law_prices) cs__law_prices_0 [("_law_hour", 6)] := ⟨rfl, by decide +kernel, by decide +kernel, by decide +kernel, by decide +kernel⟩
def b__law_prices : SM :=
 (s_seq (s_set 2 (e_call F__law_draw (a_cons (e_var 0) (a_cons (e_k (.int 8)) a_nil))))
 (s_seq (s_if (t_val (e_bin eqD (e_var 2) (e_k (.int 0)))) (s_seq (s_set 4 (e_call F__law_triangle (a_cons (e_var 0) (a_cons (e_var 1) (a_cons (e_k (.int 0)) a_nil)))))
 (s_seq (s_ret (e_tup (a_cons (e_var 4) (a_cons (e_var 4) a_nil))))
 s_nil)) s_nil)
 (s_seq (s_if (t_val (e_bin ltD (e_var 2) (e_k (.int 3)))) (s_seq (s_seto 5 (l_comp (i_range (a_cons (e_var 1) a_nil)) [6] (g_name 6) t_yes (e_call F__law_draw (a_cons (e_var 0) (a_cons (e_k (.int 6)) a_nil)))))
 (s_seq (s_frz 5 (s_ret (e_tup (a_cons (e_call F__law_summed (a_cons (e_var 5) a_nil)) (a_cons (e_call F__law_triangle (a_cons (e_var 0) (a_cons (e_var 1) (a_cons (e_bin ixD (e_lst (a_cons (e_k (.int 2)) (a_cons (e_k (.int 4)) a_nil))) (e_bin subD (e_var 2) (e_k (.int 1)))) a_nil)))) a_nil)))))
 s_nil)) s_nil)
 (s_seq (s_set 3 (e_bin ixD (e_lst (a_cons (e_k (.int 1)) (a_cons (e_k (.int 3)) (a_cons (e_k (.int 9)) (a_cons (e_k (.int 60)) (a_cons (e_bin powD (e_k (.int 10)) (e_k (.int 9))) a_nil)))))) (e_bin subD (e_var 2) (e_k (.int 3)))))
 (s_seq (s_ret (e_tup (a_cons (e_call F__law_triangle (a_cons (e_var 0) (a_cons (e_var 1) (a_cons (e_var 3) a_nil)))) (a_cons (e_call F__law_triangle (a_cons (e_var 0) (a_cons (e_var 1) (a_cons (e_bin ixD (e_lst (a_cons (e_k (.int 1)) (a_cons (e_k (.int 2)) (a_cons (e_k (.int 9)) (a_cons (e_k (.int 20)) (a_cons (e_bin powD (e_k (.int 10)) (e_k (.int 9))) a_nil)))))) (e_bin subD (e_var 2) (e_k (.int 3)))) a_nil)))) a_nil))))
 s_nil)))))
def F__law_prices : List D → List D → R D := runF 7 b__law_prices
theorem ok__law_prices (T : EP K mg) : OkF P w K mg base "_law_prices" 3 ["_law_hand_here", "_law_hours"] F__law_prices := okf_of (T.def_ 26) (T.glo 39) bd__law_prices sc__law_prices fun _ cdv A outer s H E hr C =>
 (dss_cons (ds_set 2 C.nd (de_callG C (ok__law_draw T) hr (by decide) (da_cons (de_var 0) (da_cons de_int da_nil)) (len_cons (len_cons len_nil))))
 (dss_cons (ds_if (dt_cmp (op_eqD C.un) og_eq (nomark _) (de_var 2) de_int) (dss_cons (ds_set 4 C.nd (de_callG C (ok__law_triangle T) hr (by decide) (da_cons (de_var 0) (da_cons (de_var 1) (da_cons de_int da_nil))) (len_cons (len_cons (len_cons len_nil)))))
 (dss_cons (ds_ret (de_tup (da_cons (de_var 4) (da_cons (de_var 4) da_nil)) (len_cons (len_cons len_nil))))
 dss_nil)) dss_nil)
 (dss_cons (ds_if (dt_cmp op_lt og_lt (nomark _) (de_var 2) de_int) (dss_cons (ds_setLc 5 C.calm C.nd rfl (di_range1 (T.free 8) (de_var 1)) blk__law_prices_0 ⟨fun s0 H0 a0 l0 p0 => (dg_name 6 (C.blk' s0 H0 cs__law_prices_0 l0 a0 p0).nd), fun s0 H0 a0 l0 p0 => pts_nil', fun s0 H0 a0 l0 p0 => (de_callG (C.blk' s0 H0 cs__law_prices_0 l0 a0 p0) (ok__law_draw T) hr (by decide) (da_cons (de_var 0) (da_cons de_int da_nil)) (len_cons (len_cons len_nil)))⟩)
 (dss_cons (ds_frz 5 (ds_ret (de_tup (da_cons (de_callG C (ok__law_summed T) hr (by decide) (da_cons (de_var 5) da_nil) (len_cons len_nil)) (da_cons (de_callG C (ok__law_triangle T) hr (by decide) (da_cons (de_var 0) (da_cons (de_var 1) (da_cons (de_ix (fun _ _ => rfl) (de_lst (da_cons de_int (da_cons de_int da_nil)) (len_cons (len_cons len_nil))) (de_bin op_sub og_sub (de_var 2) de_int)) da_nil))) (len_cons (len_cons (len_cons len_nil)))) da_nil)) (len_cons (len_cons len_nil)))))
 dss_nil)) dss_nil)
 (dss_cons (ds_set 3 C.nd (de_ix (fun _ _ => rfl) (de_lst (da_cons de_int (da_cons de_int (da_cons de_int (da_cons de_int (da_cons (de_bin op_pow og_pow de_int de_int) da_nil))))) (len_cons (len_cons (len_cons (len_cons (len_cons len_nil)))))) (de_bin op_sub og_sub (de_var 2) de_int)))
 (dss_cons (ds_ret (de_tup (da_cons (de_callG C (ok__law_triangle T) hr (by decide) (da_cons (de_var 0) (da_cons (de_var 1) (da_cons (de_var 3) da_nil))) (len_cons (len_cons (len_cons len_nil)))) (da_cons (de_callG C (ok__law_triangle T) hr (by decide) (da_cons (de_var 0) (da_cons (de_var 1) (da_cons (de_ix (fun _ _ => rfl) (de_lst (da_cons de_int (da_cons de_int (da_cons de_int (da_cons de_int (da_cons (de_bin op_pow og_pow de_int de_int) da_nil))))) (len_cons (len_cons (len_cons (len_cons (len_cons len_nil)))))) (de_bin op_sub og_sub (de_var 2) de_int)) da_nil))) (len_cons (len_cons (len_cons len_nil)))) da_nil)) (len_cons (len_cons len_nil))))
 dss_nil)))))
theorem sc__law_plan : FnScope ["_law_hand_here", "_law_hours", "_law_most", "_law_found", "_law_begins_here", "_law_hour", "_law_stands", "_law_at"] ["_law_hand_here", "_law_hours", "_law_most"] (defScope s__law_plan) := ⟨rfl, rfl, rfl, by decide +kernel, rfl, by decide +kernel, by decide +kernel⟩
theorem bd__law_plan : BindsOk s__law_plan "_law_plan" "_law_plan" ["_law_hand_here", "_law_hours", "_law_most"] := fun _ _ _ _ _ _ us hl => match us, hl with | [_, _, _], _ => rfl
def b__law_plan : SM :=
 (s_seq (s_set 3 (e_tup a_nil))
 (s_seq (s_set 4 (e_tup a_nil))
 (s_seq (s_for (i_range (a_cons (e_var 1) a_nil)) (g_name 5) (s_seq (s_set 6 (e_bin addD (e_var 4) (e_tup (a_cons (e_var 5) a_nil))))
 (s_seq (s_set 7 (e_call F__law_draw (a_cons (e_var 0) (a_cons (e2 min2D (e_var 2) (e_len (e_var 6))) a_nil))))
 (s_seq (s_set 3 (e_bin addD (e_var 3) (e_tup (a_cons (e_bin ixD (e_var 6) (e_var 7)) a_nil))))
 (s_seq (s_set 4 (e_slice (e_var 6) o_none (o_some (e_bin addD (e_var 7) (e_k (.int 1))))))
 s_nil)))))
 (s_seq (s_ret (e_var 3))
 s_nil))))
def F__law_plan : List D → List D → R D := runF 8 b__law_plan
theorem ok__law_plan (T : EP K mg) : OkF P w K mg base "_law_plan" 2 ["_law_hand_here", "_law_hours", "_law_most"] F__law_plan := okf_of (T.def_ 28) (T.glo 41) bd__law_plan sc__law_plan fun _ cdv A outer s H E hr C =>
 (dss_cons (ds_set 3 C.nd (de_tup da_nil len_nil))
 (dss_cons (ds_set 4 C.nd (de_tup da_nil len_nil))
 (dss_cons (ds_for C (di_range1 (T.free 8) (de_var 1)) (dg_name 5 C.nd) (dss_cons (ds_set 6 C.nd (de_bin op_plus og_plus (de_var 4) (de_tup (da_cons (de_var 5) da_nil) (len_cons len_nil))))
 (dss_cons (ds_set 7 C.nd (de_callG C (ok__law_draw T) hr (by decide) (da_cons (de_var 0) (da_cons (c_min2 C (T.free 7) (de_var 2) (de_lenB (T.free 0) (db_of (de_var 6)))) da_nil)) (len_cons (len_cons len_nil))))
 (dss_cons (ds_set 3 C.nd (de_bin op_plus og_plus (de_var 3) (de_tup (da_cons (de_ix (fun _ _ => rfl) (de_var 6) (de_var 7)) da_nil) (len_cons len_nil))))
 (dss_cons (ds_set 4 C.nd (de_slice (de_var 6) do_none (do_some (de_bin op_plus og_plus (de_var 7) de_int))))
 dss_nil)))))
 (dss_cons (ds_ret (de_var 3))
 dss_nil))))
theorem sc__law_part_right : FnScope ["_law_hand_here", "_law_task", "_law_hours", "_law_first", "_law_last", "_law_part_here", "_law_many", "_law_plan_here", "_law_begin", "_law_end"] ["_law_hand_here", "_law_task", "_law_hours"] (defScope s__law_part_right) := ⟨rfl, rfl, rfl, by decide +kernel, rfl, by decide +kernel, by decide +kernel⟩
theorem bd__law_part_right : BindsOk s__law_part_right "_law_part_right" "_law_part_right" ["_law_hand_here", "_law_task", "_law_hours"] := fun _ _ _ _ _ _ us hl => match us, hl with | [_, _, _], _ => rfl
def b__law_part_right : SM :=
 (s_seq (s_set 3 (e_call F__law_draw (a_cons (e_var 0) (a_cons (e_var 2) a_nil))))
 (s_seq (s_set 4 (e_bin addD (e_var 3) (e_call F__law_draw (a_cons (e_var 0) (a_cons (e_bin subD (e_var 2) (e_var 3)) a_nil)))))
 (s_seq (s_set 5 (e_call F_task_part (a_cons (e_var 1) (a_cons (e_var 3) (a_cons (e_var 4) a_nil)))))
 (s_seq (s_if (t_or (t_not (t_val (e_un (isOwn ["Task"] "Task") (e_var 5)))) (t_not (t_val (e_call (F__law_is 8) (a_cons (e_un (fldD ["Task"] "writes") (e_var 5)) (a_cons (e_call F__law_part (a_cons (e_un (fldD ["Task"] "writes") (e_var 1)) (a_cons (e_var 3) (a_cons (e_var 4) a_nil)))) a_nil)))))) (s_seq (s_ret (e_k (.bl false)))
 s_nil) s_nil)
 (s_seq (s_if (t_not (t_val (e_call (F__law_is 8) (a_cons (e_un (fldD ["Task"] "looks") (e_var 5)) (a_cons (e_call F__law_part (a_cons (e_un (fldD ["Task"] "looks") (e_var 1)) (a_cons (e_var 3) (a_cons (e_var 4) a_nil)))) a_nil))))) (s_seq (s_ret (e_k (.bl false)))
 s_nil) s_nil)
 (s_seq (s_set 6 (e_bin addD (e_bin subD (e_var 4) (e_var 3)) (e_k (.int 1))))
 (s_seq (s_set 7 (e_call F__law_plan (a_cons (e_var 0) (a_cons (e_var 6) (a_cons (e_var 6) a_nil)))))
 (s_seq (s_if (t_not (t_val (e_call (F__law_is 8) (a_cons (e_call F_cost (a_cons (e_var 5) (a_cons (e_var 7) a_nil))) (a_cons (e_call F__law_cost (a_cons (e_var 1) (a_cons (e_var 3) (a_cons (e_var 7) a_nil)))) a_nil))))) (s_seq (s_ret (e_k (.bl false)))
 s_nil) s_nil)
 (s_seq (s_set 8 (e_call F__law_draw (a_cons (e_var 0) (a_cons (e_var 6) a_nil))))
 (s_seq (s_set 9 (e_bin addD (e_var 8) (e_call F__law_draw (a_cons (e_var 0) (a_cons (e_bin subD (e_var 6) (e_var 8)) a_nil)))))
 (s_seq (s_ret (e_eqO "Task" F_Task_eq (e_call F_task_part (a_cons (e_var 5) (a_cons (e_var 8) (a_cons (e_var 9) a_nil)))) (e_call F_task_part (a_cons (e_var 1) (a_cons (e_bin addD (e_var 3) (e_var 8)) (a_cons (e_bin addD (e_var 3) (e_var 9)) a_nil))))))
 s_nil)))))))))))
def F__law_part_right : List D → List D → R D := runF 10 b__law_part_right
theorem ok__law_part_right (T : EP K mg) : OkF P w K mg base "_law_part_right" 10 ["_law_hand_here", "_law_task", "_law_hours"] F__law_part_right := okf_of (T.def_ 31) (T.glo 44) bd__law_part_right sc__law_part_right fun _ cdv A outer s H E hr C =>
 (dss_cons (ds_set 3 C.nd (de_callG C (ok__law_draw T) hr (by decide) (da_cons (de_var 0) (da_cons (de_var 2) da_nil)) (len_cons (len_cons len_nil))))
 (dss_cons (ds_set 4 C.nd (de_bin op_plus og_plus (de_var 3) (de_callG C (ok__law_draw T) hr (by decide) (da_cons (de_var 0) (da_cons (de_bin op_sub og_sub (de_var 2) (de_var 3)) da_nil)) (len_cons (len_cons len_nil)))))
 (dss_cons (ds_set 5 C.nd (de_callG C (ok_task_part T) hr (by decide) (da_cons (de_var 1) (da_cons (de_var 3) (da_cons (de_var 4) da_nil))) (len_cons (len_cons (len_cons len_nil)))))
 (dss_cons (ds_if (dt_w (dw_or (dt_not (dt_val (c_isiC (cs := ["Task"]) T.owns (T.free 11) (T.glo 52) (by decide) (de_var 5)))) (dw_or1 (dt_not (dt_val (de_callG C (ok__law_is T 8) hr (by decide) (da_cons (de_fld (fld_Task_writes T) rfl (de_var 5)) (da_cons (de_callG C (ok__law_part T) hr (by decide) (da_cons (de_fld (fld_Task_writes T) rfl (de_var 1)) (da_cons (de_var 3) (da_cons (de_var 4) da_nil))) (len_cons (len_cons (len_cons len_nil)))) da_nil)) (len_cons (len_cons len_nil)))))))) (dss_cons (ds_ret de_bl)
 dss_nil) dss_nil)
 (dss_cons (ds_if (dt_not (dt_val (de_callG C (ok__law_is T 8) hr (by decide) (da_cons (de_fld (fld_Task_looks T) rfl (de_var 5)) (da_cons (de_callG C (ok__law_part T) hr (by decide) (da_cons (de_fld (fld_Task_looks T) rfl (de_var 1)) (da_cons (de_var 3) (da_cons (de_var 4) da_nil))) (len_cons (len_cons (len_cons len_nil)))) da_nil)) (len_cons (len_cons len_nil))))) (dss_cons (ds_ret de_bl)
 dss_nil) dss_nil)
 (dss_cons (ds_set 6 C.nd (de_bin op_plus og_plus (de_bin op_sub og_sub (de_var 4) (de_var 3)) de_int))
 (dss_cons (ds_set 7 C.nd (de_callG C (ok__law_plan T) hr (by decide) (da_cons (de_var 0) (da_cons (de_var 6) (da_cons (de_var 6) da_nil))) (len_cons (len_cons (len_cons len_nil)))))
 (dss_cons (ds_if (dt_not (dt_val (de_callG C (ok__law_is T 8) hr (by decide) (da_cons (de_callG C (ok_cost T) hr (by decide) (da_cons (de_var 5) (da_cons (de_var 7) da_nil)) (len_cons (len_cons len_nil))) (da_cons (de_callG C (ok__law_cost T) hr (by decide) (da_cons (de_var 1) (da_cons (de_var 3) (da_cons (de_var 7) da_nil))) (len_cons (len_cons (len_cons len_nil)))) da_nil)) (len_cons (len_cons len_nil))))) (dss_cons (ds_ret de_bl)
 dss_nil) dss_nil)
 (dss_cons (ds_set 8 C.nd (de_callG C (ok__law_draw T) hr (by decide) (da_cons (de_var 0) (da_cons (de_var 6) da_nil)) (len_cons (len_cons len_nil))))
 (dss_cons (ds_set 9 C.nd (de_bin op_plus og_plus (de_var 8) (de_callG C (ok__law_draw T) hr (by decide) (da_cons (de_var 0) (da_cons (de_bin op_sub og_sub (de_var 6) (de_var 8)) da_nil)) (len_cons (len_cons len_nil)))))
 (dss_cons (ds_ret (de_eqG C (ok_Task_eq T) hr (by decide) (de_callG C (ok_task_part T) hr (by decide) (da_cons (de_var 5) (da_cons (de_var 8) (da_cons (de_var 9) da_nil))) (len_cons (len_cons (len_cons len_nil)))) (de_callG C (ok_task_part T) hr (by decide) (da_cons (de_var 1) (da_cons (de_bin op_plus og_plus (de_var 3) (de_var 8)) (da_cons (de_bin op_plus og_plus (de_var 3) (de_var 9)) da_nil))) (len_cons (len_cons (len_cons len_nil))))))
 dss_nil)))))))))))
theorem sc_law : FnScope ["_law_script", "_law_hand_here", "_law_turn", "_law_hours", "_law_most", "_law_sizes", "_law_price", "_law_task", "_law_writes", "_law_looks", "_law_hour", "_law_first"] ["_law_script"] (defScope s_law) := ⟨rfl, rfl, rfl, by decide +kernel, rfl, by decide +kernel, by decide +kernel⟩
theorem bd_law : BindsOk s_law "law" "law" ["_law_script"] := fun _ _ _ _ _ _ us hl => match us, hl with | [_], _ => rfl
def cs_law_0 : Scope := { kind := .function, names := [(".0", .«local»), ("_law_hour", .«local»), ("_law_draw", .globalImplicit), ("_law_hand_here", .free), ("_law_most", .free)], isGenerator := false, isCoroutine := false, more := [] }
theorem blk_law_0 : BlkOk ["_law_script", "_law_hand_here", "_law_turn", "_law_hours", "_law_most", "_law_sizes", "_law_price", "_law_task", "_law_writes", "_law_looks", "_law_hour", "_law_first"] (defScope s_law) cs_law_0 [("_law_hour", 10)] := ⟨rfl, by decide +kernel, by decide +kernel, by decide +kernel, by decide +kernel⟩
def cs_law_1 : Scope := { kind := .function, names := [(".0", .«local»), ("_law_first", .«local»), ("_law_hours", .free), ("_law_price", .free)], isGenerator := false, isCoroutine := false, more := [] }
theorem blk_law_1 : BlkOk ["_law_script", "_law_hand_here", "_law_turn", "_law_hours", "_law_most", "_law_sizes", "_law_price", "_law_task", "_law_writes", "_law_looks", "_law_hour", "_law_first"] (defScope s_law) cs_law_1 [("_law_first", 11)] := ⟨rfl, by decide +kernel, by decide +kernel, by decide +kernel, by decide +kernel⟩
def b1_law : SM := (s_set 1 (e_call F__law_hand (a_cons (e_var 0) a_nil)))
def b_law : SM :=
 (s_seq (s_for (i_range (a_cons (e_k (.int 3)) a_nil)) (g_name 2) (s_seq (s_set 3 (e_bin ixD (e_lst (a_cons (e_bin addD (e_k (.int 1)) (e_call F__law_draw (a_cons (e_var 1) (a_cons (e_k (.int 8)) a_nil)))) (a_cons (e_k (.int 30)) a_nil))) (e1 intD (e_bin eqD (e_call F__law_draw (a_cons (e_var 1) (a_cons (e_k (.int 24)) a_nil))) (e_k (.int 0))))))
 (s_seq (s_set 4 (e_bin ixD (e_lst (a_cons (e_bin addD (e_bin powD (e_k (.int 10)) (e_k (.int 6))) (e_k (.int 1))) (a_cons (e_k (.int 4)) (a_cons (e_k (.int 2)) a_nil)))) (e_call F__law_draw (a_cons (e_var 1) (a_cons (e_k (.int 3)) a_nil)))))
 (s_seq (s_set 5 (e1 tupleD (e_lst (l_comp (i_range (a_cons (e_var 3) a_nil)) [10] (g_name 10) t_yes (e_call F__law_draw (a_cons (e_var 1) (a_cons (e_var 4) a_nil)))))))
 (s_seq (s_set 6 (e_call F__law_draw (a_cons (e_var 1) (a_cons (e_bin ixD (e_lst (a_cons (e_bin addD (e_bin powD (e_k (.int 10)) (e_k (.int 6))) (e_k (.int 1))) (a_cons (e_k (.int 3)) a_nil))) (e_call F__law_draw (a_cons (e_var 1) (a_cons (e_k (.int 2)) a_nil)))) a_nil))))
 (s_seq (s_set 7 (e_call F_task_of_sizes (a_cons (e_var 5) (a_cons (e_var 6) a_nil))))
 (s_seq (s_if (t_or (t_not (t_val (e_un (isOwn ["Task"] "Task") (e_var 7)))) (t_not (t_val (e_call (F__law_is 8) (a_cons (e_un (fldD ["Task"] "writes") (e_var 7)) (a_cons (e_call F__law_summed (a_cons (e_var 5) a_nil)) a_nil)))))) (s_seq (s_ret (e_k (.bl false)))
 s_nil) s_nil)
 (s_seq (s_if (t_not (t_val (e_call (F__law_is 8) (a_cons (e_un (fldD ["Task"] "looks") (e_var 7)) (a_cons (e1 tupleD (e_lst (l_comp (i_range (a_cons (e_var 3) a_nil)) [11] (g_name 11) t_yes (e_bin mulD (e_tup (a_cons (e_var 6) a_nil)) (e_bin subD (e_var 3) (e_var 11)))))) a_nil))))) (s_seq (s_ret (e_k (.bl false)))
 s_nil) s_nil)
 (s_seq (s_if (t_not (t_val (e_call F__law_part_right (a_cons (e_var 1) (a_cons (e_var 7) (a_cons (e_var 3) a_nil)))))) (s_seq (s_ret (e_k (.bl false)))
 s_nil) s_nil)
 (s_seq (s_unp (g_tup 2 (gs_cons (g_name 8) (gs_cons (g_name 9) gs_nil))) (e_call F__law_prices (a_cons (e_var 1) (a_cons (e_bin addD (e_k (.int 1)) (e_call F__law_draw (a_cons (e_var 1) (a_cons (e_k (.int 8)) a_nil)))) a_nil))))
 (s_seq (s_set 7 (e_make "Task" F_Task_init (a_cons (e_var 8) (a_cons (e_var 9) a_nil))))
 (s_seq (s_if (t_or (t_not (t_val (e_call F__law_part_right (a_cons (e_var 1) (a_cons (e_var 7) (a_cons (e_len (e_var 8)) a_nil)))))) (t_not (t_val (e_eqO "Task" F_Task_eq (e_call F_task_part (a_cons (e_var 7) (a_cons (e_k (.int 0)) (a_cons (e_bin subD (e_len (e_var 8)) (e_k (.int 1))) a_nil)))) (e_var 7))))) (s_seq (s_ret (e_k (.bl false)))
 s_nil) s_nil)
 (s_seq (s_if (t_or (t_val (e_bin neD (e_un (fldD ["Task"] "writes") (e_var 7)) (e_var 8))) (t_val (e_bin neD (e_un (fldD ["Task"] "looks") (e_var 7)) (e_var 9)))) (s_seq (s_ret (e_k (.bl false)))
 s_nil) s_nil)
 s_nil)))))))))))))
 (s_seq (s_ret (e_k (.bl true)))
 s_nil))
theorem ok_law (T : EP K mg) (h1 : ∀ ns : List Int, ns.length ≤ 63 → ∃ ρ1, b1_law (.val (.scr (ns.map .int)) :: List.replicate 11 .un) [] = .ok (.nx ρ1) [] ∧ ρ1[1]? = some (.val (.lst (hand0 ns))) ∧ ρ1.length = 12)
    (h2 : ∀ ns : List Int, ns.length ≤ 63 → ∃ h, b_law (.un :: .val .hnd :: List.replicate 10 .un) (hand0 ns) = .ok (.rt (.bl true)) h) {fd : FuncData} (F : FunD K "law" "law" (defArgs s_law) (defBody s_law) (defScope s_law) [] [] (He.ga K "law") fd) : FnOk P w K mg base (L2.CX P w) 11 (He.ga K "law") fd ["_law_script"] (spLaw K) :=
  DL.ok_law (fun_ofD F) sc_law rfl rfl h1 h2 fun cdv A outer s H E hr C => ⟨(ds_set 1 C.nd (de_callG C (ok__law_hand T) hr (by decide) (da_cons (de_var 0) da_nil) (len_cons len_nil))),
 (dss_cons (ds_for C (di_range1 (T.free 8) de_int) (dg_name 2 C.nd) (dss_cons (ds_set 3 C.nd (de_ix (fun _ _ => rfl) (de_lst (da_cons (de_bin op_plus og_plus de_int (de_callG C (ok__law_draw T) hr (by decide) (da_cons (de_var 1) (da_cons de_int da_nil)) (len_cons (len_cons len_nil)))) (da_cons de_int da_nil)) (len_cons (len_cons len_nil))) (c_int (T.free 1) (de_cmp (op_eqD C.un) og_eq (nomark _) (de_callG C (ok__law_draw T) hr (by decide) (da_cons (de_var 1) (da_cons de_int da_nil)) (len_cons (len_cons len_nil))) de_int))))
 (dss_cons (ds_set 4 C.nd (de_ix (fun _ _ => rfl) (de_lst (da_cons (de_bin op_plus og_plus (de_bin op_pow og_pow de_int de_int) de_int) (da_cons de_int (da_cons de_int da_nil))) (len_cons (len_cons (len_cons len_nil)))) (de_callG C (ok__law_draw T) hr (by decide) (da_cons (de_var 1) (da_cons de_int da_nil)) (len_cons (len_cons len_nil)))))
 (dss_cons (ds_set 5 C.nd (c_tuple (T.free 2) (de_of_df (df_comp C.calm C.nd (di_range1 (T.free 8) (de_var 3)) blk_law_0 ⟨fun s0 H0 a0 l0 p0 => (dg_name 10 (C.blk' s0 H0 cs_law_0 l0 a0 p0).nd), fun s0 H0 a0 l0 p0 => pts_nil', fun s0 H0 a0 l0 p0 => (de_callG (C.blk' s0 H0 cs_law_0 l0 a0 p0) (ok__law_draw T) hr (by decide) (da_cons (de_var 1) (da_cons (de_var 4) da_nil)) (len_cons (len_cons len_nil)))⟩))))
 (dss_cons (ds_set 6 C.nd (de_callG C (ok__law_draw T) hr (by decide) (da_cons (de_var 1) (da_cons (de_ix (fun _ _ => rfl) (de_lst (da_cons (de_bin op_plus og_plus (de_bin op_pow og_pow de_int de_int) de_int) (da_cons de_int da_nil)) (len_cons (len_cons len_nil))) (de_callG C (ok__law_draw T) hr (by decide) (da_cons (de_var 1) (da_cons de_int da_nil)) (len_cons (len_cons len_nil)))) da_nil)) (len_cons (len_cons len_nil))))
 (dss_cons (ds_set 7 C.nd (de_callG C (ok_task_of_sizes T) hr (by decide) (da_cons (de_var 5) (da_cons (de_var 6) da_nil)) (len_cons (len_cons len_nil))))
 (dss_cons (ds_if (dt_w (dw_or (dt_not (dt_val (c_isiC (cs := ["Task"]) T.owns (T.free 11) (T.glo 52) (by decide) (de_var 7)))) (dw_or1 (dt_not (dt_val (de_callG C (ok__law_is T 8) hr (by decide) (da_cons (de_fld (fld_Task_writes T) rfl (de_var 7)) (da_cons (de_callG C (ok__law_summed T) hr (by decide) (da_cons (de_var 5) da_nil) (len_cons len_nil)) da_nil)) (len_cons (len_cons len_nil)))))))) (dss_cons (ds_ret de_bl)
 dss_nil) dss_nil)
 (dss_cons (ds_if (dt_not (dt_val (de_callG C (ok__law_is T 8) hr (by decide) (da_cons (de_fld (fld_Task_looks T) rfl (de_var 7)) (da_cons (c_tuple (T.free 2) (de_of_df (df_comp C.calm C.nd (di_range1 (T.free 8) (de_var 3)) blk_law_1 ⟨fun s0 H0 a0 l0 p0 => (dg_name 11 (C.blk' s0 H0 cs_law_1 l0 a0 p0).nd), fun s0 H0 a0 l0 p0 => pts_nil', fun s0 H0 a0 l0 p0 => (de_bin op_times og_times (de_tup (da_cons (de_var 6) da_nil) (len_cons len_nil)) (de_bin op_sub og_sub (de_var 3) (de_var 11)))⟩))) da_nil)) (len_cons (len_cons len_nil))))) (dss_cons (ds_ret de_bl)
 dss_nil) dss_nil)
 (dss_cons (ds_if (dt_not (dt_val (de_callG C (ok__law_part_right T) hr (by decide) (da_cons (de_var 1) (da_cons (de_var 7) (da_cons (de_var 3) da_nil))) (len_cons (len_cons (len_cons len_nil)))))) (dss_cons (ds_ret de_bl)
 dss_nil) dss_nil)
 (dss_cons (ds_unp (de_callG C (ok__law_prices T) hr (by decide) (da_cons (de_var 1) (da_cons (de_bin op_plus og_plus de_int (de_callG C (ok__law_draw T) hr (by decide) (da_cons (de_var 1) (da_cons de_int da_nil)) (len_cons (len_cons len_nil)))) da_nil)) (len_cons (len_cons len_nil))) (dg_tup C.calm (dgs_cons (dg_name 8 C.nd) (dgs_cons (dg_name 9 C.nd) dgs_nil))))
 (dss_cons (ds_set 7 C.nd (de_makeG C (ok_Task_init T) hr (by decide) rfl (da_cons (de_var 8) (da_cons (de_var 9) da_nil)) (len_cons (len_cons len_nil))))
 (dss_cons (ds_if (dt_w (dw_or (dt_not (dt_val (de_callG C (ok__law_part_right T) hr (by decide) (da_cons (de_var 1) (da_cons (de_var 7) (da_cons (de_lenB (T.free 0) (db_of (de_var 8))) da_nil))) (len_cons (len_cons (len_cons len_nil)))))) (dw_or1 (dt_not (dt_eqG C (ok_Task_eq T) hr (by decide) (de_callG C (ok_task_part T) hr (by decide) (da_cons (de_var 7) (da_cons de_int (da_cons (de_bin op_sub og_sub (de_lenB (T.free 0) (db_of (de_var 8))) de_int) da_nil))) (len_cons (len_cons (len_cons len_nil)))) (de_var 7)))))) (dss_cons (ds_ret de_bl)
 dss_nil) dss_nil)
 (dss_cons (ds_if (dt_w (dw_or (dt_cmp (op_neD C.un) og_ne (nomark _) (de_fld (fld_Task_writes T) rfl (de_var 7)) (de_var 8)) (dw_or1 (dt_cmp (op_neD C.un) og_ne (nomark _) (de_fld (fld_Task_looks T) rfl (de_var 7)) (de_var 9))))) (dss_cons (ds_ret de_bl)
 dss_nil) dss_nil)
 dss_nil)))))))))))))
 (dss_cons (ds_ret de_bl)
 dss_nil))⟩
end
theorem v_is_integer {n : Int} {h : List D} : F_is_integer [.int n] h = .ok (.bl true) h := by
  unfold F_is_integer b_is_integer
  dsimp!
theorem v_is_within {n a b : Int} {h : List D} : F_is_within [.int n, .int a, .int b] h = .ok (.bl (decide (a ≤ n) && decide (n ≤ b))) h := by
  unfold F_is_within b_is_within
  by_cases c : a ≤ n <;> dsimp! [v_is_integer, c, decide_true, decide_false]
theorem w__law_draw {h : List D} {m : Int} (hh : HandOk h) (h0 : 0 < m) (h1 : m < 2 ^ 62) : Wp (F__law_draw [.hnd, .int m] h) fun d h' => HandOk h' ∧ ∃ n, d = .int n ∧ 0 ≤ n ∧ n < m := by
  unfold F__law_draw b__law_draw
  refine wp_run ?_
  refine wp_seq (fun fl h' => ∃ x, fl = .nx [.val .hnd, .val (.int m), .un, x, .un] ∧ HandOk h') ?_ ?_
  · obtain ⟨cells, i, big, s, c, rfl, hi⟩ := hh
    by_cases hb : big = 0 <;> by_cases hc : i < (cells.length : Int)
    · have hg := atI_lt (xs := nums cells) hi (by rw [nums_len]; exact hc)
      have hg2 : (nums cells)[i.toNat]'(by rw [nums_len]; omega) = .int (cells[i.toNat]'(by omega)) := by simp [nums]
      rw [hg2] at hg
      generalize cells[i.toNat]'(by omega) = cell at hg
      dsimp! [hb, decide_true, nums_len, hc, hg, mulD_r, modD_pos, Int.reducePow, Int.reduceLT, Int.reduceNeg]
      by_cases hd : (1000000000000000000 : Int) ≤ cell
      · dsimp! [hd, decide_true, at3, ix52]
        exact wp_ok.mpr ⟨_, rfl, cells, i + 1, cell, _, c, rfl, by omega⟩
      · dsimp! [hd, decide_false]
        exact wp_ok.mpr ⟨_, rfl, cells, i + 1, 0, _, c, rfl, by omega⟩
    all_goals
      dsimp! [hb, decide_true, decide_false, nums_len, hc]
      exact wp_ok.mpr ⟨_, rfl, cells, i, _, s, c, rfl, hi⟩
  · rintro fl h' ⟨x, rfl, cells, i, big, s, c, rfl, hi⟩
    by_cases hb : 0 < big
    · dsimp! [hb, decide_true, modD_pos h0, divD_pos h0 h1, ix52]
      exact wp_ok.mpr ⟨⟨cells, i, _, s, c, rfl, hi⟩, _, rfl, Int.emod_nonneg _ (by omega), Int.emod_lt_of_pos _ h0⟩
    · dsimp! [hb, decide_false, ix54, mulD_l, mulD_r, modD_pos, Int.reducePow, Int.reduceLT, Int.reduceNeg]
      generalize e1 : (s + 7919 * (c + 1)) * 48271 % 2147483647 = y1
      have b1 : 0 ≤ y1 := by omega
      have b2 : y1 < 2147483647 := by omega
      dsimp! [divD_pos, mulD_l (a := y1) (by omega) (by omega), modD_pos, Int.reducePow, Int.reduceLT]
      generalize e2 : y1 * (y1 / 1009 + 69621) % 2147483647 = y2
      have b3 : 0 ≤ y2 := by rw [← e2]; exact Int.emod_nonneg _ (by omega)
      have b4 : y2 < 2147483647 := by rw [← e2]; exact Int.emod_lt_of_pos _ (by omega)
      dsimp! [divD_pos, mulD_l (a := y2) (by omega) (by omega), modD_pos, modD_pos h0, Int.reducePow, Int.reduceLT]
      exact wp_ok.mpr ⟨⟨cells, i, _, s, _, rfl, hi⟩, _, rfl, Int.emod_nonneg _ (by omega), Int.emod_lt_of_pos _ h0⟩
theorem v_is_row {ns : List Int} {k a b : Int} {h : List D} (hl : ns.length ≤ 16777216) : F_is_row [row ns, .int k, .int a, .int b] h = .ok (.bl (decide ((ns.length : Int) = k) && ns.all fun n => decide (a ≤ n) && decide (n ≤ b))) h := by
  unfold F_is_row b_is_row
  by_cases hk : (ns.length : Int) = k
  · dsimp! [row, hk, hl]
    rw [show nums ns = ns.map D.int from rfl, compL_map (f := fun n => .bl (decide (a ≤ n) && decide (n ≤ b)))]
    · dsimp! [allD_map]
    · intro n hn
      exact ⟨_, rfl, by dsimp! [v_is_within]⟩
  · dsimp! [row, hk]
theorem v_first_wrong_row {rs : List (List Int)} {a b : Int} {h : List D} (hl : rs.length ≤ 1000) (hr : ∀ i r, rs[i]? = some r → r.length = rs.length - i ∧ ∀ x ∈ r, a ≤ x ∧ x ≤ b) : F_first_wrong_row [tri rs, .int a, .int b] h = .ok .non h := by
  unfold F_first_wrong_row b_first_wrong_row
  refine eq_of_wp (wp_run ?_)
  dsimp! [tri]
  refine wp_for (fun i ρ h' => h' = h ∧ ∃ s3 s4, ρ = [.val (tri rs), .val (.int a), .val (.int b), s3, s4]) ⟨rfl, _, _, rfl⟩ ?_ ?_
  · rintro i d ρ h' hd ⟨rfl, s3, s4, rfl⟩
    rw [enumL_get, List.getElem?_map] at hd
    cases e : rs[i]? with
    | none => rw [e] at hd; cases hd
    | some r =>
      rw [e] at hd
      cases hd
      obtain ⟨h1, h2⟩ := hr i r e
      have hi : i < rs.length := (List.getElem?_eq_some_iff.mp e).1
      have h3 : (r.all fun n => decide (a ≤ n) && decide (n ≤ b)) = true := List.all_eq_true.mpr fun x hx => by
        obtain ⟨c1, c2⟩ := h2 x hx
        simp [c1, c2]
      refine ⟨_, rfl, ?_⟩
      dsimp! [tri, v_is_row (ns := r) (by omega), h3, show ((r.length : Int) = (rs.length : Int) - (i : Int)) ↔ True from ⟨fun _ => trivial, fun _ => by omega⟩]
      exact wp_ok.mpr ⟨_, rfl, rfl, _, _, rfl⟩
  · rintro ρ h' ⟨rfl, s3, s4, rfl⟩
    dsimp!
    exact wp_ok.mpr ⟨rfl, rfl⟩
theorem v_check_number {n a b : Int} {h : List D} (h1 : a ≤ n) (h2 : n ≤ b) : F_check_number [.int n, .int a, .int b] h = .ok .non h := by
  unfold F_check_number b_check_number
  dsimp! [v_is_within, h1, h2]
theorem v_check_hour {n a b : Int} {h : List D} (h1 : a ≤ n) (h2 : n ≤ b - 1) : F_check_hour [.int n, .int a, .int b] h = .ok .non h := by
  unfold F_check_hour b_check_hour
  dsimp! [v_is_within, h1, h2]
/-- n rows, each shorter by one, of numbers within bounds -/
def TriOk (n : Nat) (lo hi : Int) (rs : List (List Int)) : Prop := rs.length = n ∧ ∀ i r, rs[i]? = some r → r.length = n - i ∧ ∀ x ∈ r, lo ≤ x ∧ x ≤ hi
def mkTask (w l : List (List Int)) : D := .ins "Task" [("writes", tri w), ("looks", tri l)]
theorem v_Task_init {n : Nat} {w l : List (List Int)} {h : List D} (hn : 1 ≤ n) (hn2 : n ≤ 30) (hw : TriOk n 0 1000000000 w) (hl : TriOk n 0 1000000000 l) : F_Task_init [tri w, tri l] h = .ok [("writes", tri w), ("looks", tri l)] h := by
  obtain ⟨w1, w2⟩ := hw
  obtain ⟨l1, l2⟩ := hl
  subst w1
  have e1 : (1 : Int) ≤ (w.length : Int) := by omega
  have e2 : (w.length : Int) ≤ 30 := by omega
  have f1 := fun h => v_first_wrong_row (h := h) (rs := w) (by omega) w2
  have f2 := fun h => v_first_wrong_row (h := h) (rs := l) (by omega) (by rw [l1]; exact l2)
  unfold F_Task_init b_Task_init initF
  unfold tri at f1 f2
  dsimp! [tri, e1, e2, f1, f2, l1]
theorem v_Task_eq {w l : List (List Int)} {h : List D} : F_Task_eq [mkTask w l, mkTask w l] h = .ok (.bl true) h := by
  unfold F_Task_eq b_Task_eq
  dsimp! [mkTask, tri_eq]
theorem v_raw_task {w l : List (List Int)} {a b : D} {h : List D} (ha : tupleD a = some (tri w)) (hb : tupleD b = some (tri l)) : F_raw_task [a, b] h = .ok (mkTask w l) h := by
  unfold F_raw_task rawF
  simp only [e1, e_app, a_cons, a_nil, e_var, List.getElem?_cons_zero, List.getElem?_cons_succ, R.b1, on1, ha, hb, R.l1, mkTask]
theorem v_length_of {w l : List (List Int)} {h : List D} : F_length_of [mkTask w l] h = .ok (.int (w.length : Int)) h := by
  unfold F_length_of b_length_of
  dsimp! [mkTask, tri]
theorem v_write_of {w l : List (List Int)} {i j : Nat} {r : List Int} {n : Int} {h : List D} (hr : w[i]? = some r) (hn : r[j - i]? = some n) (hij : i ≤ j) : F_write_of [mkTask w l, .int (i : Int), .int (j : Int)] h = .ok (.int n) h := by
  unfold F_write_of b_write_of
  dsimp! [mkTask, tri, at_map hr]
  rw [show (j : Int) - (i : Int) = ((j - i : Nat) : Int) by omega]
  dsimp! [at_nums hn]
/-- all runs of the sizes, summed -/
def sumTri (ns : List Int) : List (List Int) := (List.range ns.length).map fun f => (List.range (ns.length - f)).map fun j => ((ns.drop f).take (j + 1)).sum
def constTri (n : Nat) (p : Int) : List (List Int) := (List.range n).map fun f => List.replicate (n - f) p
theorem mul_one {p : Int} {n f : Nat} (h : f < n) (hn : n ≤ 1000) : mulD (.tup [.int p]) (.int ((n : Int) - (f : Int))) = some (row (List.replicate (n - f) p)) := by
  have e : (n : Int) - (f : Int) = ((n - f : Nat) : Int) := by omega
  rw [e]
  show (if ((n - f : Nat) : Int) = 1 then _ else _) = _
  by_cases c : n - f = 1
  · rw [if_pos (by omega), c]; rfl
  · rw [if_neg (by omega), if_pos ⟨by omega, by omega, by simp, by simp⟩]
    rw [Int.toNat_natCast]
    have : ∀ k : Nat, (List.replicate k [D.int p]).flatten = nums (List.replicate k p) := fun k => by
      induction k with
      | zero => rfl
      | succ k ih => rw [List.replicate_succ, List.flatten_cons, ih]; rfl
    rw [this]
theorem v_sized_task {ns : List Int} {p : Int} {h : List D} (hn : ns.length ≤ 1000) : F_sized_task [row ns, .int p] h = .ok (mkTask (sumTri ns) (constTri ns.length p)) h := by
  unfold F_sized_task b_sized_task
  have hz : ns.length ≤ 16777216 := by omega
  dsimp! [row, rangeD1 (n := ns.length) (by omega), hz]
  rw [compL_range (f := fun f => row ((List.range (ns.length - f)).map fun j => ((ns.drop f).take (j + 1)).sum))]
  · dsimp! [rangeD1 (n := ns.length) (by omega), hz]
    rw [compL_range (f := fun f => row (List.replicate (ns.length - f) p))]
    · dsimp!
      rw [v_raw_task (w := sumTri ns) (l := constTri ns.length p)]
      · dsimp!
      · simp only [tupleD, sumTri, tri, List.map_map]; rfl
      · simp only [tupleD, constTri, tri, List.map_map]; rfl
    · intro f hf
      refine ⟨_, rfl, ?_⟩
      dsimp! [mul_one hf (by omega)]
  · intro f hf
    refine ⟨_, rfl, ?_⟩
    have hz2 : ns.length - f ≤ 16777216 := by omega
    dsimp! [rangeD2 (a := f) (b := ns.length) (by omega) (by omega), hz2]
    rw [compL_range (f := fun j => .int ((ns.drop f).take (j + 1)).sum)]
    · dsimp! [row, nums, List.map_map]; rfl
    · intro j hj
      refine ⟨_, rfl, ?_⟩
      dsimp!
      rw [show (f : Int) + (j : Int) + 1 = ((f + j + 1 : Nat) : Int) by omega, cut_mid, nums_drop, nums_take, show f + j + 1 - f = j + 1 by omega]
      dsimp! [sumD_lst, sumD_tup]
theorem v_task_of_sizes {ns : List Int} {p : Int} {h : List D} (h1 : 1 ≤ ns.length) (h2 : ns.length ≤ 30) (h3 : ∀ n ∈ ns, 0 ≤ n ∧ n ≤ 1000000) (h4 : 0 ≤ p) (h5 : p ≤ 1000000) : F_task_of_sizes [row ns, .int p] h = .ok (mkTask (sumTri ns) (constTri ns.length p)) h := by
  have e1 : (1 : Int) ≤ (ns.length : Int) := by omega
  have e2 : (ns.length : Int) ≤ 30 := by omega
  have e3 : (ns.all fun n => decide (0 ≤ n) && decide (n ≤ 1000000)) = true := List.all_eq_true.mpr fun n hn => by
    obtain ⟨a, b⟩ := h3 n hn
    simp [a, b]
  have f1 := fun h => v_is_row (ns := ns) (k := (ns.length : Int)) (a := 0) (b := 1000000) (h := h) (by omega)
  have f2 := fun h => v_sized_task (ns := ns) (p := p) (h := h) (by omega)
  unfold row at f1 f2
  unfold F_task_of_sizes b_task_of_sizes
  dsimp! [row, e1, e2, f1, e3, v_check_number h4 h5, f2]
/-- the part of a triangle from f to l -/
def partTri (rs : List (List Int)) (f l : Nat) : List (List Int) := (List.range (l + 1 - f)).map fun i => (rs.getD (f + i) []).take (l - (f + i) + 1)
theorem v_part_of {w l : List (List Int)} {a b : Nat} {h : List D} (hab : a ≤ b) (hb : b < w.length) (hl : l.length = w.length) (hz : w.length ≤ 1000) : F_part_of [mkTask w l, .int (a : Int), .int (b : Int)] h = .ok (mkTask (partTri w a b) (partTri l a b)) h := by
  have key : ∀ (rs : List (List Int)) (i : Nat), rs.length = w.length → i < b + 1 - a → atI (rs.map row) ((a : Int) + (i : Int)) = some (row (rs.getD (a + i) [])) := fun rs i hr hi => by
    have e : rs[a + i]? = some (rs.getD (a + i) []) := by
      rw [List.getD_eq_getElem?_getD, List.getElem?_eq_getElem (by omega)]; rfl
    rw [show (a : Int) + (i : Int) = ((a + i : Nat) : Int) by omega, at_map e]
  have hz2 : b + 1 - a ≤ 16777216 := by omega
  have rg : rangeD [D.int (a : Int), D.int ((b : Int) + 1)] = some (rangeL a (b + 1 - a)) := by
    rw [show (b : Int) + 1 = ((b + 1 : Nat) : Int) by omega, rangeD2 (by omega) (by omega)]
  unfold F_part_of b_part_of
  dsimp! [mkTask, tri, rg, hz2]
  rw [compL_range (f := fun i => row ((w.getD (a + i) []).take (b - (a + i) + 1)))]
  · dsimp! [rg, hz2]
    rw [compL_range (f := fun i => row ((l.getD (a + i) []).take (b - (a + i) + 1)))]
    · dsimp!
      rw [v_raw_task (w := partTri w a b) (l := partTri l a b)]
      · dsimp! [mkTask, tri]
      · simp only [tupleD, partTri, tri, List.map_map]; rfl
      · simp only [tupleD, partTri, tri, List.map_map]; rfl
    · intro i hi
      refine ⟨_, rfl, ?_⟩
      dsimp! [key l i hl hi, row]
      rw [show (b : Int) - ((a : Int) + (i : Int)) + 1 = ((b - (a + i) + 1 : Nat) : Int) by omega, cut_take, nums_take]
  · intro i hi
    refine ⟨_, rfl, ?_⟩
    dsimp! [key w i rfl hi, row]
    rw [show (b : Int) - ((a : Int) + (i : Int)) + 1 = ((b - (a + i) + 1 : Nat) : Int) by omega, cut_take, nums_take]
theorem v_task_part {w l : List (List Int)} {a b : Nat} {h : List D} (hab : a ≤ b) (hb : b < w.length) (hl : l.length = w.length) (hz : w.length ≤ 1000) : F_task_part [mkTask w l, .int (a : Int), .int (b : Int)] h = .ok (mkTask (partTri w a b) (partTri l a b)) h := by
  unfold F_task_part b_task_part
  dsimp! [v_length_of, v_check_hour (n := (a : Int)) (a := 0) (b := (w.length : Int)) (by omega) (by omega), v_check_hour (n := (b : Int)) (a := (a : Int)) (b := (w.length : Int)) (by omega) (by omega), v_part_of hab hb hl hz]
theorem v_begins_next {bs : List Nat} {b : Nat} {h : List D} (hl : bs.length ≤ 1000) : F_begins_next [row (nat bs), .int (b : Int)] h = .ok (row (nat (nextB bs b))) h := by
  have hz : bs.length ≤ 16777216 := by omega
  unfold F_begins_next b_begins_next
  dsimp! [row, nat_len, hz]
  rw [show nums (nat bs) = bs.map (fun n : Nat => D.int (n : Int)) by simp [nums, nat], compL_fmap (f := fun n : Nat => D.int (n : Int)) (p := fun n => decide (n < b))]
  · have e : ((bs.filter fun n => decide (n < b)).map fun n : Nat => D.int (n : Int)) ++ [D.int (b : Int)] = nums (nat (nextB bs b)) := by simp [nextB, nums, nat]
    have hz2 : (bs.filter fun n => decide (n < b)).length + 1 ≤ 16777216 := by
      have := List.length_filter_le (fun n => decide (n < b)) bs
      omega
    dsimp! [hz2]
    rw [e]
  · intro n hn
    refine ⟨_, rfl, ?_, fun _ => by dsimp!⟩
    dsimp!
    by_cases c : n < b
    · rw [decide_eq_true c, decide_eq_true (by omega)]
    · rw [decide_eq_false c, decide_eq_false (by omega)]
theorem v_is_plan_of {p : List Nat} {h : List D} (hp : Valid p) (hl : p.length ≤ 1000) : F_is_plan_of [.int (p.length : Int), row (nat p)] h = .ok (.bl true) h := by
  unfold F_is_plan_of b_is_plan_of
  refine eq_of_wp (wp_run ?_)
  dsimp! [row, nat_len]
  refine wp_for (fun i ρ h' => h' = h ∧ ∃ s3 s4, ρ = [.val (.int (p.length : Int)), .val (row (nat p)), .val (row (nat (stB (p.take i)))), s3, s4]) ⟨rfl, _, _, rfl⟩ ?_ ?_
  · rintro i d ρ h' hd ⟨rfl, s3, s4, rfl⟩
    rw [enumL_get, nums_get, nat_get] at hd
    cases e : p[i]? with
    | none => rw [e] at hd; cases hd
    | some b =>
      rw [e] at hd
      cases hd
      obtain ⟨h1, h2⟩ := hp i b e
      refine ⟨_, rfl, ?_⟩
      have hb : (b : Int) ≤ (i : Int) := by omega
      have hb0 : (0 : Int) ≤ (b : Int) := by omega
      have hlen : (stB (p.take i)).length ≤ 1000 := by
        have key : ∀ (q bs : List Nat), (q.foldl nextB bs).length ≤ bs.length + q.length := fun q => by
          induction q with
          | nil => intro bs; simp
          | cons c q ih =>
            intro bs
            have := ih (nextB bs c)
            have h3 : (nextB bs c).length ≤ bs.length + 1 := by
              unfold nextB
              have := List.length_filter_le (fun x => decide (x < c)) bs
              simp; omega
            simp only [List.foldl_cons, List.length_cons]; omega
        have := key (p.take i) []
        have h4 : (p.take i).length ≤ 1000 := by rw [List.length_take]; omega
        unfold stB
        simp only [List.length_nil] at this; omega
      have nx := fun h => v_begins_next (bs := stB (p.take i)) (b := b) (h := h) hlen
      rw [← stB_take e] at nx
      unfold row at nx
      by_cases c : b = i
      · subst c
        dsimp! [v_is_within, hb, hb0, nx]
        exact wp_ok.mpr ⟨_, rfl, rfl, _, _, rfl⟩
      · have c' : ¬ (b : Int) = (i : Int) := by omega
        have hm : ((b : Int) ∈ nat (stB (p.take i))) := nat_mem.mpr (h2.resolve_left c)
        have hm2 := notInD_row (ns := nat (stB (p.take i))) (a := (b : Int))
        unfold row at hm2
        dsimp! [v_is_within, hb, hb0, c', hm2, hm, nx]
        exact wp_ok.mpr ⟨_, rfl, rfl, _, _, rfl⟩
  · rintro ρ h' ⟨rfl, s3, s4, rfl⟩
    dsimp!
    exact wp_ok.mpr ⟨rfl, rfl⟩
theorem stB_len {p : List Nat} : (stB p).length ≤ p.length := by
  have key : ∀ (q bs : List Nat), (q.foldl nextB bs).length ≤ bs.length + q.length := fun q => by
    induction q with
    | nil => intro bs; simp
    | cons c q ih =>
      intro bs
      have := ih (nextB bs c)
      have h3 : (nextB bs c).length ≤ bs.length + 1 := by
        unfold nextB
        have := List.length_filter_le (fun x => decide (x < c)) bs
        simp; omega
      simp only [List.foldl_cons, List.length_cons]; omega
  have := key p []
  unfold stB
  simp only [List.length_nil] at this; omega
/-- what stands behind each hour -/
def stands (p : List Nat) : List (List Nat) := (List.range p.length).map fun i => stB (p.take (i + 1))
def rowsN (bs : List (List Nat)) : List D := bs.map fun b => row (nat b)
theorem v_begins_behind {p : List Nat} {h : List D} (hl : p.length ≤ 1000) : F_begins_behind [row (nat p)] h = .ok (.lst (rowsN (stands p))) h := by
  unfold F_begins_behind b_begins_behind
  refine eq_of_wp (wp_run ?_)
  dsimp! [row, nat_len]
  refine wp_for (fun i ρ h' => h' = h ∧ i ≤ p.length ∧ ∃ s3, ρ = [.val (row (nat p)), .own (rowsN ((List.range i).map fun i => stB (p.take (i + 1)))), .val (row (nat (stB (p.take i)))), s3]) ⟨rfl, Nat.zero_le _, _, rfl⟩ ?_ ?_
  · rintro i d ρ h' hd ⟨rfl, hi, s3, rfl⟩
    rw [nums_get, nat_get] at hd
    cases e : p[i]? with
    | none => rw [e] at hd; cases hd
    | some b =>
      rw [e] at hd
      cases hd
      have hi2 : i < p.length := (List.getElem?_eq_some_iff.mp e).1
      refine ⟨_, rfl, ?_⟩
      have hlen : (stB (p.take i)).length ≤ 1000 := by
        have := stB_len (p := p.take i)
        rw [List.length_take] at this; omega
      have nx := fun h => v_begins_next (bs := stB (p.take i)) (b := b) (h := h) hlen
      rw [← stB_take e] at nx
      unfold row at nx
      have hz : i < 16777216 := by omega
      dsimp! [nx, rowsN, List.length_range, hz]
      refine wp_ok.mpr ⟨_, rfl, rfl, by omega, .val (.int (b : Int)), ?_⟩
      rw [List.range_succ, List.map_append, List.map_append]; rfl
  · rintro ρ h' ⟨rfl, hi, s3, rfl⟩
    dsimp!
    refine wp_ok.mpr ⟨?_, rfl⟩
    unfold stands
    rw [nat_len]
theorem v_check_plan_for {w l : List (List Int)} {p : List Nat} {h : List D} (hp : Valid p) (hl : p.length ≤ 1000) (hw : w.length = p.length) : F_check_plan_for [mkTask w l, row (nat p)] h = .ok .non h := by
  unfold F_check_plan_for b_check_plan_for
  have e := fun h => v_is_plan_of (h := h) hp hl
  dsimp! [v_length_of, hw, e]
/-- the number at hour j of the run that began at b -/
def tAt (rs : List (List Int)) (b j : Nat) : Int := (rs.getD b []).getD (j - b) 0
theorem tAt_get {n : Nat} {lo hi : Int} {rs : List (List Int)} (ht : TriOk n lo hi rs) {b j : Nat} (hb : b ≤ j) (hj : j < n) : ∃ r, rs[b]? = some r ∧ r[j - b]? = some (tAt rs b j) := by
  obtain ⟨h1, h2⟩ := ht
  have e : rs[b]? = some (rs.getD b []) := by rw [List.getD_eq_getElem?_getD, List.getElem?_eq_getElem (by omega)]; rfl
  obtain ⟨h3, _⟩ := h2 b _ e
  refine ⟨_, e, ?_⟩
  unfold tAt
  rw [List.getD_eq_getElem?_getD (l := rs.getD b []), List.getElem?_eq_getElem (by omega)]; rfl
theorem v_writing_of {n : Nat} {lo hi : Int} {w l : List (List Int)} {p : List Nat} {h : List D} (hp : Valid p) (hn : p.length = n) (hl : n ≤ 1000) (hw : TriOk n lo hi w) : F_writing_of [mkTask w l, row (nat p)] h = .ok (.lst (nums ((List.range n).map fun i => tAt w (p.getD i 0) i))) h := by
  have hz : p.length ≤ 16777216 := by omega
  unfold F_writing_of b_writing_of
  dsimp! [row, enumL_len, nat_len, hz]
  have e : enumL (nums (nat p)) = (List.range n).map fun i : Nat => D.tup [.int (i : Int), .int ((p.getD i 0 : Nat) : Int)] := by
    apply List.ext_getElem?
    intro i
    rw [enumL_get, nums_get, nat_get, List.getElem?_map]
    by_cases c : i < n
    · rw [List.getElem?_range c, List.getElem?_eq_getElem (by omega)]
      simp [List.getD_eq_getElem?_getD, List.getElem?_eq_getElem (show i < p.length by omega)]
    · rw [List.getElem?_eq_none (by omega), List.getElem?_eq_none (by simp; omega)]; rfl
  rw [e, compL_map (f := fun i => .int (tAt w (p.getD i 0) i))]
  · dsimp! [nums, List.map_map]; rfl
  · intro i hi
    have hi := List.mem_range.mp hi
    have ei : p[i]? = some (p.getD i 0) := by rw [List.getD_eq_getElem?_getD, List.getElem?_eq_getElem (by omega)]; rfl
    obtain ⟨h1, _⟩ := hp i _ ei
    obtain ⟨r, g1, g2⟩ := tAt_get hw h1 hi
    refine ⟨_, rfl, ?_⟩
    dsimp! [v_write_of g1 g2 h1]
theorem stands_get {p : List Nat} {i : Nat} : (stands p)[i]? = if i < p.length then some (stB (p.take (i + 1))) else none := by
  unfold stands
  rw [List.getElem?_map]
  by_cases c : i < p.length
  · rw [List.getElem?_range c, if_pos c]; rfl
  · rw [List.getElem?_eq_none (by simp; omega), if_neg c]; rfl
/-- what the looks of an hour cost -/
def lookAt (rs : List (List Int)) (p : List Nat) (i : Nat) : Int := ((stB (p.take (i + 1))).map fun b => tAt rs b i).sum
theorem stB_le {p : List Nat} (hp : Valid p) {i x : Nat} (h : x ∈ stB (p.take (i + 1))) : x ≤ i := by
  obtain ⟨j, hj, e⟩ := List.mem_iff_getElem.mp (stB_mem h)
  have hj2 : j < p.length ∧ j < i + 1 := by
    rw [List.length_take] at hj; omega
  have e2 : p[j]? = some x := by
    rw [List.getElem?_eq_getElem hj2.1, ← e]; simp
  have := (hp j x e2).1
  omega
theorem v_looking_of {n : Nat} {lo hi : Int} {w l : List (List Int)} {p : List Nat} {h : List D} (hp : Valid p) (hn : p.length = n) (hl : n ≤ 1000) (ht : TriOk n lo hi l) : F_looking_of [mkTask w l, .lst (rowsN (stands p))] h = .ok (.lst (nums ((List.range n).map (lookAt l p)))) h := by
  unfold F_looking_of b_looking_of
  refine eq_of_wp (wp_run ?_)
  dsimp!
  refine wp_for (fun i ρ h' => h' = h ∧ ∃ s3 s4 s5, ρ = [.val (mkTask w l), .val (.lst (rowsN (stands p))), .own (nums ((List.range i).map (lookAt l p))), s3, s4, s5]) ⟨rfl, _, _, _, rfl⟩ ?_ ?_
  · rintro i d ρ h' hd ⟨rfl, s3, s4, s5, rfl⟩
    rw [enumL_get, rowsN, List.getElem?_map, stands_get] at hd
    by_cases c : i < p.length
    · rw [if_pos c] at hd
      cases hd
      refine ⟨_, rfl, ?_⟩
      have hs : (stB (p.take (i + 1))).length ≤ 16777216 := by
        have := stB_len (p := p.take (i + 1))
        rw [List.length_take] at this; omega
      have hz : i < 16777216 := by omega
      dsimp! [row, nat_len, hs]
      rw [show nums (nat (stB (p.take (i + 1)))) = (stB (p.take (i + 1))).map (fun n : Nat => D.int (n : Int)) by simp [nums, nat], compL_map (f := fun b => .int (tAt l b i))]
      · have e : ((stB (p.take (i + 1))).map fun b => D.int (tAt l b i)) = nums ((stB (p.take (i + 1))).map fun b => tAt l b i) := by simp [nums]
        rw [e]
        dsimp! [sumD_lst, List.length_range, hz]
        have e9 : nums ((List.range (i + 1)).map (lookAt l p)) = nums ((List.range i).map (lookAt l p)) ++ [D.int ((stB (p.take (i + 1))).map fun b => tAt l b i).sum] := by
          rw [List.range_succ, List.map_append, ← nums_app]; rfl
        rw [e9]
        exact wp_ok.mpr ⟨_, rfl, rfl, _, _, _, rfl⟩
      · intro b hb
        have hbi := stB_le hp hb
        obtain ⟨r, g1, g2⟩ := tAt_get ht hbi (by omega)
        refine ⟨_, rfl, ?_⟩
        dsimp! [mkTask, tri, at_map g1, row]
        rw [show (i : Int) - (b : Int) = ((i - b : Nat) : Int) by omega]
        dsimp! [at_nums g2]
    · rw [if_neg c] at hd; cases hd
  · rintro ρ h' ⟨rfl, s3, s4, s5, rfl⟩
    dsimp!
    refine wp_ok.mpr ⟨?_, rfl⟩
    rw [enumL_len, rowsN, stands]
    simp only [List.length_map, List.length_range, hn]
theorem v_cost_of {n : Nat} {lo hi : Int} {w l : List (List Int)} {p : List Nat} {h : List D} (hp : Valid p) (hn : p.length = n) (hl : n ≤ 1000) (hw : TriOk n lo hi w) (ht : TriOk n lo hi l) : F_cost_of [mkTask w l, row (nat p)] h = .ok (.int (((List.range n).map fun i => tAt w (p.getD i 0) i).sum + ((List.range n).map (lookAt l p)).sum)) h := by
  have e1 := fun h => v_writing_of (l := l) (h := h) hp hn hl hw
  have e2 := fun h => v_looking_of (w := w) (h := h) hp hn hl ht
  have e3 := fun h => v_begins_behind (p := p) (h := h) (by omega)
  unfold F_cost_of b_cost_of
  dsimp! [e1, e2, e3, sumD_lst]
theorem v_cost {n : Nat} {lo hi : Int} {w l : List (List Int)} {p : List Nat} {h : List D} (hp : Valid p) (hn : p.length = n) (hl : n ≤ 1000) (hw : TriOk n lo hi w) (ht : TriOk n lo hi l) : F_cost [mkTask w l, row (nat p)] h = .ok (.int (((List.range n).map fun i => tAt w (p.getD i 0) i).sum + ((List.range n).map (lookAt l p)).sum)) h := by
  have e1 := fun h => v_check_plan_for (w := w) (l := l) (h := h) hp (by omega) (by rw [hw.1, hn])
  have e2 := fun h => v_cost_of (h := h) hp hn hl hw ht
  unfold F_cost b_cost
  dsimp! [e1, e2]
theorem v__law_hand {ns : List Int} {h : List D} (hl : ns.length ≤ 63) : F__law_hand [.scr (ns.map .int)] h = .ok (.lst (hand0 ns)) h := by
  unfold F__law_hand b__law_hand
  have hz : ns.length ≤ 16777216 := by omega
  have e : cutD (ns.map D.int) none (some 63) = ns.map D.int := by
    rw [show (63 : Int) = ((63 : Nat) : Int) from rfl, cut_take, List.take_of_length_le (by simpa using hl)]
  dsimp! [e, hz]
  rw [compL_map (f := fun n => .int (n.natAbs : Int))]
  · dsimp! [hand0]
  · intro n hn
    refine ⟨_, rfl, ?_⟩
    dsimp! [absD]
    by_cases c : n < 0
    · rw [if_pos c, show -n = (n.natAbs : Int) by omega]
    · rw [if_neg c, show n = (n.natAbs : Int) by omega]; simp
theorem v__law_is : ∀ {n : Nat} {d : D} {h : List D}, Pls n d → n ≤ 60 → F__law_is n [d, d] h = .ok (.bl true) h
  | 0, _, _, h, _ => h.elim
  | n + 1, .str _, _, h, _ => (show False from h).elim
  | n + 1, .scr _, _, h, _ => (show False from h).elim
  | n + 1, .dct _, _, h, _ => (show False from h).elim
  | n + 1, .ins _ _, _, h, _ => (show False from h).elim
  | n + 1, .hnd, _, h, _ => (show False from h).elim
  | n + 1, .non, h, _, hn => by
    unfold F__law_is b__law_is
    dsimp! [eqD_self (d := .non) (n := 1) trivial (by decide)]
  | n + 1, .bl b, h, _, hn => by
    unfold F__law_is b__law_is
    dsimp!
  | n + 1, .int i, h, _, hn => by
    unfold F__law_is b__law_is
    dsimp!
  | n + 1, .tup xs, h, p, hn => by
    unfold F__law_is b__law_is
    have hz : xs.length ≤ 16777216 := p.1
    dsimp! [zipL_self, hz]
    rw [compL_map (f := fun _ => .bl true)]
    · dsimp! [all_true]
    · intro x hx
      refine ⟨_, rfl, ?_⟩
      dsimp! [v__law_is (p.2 x hx) (by omega)]
  | n + 1, .lst xs, h, p, hn => by
    unfold F__law_is b__law_is
    have hz : xs.length ≤ 16777216 := p.1
    dsimp! [zipL_self, hz]
    rw [compL_map (f := fun _ => .bl true)]
    · dsimp! [all_true]
    · intro x hx
      refine ⟨_, rfl, ?_⟩
      dsimp! [v__law_is (p.2 x hx) (by omega)]
theorem w__law_triangle {n : Nat} {m : Int} {h : List D} (hh : HandOk h) (hn : n ≤ 1000) (h0 : 0 ≤ m) (h1 : m < 2 ^ 60) : Wp (F__law_triangle [.hnd, .int (n : Int), .int m] h) fun d h' => HandOk h' ∧ ∃ rs, d = tri rs ∧ TriOk n 0 m rs := by
  unfold F__law_triangle b__law_triangle
  refine wp_run ?_
  have hz : n ≤ 16777216 := by omega
  dsimp! [rangeD1 (n := n) (by omega), hz, R.assoc]
  refine wp_comp HandOk (fun i y => ∃ r, y = row r ∧ r.length = n - i ∧ ∀ x ∈ r, 0 ≤ x ∧ x ≤ m) hh ?_ ?_
  · intro i d h hd hh
    rw [rangeL_get] at hd
    by_cases c : i < n
    · rw [if_pos c] at hd
      cases hd
      refine ⟨_, rfl, ?_⟩
      have hz2 : n - i ≤ 16777216 := by omega
      dsimp! [rangeD2 (a := i) (b := n) (by omega) (by omega), hz2, R.assoc]
      refine wp_comp HandOk (fun j y => ∃ x, y = .int x ∧ 0 ≤ x ∧ x ≤ m) hh ?_ ?_
      · intro j d h hd hh
        rw [rangeL_get] at hd
        by_cases c2 : j < n - i
        · rw [if_pos c2] at hd
          cases hd
          refine ⟨_, rfl, ?_⟩
          dsimp!
          exact (w__law_draw hh (by omega) (by omega)).mono fun d h' ⟨a, x, e, b1, b2⟩ => ⟨⟨x, e, b1, by omega⟩, a⟩
        · rw [if_neg c2] at hd; cases hd
      · intro ys h' hh' hl hq
        obtain ⟨ns, rfl, hns⟩ := nums_of fun j y e => hq j y e
        refine wp_ok.mpr ⟨⟨ns, rfl, ?_, hns⟩, hh'⟩
        rw [nums_len, rangeL_len] at hl; exact hl
    · rw [if_neg c] at hd; cases hd
  · intro ys h' hh' hl hq
    obtain ⟨rs, rfl, hl2, hrs⟩ := map_of (f := row) hq
    refine wp_ok.mpr ⟨hh', rs, rfl, ?_, hrs⟩
    rw [List.length_map, rangeL_len] at hl; exact hl
theorem v__law_summed {ns : List Int} {d : D} {h : List D} (hd : d = row ns ∨ d = .lst (nums ns)) (hn : ns.length ≤ 1000) : F__law_summed [d] h = .ok (tri (sumTri ns)) h := by
  have hz : ns.length ≤ 16777216 := by omega
  rcases hd with rfl | rfl
  all_goals
    unfold F__law_summed b__law_summed
    dsimp! [row, rangeD1 (n := ns.length) (by omega), hz]
    rw [compL_range (f := fun f => row ((List.range (ns.length - f)).map fun j => ((ns.drop f).take (j + 1)).sum))]
    · dsimp! [tri, sumTri, List.map_map]; rfl
    · intro f hf
      refine ⟨_, rfl, ?_⟩
      have hz2 : ns.length - f ≤ 16777216 := by omega
      dsimp! [rangeD2 (a := f) (b := ns.length) (by omega) (by omega), hz2]
      rw [compL_range (f := fun j => .int ((ns.drop f).take (j + 1)).sum)]
      · dsimp! [row, nums, List.map_map]; rfl
      · intro j hj
        refine ⟨_, rfl, ?_⟩
        dsimp!
        rw [show (f : Int) + (j : Int) + 1 = ((f + j + 1 : Nat) : Int) by omega, cut_mid, nums_drop, nums_take, show f + j + 1 - f = j + 1 by omega]
        dsimp! [sumD_lst, sumD_tup]
theorem sum_bound {ns : List Int} {m : Int} (h : ∀ n ∈ ns, 0 ≤ n ∧ n ≤ m) : 0 ≤ ns.sum ∧ ns.sum ≤ (ns.length : Int) * m := by
  induction ns with
  | nil => simp
  | cons n ns ih =>
    obtain ⟨a, b⟩ := h n List.mem_cons_self
    obtain ⟨c, d⟩ := ih fun x hx => h x (List.mem_cons_of_mem _ hx)
    simp only [List.sum_cons, List.length_cons]
    refine ⟨by omega, ?_⟩
    have : ((ns.length + 1 : Nat) : Int) * m = (ns.length : Int) * m + m := by rw [Int.natCast_succ, Int.add_mul, Int.one_mul]
    omega
theorem sumTri_ok {ns : List Int} {m : Int} (h : ∀ n ∈ ns, 0 ≤ n ∧ n ≤ m) (hm : 0 ≤ m) : TriOk ns.length 0 ((ns.length : Int) * m) (sumTri ns) := by
  refine ⟨by simp [sumTri], fun i r e => ?_⟩
  unfold sumTri at e
  rw [List.getElem?_map] at e
  by_cases c : i < ns.length
  · rw [List.getElem?_range c] at e
    cases e
    refine ⟨by simp, fun x hx => ?_⟩
    obtain ⟨j, hj, rfl⟩ := List.mem_map.mp hx
    have := sum_bound (ns := (ns.drop i).take (j + 1)) (m := m) fun n hn => h n (List.mem_of_mem_drop (List.mem_of_mem_take hn))
    refine ⟨this.1, Int.le_trans this.2 (Int.mul_le_mul_of_nonneg_right ?_ hm)⟩
    have hl : ((ns.drop i).take (j + 1)).length ≤ ns.length := by rw [List.length_take, List.length_drop]; omega
    omega
  · rw [List.getElem?_eq_none (by simp; omega)] at e; cases e
theorem constTri_ok {n : Nat} {p : Int} (h : 0 ≤ p) : TriOk n 0 p (constTri n p) := by
  refine ⟨by simp [constTri], fun i r e => ?_⟩
  unfold constTri at e
  rw [List.getElem?_map] at e
  by_cases c : i < n
  · rw [List.getElem?_range c] at e
    cases e
    refine ⟨by simp, fun x hx => ?_⟩
    rw [(List.mem_replicate.mp hx).2]; exact ⟨h, Int.le_refl _⟩
  · rw [List.getElem?_eq_none (by simp; omega)] at e; cases e
theorem TriOk.wide {n : Nat} {lo hi hi2 : Int} {rs : List (List Int)} (h : TriOk n lo hi rs) (h2 : hi ≤ hi2) : TriOk n lo hi2 rs := ⟨h.1, fun i r e => ⟨(h.2 i r e).1, fun x hx => ⟨((h.2 i r e).2 x hx).1, Int.le_trans ((h.2 i r e).2 x hx).2 h2⟩⟩⟩
theorem TriOk.pls {n : Nat} {lo hi : Int} {rs : List (List Int)} (h : TriOk n lo hi rs) (hn : n ≤ 1000) {k : Nat} : Pls (k + 3) (tri rs) := by
  refine pls_tri (by rw [h.1]; omega) fun r hr => ?_
  obtain ⟨i, hi, e⟩ := List.mem_iff_getElem.mp hr
  have := (h.2 i r (by rw [List.getElem?_eq_getElem hi, e])).1
  omega
theorem w__law_prices {n : Nat} {h : List D} (hh : HandOk h) (hn : n ≤ 1000) : Wp (F__law_prices [.hnd, .int (n : Int)] h) fun d h' => HandOk h' ∧ ∃ w l, d = .tup [tri w, tri l] ∧ TriOk n 0 1000000000 w ∧ TriOk n 0 1000000000 l := by
  unfold F__law_prices b__law_prices
  refine wp_run ?_
  dsimp! [R.assoc]
  refine wp_use (w__law_draw hh (by decide) (by decide)) ?_
  rintro _ h1 ⟨hh1, k, rfl, k0, k8⟩
  have hz : n ≤ 16777216 := by omega
  by_cases c0 : k = 0
  · dsimp! [c0, R.assoc]
    refine wp_use (w__law_triangle hh1 hn (Int.le_refl 0) (by decide)) ?_
    rintro _ h2 ⟨hh2, rs, rfl, ok⟩
    exact wp_ok.mpr ⟨hh2, rs, rs, rfl, ok.wide (by decide), ok.wide (by decide)⟩
  · by_cases c3 : k < 3
    · dsimp! [c0, c3, R.assoc, rangeD1 (n := n) (by omega), hz]
      refine wp_comp HandOk (fun _ y => ∃ x, y = .int x ∧ 0 ≤ x ∧ x ≤ 5) hh1 ?_ ?_
      · intro i d h hd hh
        rw [rangeL_get] at hd
        by_cases c : i < n
        · rw [if_pos c] at hd
          cases hd
          refine ⟨_, rfl, ?_⟩
          dsimp!
          exact (w__law_draw hh (by decide) (by decide)).mono fun d h' ⟨a, x, e, b1, b2⟩ => ⟨⟨x, e, b1, by omega⟩, a⟩
        · rw [if_neg c] at hd; cases hd
      · intro ys h2 hh2 hl hq
        obtain ⟨ns, rfl, hns⟩ := nums_of fun j y e => hq j y e
        rw [nums_len, rangeL_len] at hl
        have hs := sumTri_ok hns (by decide)
        rw [hl] at hs
        have hs2 : TriOk n 0 1000000000 (sumTri ns) := hs.wide (by omega)
        have e1 := fun h => v__law_summed (d := .lst (nums ns)) (h := h) (.inr rfl) (by omega)
        have hk : k = 1 ∨ k = 2 := by omega
        rcases hk with rfl | rfl
        all_goals
          dsimp! [e1, R.assoc]
          refine wp_use (w__law_triangle hh2 hn (by decide) (by decide)) ?_
          rintro _ h3 ⟨hh3, rs, rfl, ok⟩
          exact wp_ok.mpr ⟨hh3, _, rs, rfl, hs2, ok.wide (by decide)⟩
    · have hk : k = 3 ∨ k = 4 ∨ k = 5 ∨ k = 6 ∨ k = 7 := by omega
      rcases hk with rfl | rfl | rfl | rfl | rfl
      all_goals
        dsimp! [R.assoc]
        refine wp_use (w__law_triangle hh1 hn (by decide) (by decide)) ?_
        rintro _ h3 ⟨hh3, rs, rfl, ok⟩
        refine wp_use (w__law_triangle hh3 hn (by decide) (by decide)) ?_
        rintro _ h4 ⟨hh4, rs2, rfl, ok2⟩
        exact wp_ok.mpr ⟨hh4, rs, rs2, rfl, ok.wide (by decide), ok2.wide (by decide)⟩
theorem v__law_begins {p : List Nat} {h : List D} (hl : p.length ≤ 1000) : F__law_begins [row (nat p)] h = .ok (.lst (rowsN (stands p))) h := by
  unfold F__law_begins b__law_begins
  refine eq_of_wp (wp_run ?_)
  dsimp! [row]
  refine wp_for (fun i ρ h' => h' = h ∧ i ≤ p.length ∧ ∃ s2 s3 s4 s5, ρ = [.val (row (nat p)), .own (rowsN ((List.range i).map fun i => stB (p.take (i + 1)))), s2, s3, s4, s5]) ⟨rfl, Nat.zero_le _, _, _, _, _, rfl⟩ ?_ ?_
  · rintro i d ρ h' hd ⟨rfl, hi, s2, s3, s4, s5, rfl⟩
    rw [enumL_get, nums_get, nat_get] at hd
    cases e : p[i]? with
    | none => rw [e] at hd; cases hd
    | some b =>
      rw [e] at hd
      cases hd
      have hi2 : i < p.length := (List.getElem?_eq_some_iff.mp e).1
      refine ⟨_, rfl, ?_⟩
      have hlen : (stB (p.take i)).length ≤ 1000 := by
        have := stB_len (p := p.take i)
        rw [List.length_take] at this; omega
      have key : (if decide ((0 : Int) < (i : Int)) = true then R.lift (atI (((List.range i).map fun i => stB (p.take (i + 1))).map fun b => row (nat b)) (-1)) h' else R.ok (.tup []) h') = .ok (row (nat (stB (p.take i)))) h' := by
        cases i with
        | zero => rfl
        | succ i =>
          rw [if_pos (decide_eq_true (by omega)), List.range_succ, List.map_append, List.map_append]
          show R.lift (atI (_ ++ [row (nat (stB (p.take (i + 1))))]) (-1)) h' = _
          rw [at_last]; rfl
      have hz : i < 16777216 := by omega
      have hz1 : (stB (p.take i)).length ≤ 16777216 := by omega
      have hz2 : ((stB (p.take i)).filter fun n => decide (n < b)).length + 1 ≤ 16777216 := by
        have := List.length_filter_le (fun n => decide (n < b)) (stB (p.take i))
        omega
      dsimp! [R.assoc, rowsN, List.length_range, hz, negD, key]
      dsimp! [row, nat_len, hz1]
      rw [show nums (nat (stB (p.take i))) = (stB (p.take i)).map (fun n : Nat => D.int (n : Int)) by simp [nums, nat], compL_fmap (f := fun n : Nat => D.int (n : Int)) (p := fun n => decide (n < b))]
      · have e2 : (((stB (p.take i)).filter fun n => decide (n < b)).map fun n : Nat => D.int (n : Int)) ++ [D.int (b : Int)] = nums (nat (stB (p.take (i + 1)))) := by rw [stB_take e]; simp [nextB, nums, nat]
        dsimp! [hz2, e2]
        have e9 : ((List.range (i + 1)).map fun i => stB (p.take (i + 1))).map (fun b => row (nat b)) = (((List.range i).map fun i => stB (p.take (i + 1))).map fun b => row (nat b)) ++ [.tup (nums (nat (stB (p.take (i + 1)))))] := by
          rw [List.range_succ, List.map_append, List.map_append]; rfl
        rw [← e9]
        exact wp_ok.mpr ⟨_, rfl, rfl, by omega, _, _, _, _, rfl⟩
      · intro n hn
        refine ⟨_, rfl, ?_, fun _ => by dsimp!⟩
        dsimp!
        by_cases c : n < b
        · rw [decide_eq_true c, decide_eq_true (by omega)]
        · rw [decide_eq_false c, decide_eq_false (by omega)]
  · rintro ρ h' ⟨rfl, hi, s2, s3, s4, s5, rfl⟩
    dsimp!
    refine wp_ok.mpr ⟨?_, rfl⟩
    rw [enumL_len, nums_len, nat_len]; rfl
/-- the plan so far, its begins -/
def PlanOk (p : List Nat) : Prop := Valid p ∧ (stB p).Pairwise (· < ·)
theorem PlanOk.snoc {p : List Nat} {k b : Nat} (h : PlanOk p) (e : (stB p ++ [p.length])[k]? = some b) : PlanOk (p ++ [b]) ∧ stB (p ++ [b]) = (stB p ++ [p.length]).take (k + 1) := by
  obtain ⟨hv, hp⟩ := h
  have lt : ∀ x ∈ stB p, x < p.length := fun x hx => by
    obtain ⟨j, hj, ej⟩ := List.mem_iff_getElem.mp (stB_mem hx)
    have := (hv j x (by rw [List.getElem?_eq_getElem hj, ej])).1
    omega
  have hp2 : (stB p ++ [p.length]).Pairwise (· < ·) := by
    rw [List.pairwise_append]
    exact ⟨hp, List.pairwise_singleton _ _, fun x hx y hy => by rw [List.mem_singleton.mp hy]; exact lt x hx⟩
  have hb : b ≤ p.length := by
    rcases List.mem_append.mp (List.mem_of_getElem? e) with q | q
    · exact Nat.le_of_lt (lt b q)
    · rw [List.mem_singleton.mp q]; exact Nat.le_refl _
  have e2 : stB (p ++ [b]) = (stB p ++ [p.length]).take (k + 1) := by
    rw [stB_snoc]
    unfold nextB
    have f : (stB p ++ [p.length]).filter (fun y => decide (y < b)) = (stB p).filter fun y => decide (y < b) := by
      rw [List.filter_append, List.filter_cons_of_neg (by simp; omega)]; simp
    rw [← f, filter_lt_take hp2 e]
    obtain ⟨hk, ek⟩ := List.getElem?_eq_some_iff.mp e
    rw [← ek]; simp
  refine ⟨⟨fun i c hc => ?_, by rw [e2]; exact hp2.sublist (List.take_sublist _ _)⟩, e2⟩
  by_cases hi : i < p.length
  · rw [List.getElem?_append_left hi] at hc
    rw [List.take_append_of_le_length (by omega)]
    exact hv i c hc
  · have hi2 : i = p.length := by
      have := (List.getElem?_eq_some_iff.mp hc).1
      simp at this; omega
    subst hi2
    simp at hc
    subst hc
    refine ⟨hb, ?_⟩
    rw [List.take_append_of_le_length (Nat.le_refl _), List.take_of_length_le (Nat.le_refl _)]
    rcases List.mem_append.mp (List.mem_of_getElem? e) with q | q
    · exact .inr q
    · exact .inl (List.mem_singleton.mp q)
theorem w__law_plan {n : Nat} {m : Int} {h : List D} (hh : HandOk h) (hn : n ≤ 1000) (hm : 0 < m) : Wp (F__law_plan [.hnd, .int (n : Int), .int m] h) fun d h' => HandOk h' ∧ ∃ p, d = row (nat p) ∧ PlanOk p ∧ p.length = n := by
  unfold F__law_plan b__law_plan
  refine wp_run ?_
  dsimp! [R.assoc, rangeD1 (n := n) (by omega)]
  refine wp_for (fun i ρ h' => HandOk h' ∧ i ≤ n ∧ ∃ p s5 s6 s7, ρ = [.val .hnd, .val (.int (n : Int)), .val (.int m), .val (row (nat p)), .val (row (nat (stB p))), s5, s6, s7] ∧ PlanOk p ∧ p.length = i) ⟨hh, Nat.zero_le _, [], _, _, _, rfl, ⟨fun i b e => (by cases e), List.Pairwise.nil⟩, rfl⟩ ?_ ?_
  · rintro i d ρ h' hd ⟨hh, hi, p, s5, s6, s7, rfl, ok, hl⟩
    rw [rangeL_get] at hd
    by_cases c : i < n
    · rw [if_pos c] at hd
      cases hd
      refine ⟨_, rfl, ?_⟩
      have hb : (stB p).length ≤ p.length := stB_len
      have hz : (stB p).length + 1 ≤ 16777216 := by omega
      have hz2 : p.length + 1 ≤ 16777216 := by omega
      have e1 : nums (nat (stB p)) ++ [D.int (i : Int)] = nums (nat (stB p ++ [p.length])) := by simp [nums, nat, hl]
      dsimp! [R.assoc, row, nat_len, hz, e1]
      have hlen : (stB p ++ [p.length]).length = (stB p).length + 1 := by simp
      refine wp_use (w__law_draw hh (by split <;> omega) (by split <;> omega)) ?_
      rintro _ h2 ⟨hh2, k, rfl, k0, kl⟩
      obtain ⟨k, rfl⟩ := Int.eq_ofNat_of_zero_le k0
      have kl2 : k < (stB p ++ [p.length]).length := by
        have : (Int.ofNat k) < ((stB p ++ [p.length]).length : Int) := by
          split at kl
          · exact kl
          · rename_i hc
            have kl : (Int.ofNat k) < m := kl
            omega
        exact Int.ofNat_lt.mp this
      have ek := List.getElem?_eq_getElem kl2
      obtain ⟨ok2, es⟩ := ok.snoc ek
      have ea := at_nums (ns := nat (stB p ++ [p.length])) (i := k) (by rw [nat_get, ek]; rfl)
      have e3 : nums (nat p) ++ [D.int (((stB p ++ [p.length])[k] : Nat) : Int)] = nums (nat (p ++ [(stB p ++ [p.length])[k]])) := by simp [nums, nat]
      dsimp! [R.assoc, show (Int.ofNat k) = (k : Int) from rfl, ea, hz2, e3]
      rw [show (k : Int) + 1 = ((k + 1 : Nat) : Int) by omega, cut_take, nums_take, nat_take, ← es]
      exact wp_ok.mpr ⟨_, rfl, hh2, by omega, _, _, _, _, rfl, ok2, by rw [List.length_append, List.length_singleton, hl]⟩
    · rw [if_neg c] at hd; cases hd
  · rintro ρ h' ⟨hh, hi, p, s5, s6, s7, rfl, ok, hl⟩
    dsimp!
    exact wp_ok.mpr ⟨hh, p, rfl, ok, by rw [hl, rangeL_len]⟩
theorem v__law_part {rs : List (List Int)} {a b : Nat} {h : List D} (hab : a ≤ b) (hb : b < rs.length) (hz : rs.length ≤ 1000) : F__law_part [tri rs, .int (a : Int), .int (b : Int)] h = .ok (tri (partTri rs a b)) h := by
  have key : ∀ (i : Nat), i < b + 1 - a → atI (rs.map row) ((a : Int) + (i : Int)) = some (row (rs.getD (a + i) [])) := fun i hi => by
    have e : rs[a + i]? = some (rs.getD (a + i) []) := by
      rw [List.getD_eq_getElem?_getD, List.getElem?_eq_getElem (by omega)]; rfl
    rw [show (a : Int) + (i : Int) = ((a + i : Nat) : Int) by omega, at_map e]
  have hz2 : b + 1 - a ≤ 16777216 := by omega
  have rg : rangeD [D.int (a : Int), D.int ((b : Int) + 1)] = some (rangeL a (b + 1 - a)) := by
    rw [show (b : Int) + 1 = ((b + 1 : Nat) : Int) by omega, rangeD2 (by omega) (by omega)]
  unfold F__law_part b__law_part
  dsimp! [tri, rg, hz2]
  rw [compL_range (f := fun i => row ((rs.getD (a + i) []).take (b - (a + i) + 1)))]
  · dsimp! [partTri, List.map_map]; rfl
  · intro i hi
    refine ⟨_, rfl, ?_⟩
    dsimp! [key i hi, row]
    rw [show (b : Int) - ((a : Int) + (i : Int)) + 1 = ((b - (a + i) + 1 : Nat) : Int) by omega, cut_take, nums_take]
theorem partTri_ok {n : Nat} {lo hi : Int} {rs : List (List Int)} (h : TriOk n lo hi rs) {a b : Nat} (hab : a ≤ b) (hb : b < n) : TriOk (b + 1 - a) lo hi (partTri rs a b) := by
  refine ⟨by simp [partTri], fun i r e => ?_⟩
  unfold partTri at e
  rw [List.getElem?_map] at e
  by_cases c : i < b + 1 - a
  · rw [List.getElem?_range c] at e
    cases e
    have e : rs[a + i]? = some (rs.getD (a + i) []) := by
      rw [List.getD_eq_getElem?_getD, List.getElem?_eq_getElem (by rw [h.1]; omega)]; rfl
    obtain ⟨h1, h2⟩ := h.2 _ _ e
    refine ⟨by rw [List.length_take, h1]; omega, fun x hx => h2 x (List.mem_of_mem_take hx)⟩
  · rw [List.getElem?_eq_none (by simp; omega)] at e; cases e
theorem partTri_tAt {n : Nat} {lo hi : Int} {rs : List (List Int)} (h : TriOk n lo hi rs) {a b i j : Nat} (hb : b < n) (hij : i ≤ j) (hj : j < b + 1 - a) : tAt (partTri rs a b) i j = tAt rs (a + i) (a + j) := by
  unfold tAt partTri
  rw [List.getD_eq_getElem?_getD (l := List.map _ _), List.getElem?_map, List.getElem?_range (by omega)]
  show ((rs.getD (a + i) []).take (b - (a + i) + 1)).getD (j - i) 0 = _
  rw [List.getD_eq_getElem?_getD, List.getD_eq_getElem?_getD, List.getElem?_take_of_lt (by omega), show a + j - (a + i) = j - i by omega, List.getD_eq_getElem?_getD]
theorem partTri_part {n : Nat} {lo hi : Int} {rs : List (List Int)} (h : TriOk n lo hi rs) {a b c d : Nat} (hb : b < n) (hcd : c ≤ d) (hd : d < b + 1 - a) : partTri (partTri rs a b) c d = partTri rs (a + c) (a + d) := by
  unfold partTri
  rw [show a + d + 1 - (a + c) = d + 1 - c by omega]
  apply List.map_congr_left
  intro i hi
  have hi := List.mem_range.mp hi
  rw [List.getD_eq_getElem?_getD, List.getElem?_map, List.getElem?_range (by omega)]
  show ((rs.getD (a + (c + i)) []).take (b - (a + (c + i)) + 1)).take (d - (c + i) + 1) = _
  rw [List.take_take, show a + c + i = a + (c + i) by omega]
  congr 1
  omega
theorem partTri_all {n : Nat} {lo hi : Int} {rs : List (List Int)} (h : TriOk n lo hi rs) (hn : 1 ≤ n) : partTri rs 0 (n - 1) = rs := by
  unfold partTri
  apply List.ext_getElem?
  intro i
  rw [List.getElem?_map]
  by_cases c : i < n
  · rw [List.getElem?_range (by omega)]
    have e : rs[i]? = some (rs.getD i []) := by
      rw [List.getD_eq_getElem?_getD, List.getElem?_eq_getElem (by rw [h.1]; omega)]; rfl
    obtain ⟨h1, _⟩ := h.2 _ _ e
    rw [e]
    show some ((rs.getD (0 + i) []).take (n - 1 - (0 + i) + 1)) = _
    rw [Nat.zero_add]
    show some ((rs.getD i []).take (n - 1 - i + 1)) = _
    rw [List.take_of_length_le (by omega)]
  · rw [List.getElem?_eq_none (by simp; omega), List.getElem?_eq_none (by rw [h.1]; omega)]; rfl
theorem sum_two {f g : Nat → Int} : ∀ n : Nat, ((List.range n).map f).sum + ((List.range n).map g).sum = ((List.range n).map fun i => f i + g i).sum
  | 0 => rfl
  | n + 1 => by
    have ih := sum_two (f := f) (g := g) n
    simp only [List.range_succ, List.map_append, List.sum_append, List.map_cons, List.map_nil, List.sum_cons, List.sum_nil]
    omega
theorem sum_succ {f : Nat → Int} {n : Nat} : ((List.range (n + 1)).map f).sum = ((List.range n).map f).sum + f n := by
  simp only [List.range_succ, List.map_append, List.sum_append, List.map_cons, List.map_nil, List.sum_cons, List.sum_nil]; omega
/-- what a plan costs from hour a of a task -/
def costFrom (w l : List (List Int)) (a : Nat) (p : List Nat) (i : Nat) : Int := tAt w (a + p.getD i 0) (a + i) + ((stB (p.take (i + 1))).map fun b => tAt l (a + b) (a + i)).sum
theorem v__law_cost {n : Nat} {lo hi : Int} {w l : List (List Int)} {a : Nat} {p : List Nat} {h : List D} (hp : Valid p) (hw : TriOk n lo hi w) (ht : TriOk n lo hi l) (ha : a + p.length ≤ n) (hn : n ≤ 1000) : F__law_cost [mkTask w l, .int (a : Int), row (nat p)] h = .ok (.int ((List.range p.length).map (costFrom w l a p)).sum) h := by
  have e0 := fun h => v__law_begins (p := p) (h := h) (by omega)
  unfold F__law_cost b__law_cost
  refine eq_of_wp (wp_run ?_)
  dsimp! [R.assoc, e0]
  refine wp_for (fun i ρ h' => h' = h ∧ ∃ s4 s5 s6, ρ = [.val (mkTask w l), .val (.int (a : Int)), .val (row (nat p)), .val (.int ((List.range i).map (costFrom w l a p)).sum), s4, s5, s6]) ⟨rfl, _, _, _, rfl⟩ ?_ ?_
  · rintro i d ρ h' hd ⟨rfl, s4, s5, s6, rfl⟩
    rw [enumL_get, rowsN, List.getElem?_map, stands_get] at hd
    by_cases c : i < p.length
    · rw [if_pos c] at hd
      cases hd
      have ei : p[i]? = some (p.getD i 0) := by rw [List.getD_eq_getElem?_getD, List.getElem?_eq_getElem c]; rfl
      obtain ⟨q1, _⟩ := hp i _ ei
      have ea := at_nums (ns := nat p) (i := i) (by rw [nat_get, ei]; rfl)
      obtain ⟨r, g1, g2⟩ := tAt_get hw (b := a + p.getD i 0) (j := a + i) (by omega) (by omega)
      have hs : (stB (p.take (i + 1))).length ≤ 16777216 := by
        have := stB_len (p := p.take (i + 1))
        rw [List.length_take] at this; omega
      have g1' : atI (w.map row) ((a : Int) + ((p.getD i 0 : Nat) : Int)) = some (row r) := by
        rw [show (a : Int) + ((p.getD i 0 : Nat) : Int) = ((a + p.getD i 0 : Nat) : Int) by omega, at_map g1]
      have g2' : atI (nums r) ((i : Int) - ((p.getD i 0 : Nat) : Int)) = some (.int (tAt w (a + p.getD i 0) (a + i))) := by
        rw [show (i : Int) - ((p.getD i 0 : Nat) : Int) = ((a + i - (a + p.getD i 0) : Nat) : Int) by omega, at_nums g2]
      refine ⟨_, rfl, ?_⟩
      dsimp! [R.assoc, row, ea, mkTask, tri, g1', g2', nat_len, hs]
      rw [show nums (nat (stB (p.take (i + 1)))) = (stB (p.take (i + 1))).map (fun n : Nat => D.int (n : Int)) by simp [nums, nat], compL_map (f := fun b => .int (tAt l (a + b) (a + i)))]
      · have e : ((stB (p.take (i + 1))).map fun b => D.int (tAt l (a + b) (a + i))) = nums ((stB (p.take (i + 1))).map fun b => tAt l (a + b) (a + i)) := by simp [nums]
        rw [e]
        dsimp! [R.assoc, sumD_lst]
        have e9 : ((List.range (i + 1)).map (costFrom w l a p)).sum = ((List.range i).map (costFrom w l a p)).sum + tAt w (a + p.getD i 0) (a + i) + ((stB (p.take (i + 1))).map fun b => tAt l (a + b) (a + i)).sum := by
          rw [sum_succ, costFrom]; omega
        rw [e9]
        exact wp_ok.mpr ⟨_, rfl, rfl, _, _, _, rfl⟩
      · intro b hb
        have hbi := stB_le hp hb
        obtain ⟨r2, g3, g4⟩ := tAt_get ht (b := a + b) (j := a + i) (by omega) (by omega)
        refine ⟨_, rfl, ?_⟩
        rw [show a + i - (a + b) = i - b by omega] at g4
        have g3' : atI (l.map row) ((a : Int) + (b : Int)) = some (row r2) := by rw [show (a : Int) + (b : Int) = ((a + b : Nat) : Int) by omega, at_map g3]
        dsimp! [g3', row]
        rw [show (i : Int) - (b : Int) = ((i - b : Nat) : Int) by omega]
        dsimp! [at_nums g4]
    · rw [if_neg c] at hd; cases hd
  · rintro ρ h' ⟨rfl, s4, s5, s6, rfl⟩
    dsimp!
    refine wp_ok.mpr ⟨?_, rfl⟩
    rw [enumL_len, rowsN, stands]
    simp only [List.length_map, List.length_range]
theorem w__law_part_right {n : Nat} {w l : List (List Int)} {h : List D} (hh : HandOk h) (h1 : 1 ≤ n) (hn : n ≤ 30) {m : Int} (hw : TriOk n 0 m w) (ht : TriOk n 0 m l) : Wp (F__law_part_right [.hnd, mkTask w l, .int (n : Int)] h) fun d h' => HandOk h' ∧ d = .bl true := by
  unfold F__law_part_right b__law_part_right
  refine wp_run ?_
  dsimp! [R.assoc]
  refine wp_use (w__law_draw hh (by omega) (by omega)) ?_
  rintro _ h1 ⟨hh1, a, rfl, a0, a1⟩
  obtain ⟨a, rfl⟩ := Int.eq_ofNat_of_zero_le a0
  dsimp! [R.assoc]
  refine wp_use (w__law_draw hh1 (by omega) (by omega)) ?_
  rintro _ h2 ⟨hh2, b, rfl, b0, b1⟩
  obtain ⟨b, rfl⟩ := Int.eq_ofNat_of_zero_le b0
  have ha : a < n := Int.ofNat_lt.mp a1
  have hab : a + b < n := by have b1 : (b : Int) < (n : Int) - (a : Int) := b1; omega
  have eab : (a : Int) + (b : Int) = ((a + b : Nat) : Int) := rfl
  have hwl : w.length = n := hw.1
  have htl : l.length = n := ht.1
  have e1 := fun h => v_task_part (w := w) (l := l) (a := a) (b := a + b) (h := h) (by omega) (by omega) (by omega) (by omega)
  have okw := partTri_ok hw (a := a) (b := a + b) (by omega) hab
  have okl := partTri_ok ht (a := a) (b := a + b) (by omega) hab
  have e2 := fun h => v__law_part (rs := w) (a := a) (b := a + b) (h := h) (by omega) (by omega) (by omega)
  have e3 := fun h => v__law_part (rs := l) (a := a) (b := a + b) (h := h) (by omega) (by omega) (by omega)
  have i1 := fun h => v__law_is (n := 8) (h := h) (okw.pls (by omega)) (by decide)
  have i2 := fun h => v__law_is (n := 8) (h := h) (okl.pls (by omega)) (by decide)
  have em : ((a + b : Nat) : Int) - (a : Int) + 1 = ((b + 1 : Nat) : Int) := by omega
  have eo : a + b + 1 - a = b + 1 := by omega
  rw [eo] at okw okl
  unfold mkTask at e1
  dsimp! [R.assoc, mkTask, eab, e1, e2, e3, i1, i2, em]
  refine wp_use (w__law_plan hh2 (by omega) (by omega)) ?_
  rintro _ h3 ⟨hh3, p, rfl, pok, pl⟩
  have c1 := fun h => v_cost (h := h) pok.1 pl (by omega) okw okl
  have c2 := fun h => v__law_cost (a := a) (h := h) pok.1 hw ht (by omega) (by omega)
  have ce : ((List.range (b + 1)).map fun i => tAt (partTri w a (a + b)) (p.getD i 0) i).sum + ((List.range (b + 1)).map (lookAt (partTri l a (a + b)) p)).sum = ((List.range p.length).map (costFrom w l a p)).sum := by
    rw [sum_two, pl]
    congr 1
    apply List.map_congr_left
    intro i hi
    have hi := List.mem_range.mp hi
    have ei : p[i]? = some (p.getD i 0) := by rw [List.getD_eq_getElem?_getD, List.getElem?_eq_getElem (by omega)]; rfl
    obtain ⟨q1, _⟩ := pok.1 i _ ei
    rw [partTri_tAt hw hab q1 (by omega), costFrom, lookAt]
    congr 2
    apply List.map_congr_left
    intro x hx
    exact partTri_tAt ht hab (stB_le pok.1 hx) (by omega)
  rw [ce] at c1
  unfold mkTask at c1 c2
  have i3 := fun h => v__law_is (n := 8) (d := .int ((List.range p.length).map (costFrom w l a p)).sum) (h := h) trivial (by decide)
  dsimp! [R.assoc, c1, c2, i3]
  refine wp_use (w__law_draw hh3 (by omega) (by omega)) ?_
  rintro _ h4 ⟨hh4, c, rfl, c0, c1⟩
  obtain ⟨c, rfl⟩ := Int.eq_ofNat_of_zero_le c0
  dsimp! [R.assoc]
  refine wp_use (w__law_draw hh4 (by omega) (by omega)) ?_
  rintro _ h5 ⟨hh5, d, rfl, d0, d1⟩
  obtain ⟨d, rfl⟩ := Int.eq_ofNat_of_zero_le d0
  have hc : c < b + 1 := Int.ofNat_lt.mp c1
  have hcd : c + d < b + 1 := by have d1 : (d : Int) < ((b + 1 : Nat) : Int) - (c : Int) := d1; omega
  have pwl : (partTri w a (a + b)).length = b + 1 := okw.1
  have pll : (partTri l a (a + b)).length = b + 1 := okl.1
  have f1 := fun h => v_task_part (w := partTri w a (a + b)) (l := partTri l a (a + b)) (a := c) (b := c + d) (h := h) (by omega) (by omega) (by omega) (by omega)
  have f2 := fun h => v_task_part (w := w) (l := l) (a := a + c) (b := a + (c + d)) (h := h) (by omega) (by omega) (by omega) (by omega)
  rw [partTri_part hw hab (by omega) (by omega), partTri_part ht hab (by omega) (by omega)] at f1
  have f3 := fun h => v_Task_eq (w := partTri w (a + c) (a + (c + d))) (l := partTri l (a + c) (a + (c + d))) (h := h)
  unfold mkTask at f1 f2 f3
  dsimp! [R.assoc, show (c : Int) + (d : Int) = ((c + d : Nat) : Int) from rfl, f1, show (a : Int) + (c : Int) = ((a + c : Nat) : Int) from rfl, show (a : Int) + ((c + d : Nat) : Int) = ((a + (c + d) : Nat) : Int) from rfl, f2, f3]
  exact wp_ok.mpr ⟨hh5, rfl⟩

theorem h1_law (ns : List Int) (hl : ns.length ≤ 63) : ∃ ρ1, b1_law (.val (.scr (ns.map .int)) :: List.replicate 11 .un) [] = .ok (.nx ρ1) [] ∧ ρ1[1]? = some (.val (.lst (hand0 ns))) ∧ ρ1.length = 12 := by
  unfold b1_law
  have e := fun h => v__law_hand (ns := ns) (h := h) hl
  dsimp! [e]
  exact ⟨_, rfl, rfl, rfl⟩
theorem h2_law (ns : List Int) (hl : ns.length ≤ 63) : ∃ h, b_law (.un :: .val .hnd :: List.replicate 10 .un) (hand0 ns) = .ok (.rt (.bl true)) h := by
  have hh : HandOk (hand0 ns) := hand0_ok
  generalize hand0 ns = h at hh
  suffices w : Wp (b_law (.un :: .val .hnd :: List.replicate 10 .un) h) fun fl _ => fl = .rt (.bl true) by
    obtain ⟨fl, h', e, rfl⟩ := w.ex
    exact ⟨h', e⟩
  unfold b_law
  dsimp! [R.assoc, show rangeD [D.int 3] = some (rangeL 0 3) from rangeD1 (n := 3) (by decide)]
  refine wp_for (fun i ρ h' => HandOk h' ∧ ∃ s0 s2 s3 s4 s5 s6 s7 s8 s9 s10 s11, ρ = [s0, .val .hnd, s2, s3, s4, s5, s6, s7, s8, s9, s10, s11]) ⟨hh, _, _, _, _, _, _, _, _, _, _, _, rfl⟩ ?_ ?_
  · rintro i d ρ h ei ⟨hh, s0, s2, s3, s4, s5, s6, s7, s8, s9, s10, s11, rfl⟩
    refine ⟨_, rfl, ?_⟩
    dsimp! [R.assoc]
    refine wp_use (w__law_draw hh (by decide) (by decide)) ?_
    rintro _ h1 ⟨hh1, x, rfl, x0, x1⟩
    dsimp! [R.assoc]
    refine wp_use (w__law_draw hh1 (by decide) (by decide)) ?_
    rintro _ h2 ⟨hh2, y, rfl, y0, y1⟩
    -- the hours
    obtain ⟨n, hn, n1, n2⟩ : ∃ n : Nat, atI [D.int (1 + x), D.int 30] (if decide (y = 0) = true then 1 else 0) = some (.int (n : Int)) ∧ 1 ≤ n ∧ n ≤ 30 := by
      by_cases c : y = 0
      · exact ⟨30, by simp [c, at1], by decide, by decide⟩
      · exact ⟨(1 + x).toNat, by simp [c, at0]; omega, by omega, by omega⟩
    have hz : n ≤ 16777216 := by omega
    dsimp! [R.assoc, hn, rangeD1 (n := n) (by omega), hz]
    refine wp_use (w__law_draw hh2 (by decide) (by decide)) ?_
    rintro _ h3 ⟨hh3, z, rfl, z0, z1⟩
    obtain ⟨m, hm, m1, m2⟩ : ∃ m : Int, atI [D.int 1000001, D.int 4, D.int 2] z = some (.int m) ∧ 0 < m ∧ m ≤ 1000001 := by
      have : z = 0 ∨ z = 1 ∨ z = 2 := by omega
      rcases this with rfl | rfl | rfl
      · exact ⟨_, at0, by decide, by decide⟩
      · exact ⟨_, at1, by decide, by decide⟩
      · exact ⟨_, at2, by decide, by decide⟩
    dsimp! [R.assoc, hm, rangeD1 (n := n) (by omega), hz]
    refine wp_comp HandOk (fun _ y => ∃ x, y = .int x ∧ 0 ≤ x ∧ x ≤ 1000000) hh3 ?_ ?_
    · intro i d h hd hh
      rw [rangeL_get] at hd
      by_cases c : i < n
      · rw [if_pos c] at hd
        cases hd
        refine ⟨_, rfl, ?_⟩
        dsimp!
        exact (w__law_draw hh m1 (by omega)).mono fun d h' ⟨a, x, e, b1, b2⟩ => ⟨⟨x, e, b1, by omega⟩, a⟩
      · rw [if_neg c] at hd; cases hd
    intro ys h4 hh4 hl hq
    obtain ⟨ss, rfl, hss⟩ := nums_of fun j y e => hq j y e
    rw [nums_len, rangeL_len] at hl
    refine wp_use (w__law_draw hh4 (by decide) (by decide)) ?_
    rintro _ h5 ⟨hh5, u, rfl, u0, u1⟩
    obtain ⟨pm, hpm, pm1, pm2⟩ : ∃ m : Int, atI [D.int 1000001, D.int 3] u = some (.int m) ∧ 0 < m ∧ m ≤ 1000001 := by
      have : u = 0 ∨ u = 1 := by omega
      rcases this with rfl | rfl
      · exact ⟨_, at0, by decide, by decide⟩
      · exact ⟨_, at1, by decide, by decide⟩
    dsimp! [R.assoc, hpm]
    refine wp_use (w__law_draw hh5 pm1 (by omega)) ?_
    rintro _ h6 ⟨hh6, pr, rfl, pr0, pr1⟩
    have f1 := fun h => v_task_of_sizes (ns := ss) (p := pr) (h := h) (by omega) (by omega) hss pr0 (by omega)
    have f2 := fun h => v__law_summed (d := row ss) (h := h) (.inl rfl) (by omega)
    have okw : TriOk n 0 30000000 (sumTri ss) := by
      have := sumTri_ok hss (by decide)
      rw [hl] at this
      exact this.wide (by omega)
    have okl : TriOk n 0 1000000 (constTri ss.length pr) := by
      have := constTri_ok (n := ss.length) pr0
      rw [hl] at this ⊢
      exact this.wide (by omega)
    have i1 := fun h => v__law_is (n := 8) (h := h) (okw.pls (by omega)) (by decide)
    have i2 := fun h => v__law_is (n := 8) (h := h) (okl.pls (by omega)) (by decide)
    rw [hl] at okl i2 f1
    unfold row at f1 f2
    dsimp! [R.assoc, f1, mkTask, f2, i1, rangeD1 (n := n) (by omega), hz]
    rw [compL_range (f := fun f => row (List.replicate (n - f) pr))]
    rotate_left
    · intro f hf
      refine ⟨_, rfl, ?_⟩
      dsimp! [mul_one hf (by omega)]
    have e3 : D.tup ((List.range n).map fun f => row (List.replicate (n - f) pr)) = tri (constTri n pr) := by
      simp only [constTri, tri, List.map_map]; rfl
    dsimp! [R.assoc, e3, i2]
    have r1 := w__law_part_right (n := n) hh6 n1 n2 (m := 30000000) okw (okl.wide (by decide))
    unfold mkTask at r1
    refine wp_use r1 ?_
    rintro _ h7 ⟨hh7, rfl⟩
    dsimp! [R.assoc]
    refine wp_use (w__law_draw hh7 (by decide) (by decide)) ?_
    rintro _ h8 ⟨hh8, v, rfl, v0, v1⟩
    obtain ⟨v, rfl⟩ := Int.eq_ofNat_of_zero_le v0
    have v2 : v < 8 := by omega
    dsimp! [R.assoc, show (1 : Int) + (v : Int) = ((1 + v : Nat) : Int) by omega]
    refine wp_use (w__law_prices hh8 (by omega)) ?_
    rintro _ h9 ⟨hh9, w, l, rfl, ow, ol⟩
    have g1 := fun h => v_Task_init (n := 1 + v) (h := h) (by omega) (by omega) ow ol
    dsimp! [R.assoc, g1]
    have r2 := w__law_part_right (n := 1 + v) hh9 (by omega) (by omega) ow ol
    have wl : w.length = 1 + v := ow.1
    have t1 : ∀ h, F_task_part [mkTask w l, .int 0, .int (v : Int)] h = .ok (mkTask (partTri w 0 v) (partTri l 0 v)) h := fun h => v_task_part (w := w) (l := l) (a := 0) (b := v) (h := h) (by omega) (by omega) (by rw [ol.1, ow.1]) (by omega)
    have t2 : partTri w 0 v = w := by
      have := partTri_all ow (by omega)
      rw [show 1 + v - 1 = v by omega] at this; exact this
    have t3 : partTri l 0 v = l := by
      have := partTri_all ol (by omega)
      rw [show 1 + v - 1 = v by omega] at this; exact this
    rw [t2, t3] at t1
    have t4 := fun h => v_Task_eq (w := w) (l := l) (h := h)
    have t5 := tri_ne (rs := w)
    have t6 := tri_ne (rs := l)
    unfold mkTask tri at r2 t1 t4
    unfold tri at t5 t6 ⊢
    dsimp! [R.assoc, wl]
    refine wp_use r2 ?_
    rintro _ h10 ⟨hh10, rfl⟩
    dsimp! [R.assoc, wl, show ((1 + v : Nat) : Int) - 1 = (v : Int) by omega, t1 h10, t4, t5, t6, and_self]
    exact wp_ok.mpr ⟨_, rfl, hh10, _, _, _, _, _, _, _, _, _, _, _, rfl⟩
  · rintro ρ h' ⟨hh, s0, s2, s3, s4, s5, s6, s7, s8, s9, s10, s11, rfl⟩
    dsimp!
    exact wp_ok.mpr rfl

def names0 : List PySem.Str := ["ShelfError", "NoHour", "NoNumber", "NoPlan", "BadTask", "NoSizes", "Task", "is_integer", "is_within", "is_row", "first_wrong_row", "check_number", "check_hour", "raw_task", "length_of", "write_of", "sized_task", "task_of_sizes", "part_of", "task_part", "is_plan_of", "begins_next", "begins_behind", "check_plan_for", "writing_of", "looking_of", "cost_of", "cost", "_law_hand", "_law_draw"]
def names1 : List PySem.Str := ["_law_is", "_law_triangle", "_law_summed", "_law_prices", "_law_begins", "_law_plan", "_law_cost", "_law_part", "_law_part_right", "MOST_HOURS", "MOST_PRICE", "MOST_SIZE"]
def names : List PySem.Str := names0 ++ names1
abbrev RR : PySem.W.OpenRow := PySem.W.OpenLaw.row PySem.Challenge.rw_joinshelf_k38_whole_tasks_of_sizes_and_p
abbrev hk : PySem.W.Hook := hookM 5 fa fn ex
def ob (s : PySem.W.SharedT) : AlM := obsM 5 fa fn ex (HandSHeadRun.getT s)
theorem ob_eq (s : PySem.W.SharedT) : ob s = hk.obs s.abs := obsM_eq (HandSHeadRun.getT_eq s)
set_option maxHeartbeats 0 in
theorem run (w : World) : HandSHeadRun.RunEq RR (PySem.W.view RR.prog [48]) hk ob 8000 names w := by
  intro os
  kernel_rfl
/-! ### the end -/
theorem facts {w : World} {K : PySem.W.Frag} {h : Heap} {mg : Str → Option Value} {f : Addr} (X : K.In h) (G : h.Ns mainGlobals mg) (hfa : mg ("law" : Str) = some (.ref f)) (c : SaysM fa fn ex K) :
    ∃ fd : FuncData, (∀ (s : Shared) (v : Value), BindsTo s fd ⟨[v], []⟩ [("_law_script", v)]) ∧ ∀ base : Heap, K.In base → base.Ns mainGlobals mg → FnOk PySem.Challenge.pw_joinshelf_k38_whole_tasks_of_sizes_and_p w K mg base (L2.CX PySem.Challenge.pw_joinshelf_k38_whole_tasks_of_sizes_and_p w) 11 f fd ["_law_script"] (spLaw K) := by
  have T : EP K mg := ⟨h, X, G, c⟩
  obtain ⟨fd, F⟩ := T.def_ 32
  have e := hfa.symm.trans (T.glo 45)
  cases e
  have b := FunD.bindsA (ps := ["_law_script"]) F bd_law
  exact ⟨fd, fun s v => b s [v] rfl, fun base _ _ => ok_law T h1_law h2_law F⟩
end DL.Law
open PySem PySem.W PySem.Calls PyProof.Rows
set_option maxHeartbeats 0 in
theorem PySem.Challenge.cw_joinshelf_k38_whole_tasks_of_sizes_and_p_holds : PySem.Challenge.rw_joinshelf_k38_whole_tasks_of_sizes_and_p.Holds := by
  w_on; o_law
  refine HandSHeadRun.head_any (r := OpenLaw.row PySem.Challenge.rw_joinshelf_k38_whole_tasks_of_sizes_and_p) (q := view (OpenLaw.row PySem.Challenge.rw_joinshelf_k38_whole_tasks_of_sizes_and_p).prog [48]) (H := DL.Law.hk) (ob := DL.Law.ob) (M := 8000) (loose := DL.Law.names) (d := HandSHeadRun.topDef (OpenLaw.row PySem.Challenge.rw_joinshelf_k38_whole_tasks_of_sizes_and_p).prog 48) (kwd := []) DL.Law.ob_eq
    (by kernel_rfl) (fun s => by kernel_rfl) DL.Law.run (by kernel_rfl) (by kernel_rfl) (by kernel_rfl) (by rfl) (by first | assumption | decide +kernel) (by decide +kernel) ⟨rfl, rfl, rfl, rfl, rfl, by decide +kernel⟩ ?hw ?hc
  case hw => w_witness2
  case hc =>
    refine DL.walk_ofD (l := PySem.Challenge.rw_joinshelf_k38_whole_tasks_of_sizes_and_p) (n := 63) (k := 11) (x := "_law_script") rfl (by decide) (by kernel_rfl) ⟨rfl, by decide, by decide⟩ ?F
    intro w mg fa h Y G hmg0
    obtain ⟨K, KX, c⟩ := Y
    have hmg : mg ("law" : PySem.Str) = some (.ref fa) := by
      have e : (HandSHeadRun.topDef (OpenLaw.row PySem.Challenge.rw_joinshelf_k38_whole_tasks_of_sizes_and_p).prog 48).name = ("law" : PySem.Str) := by kernel_rfl
      rw [← e]
      exact hmg0
    obtain ⟨fd, hb, hF⟩ := DL.Law.facts (w := w) KX G hmg c
    exact ⟨K, fd, DL.spLaw K, KX, hb, fun H a ns hl _ hS => ⟨a, ns, rfl, hS, hl, fun _ => rfl⟩, hF⟩

