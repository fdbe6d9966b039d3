import PyProof.Rows.All
import Wide.All
import OpenK.AllK
import Wide.FinOn
import HandS.ForMost
import HandS.Evl
import HandS.Wide
import HandS.WideBits
import HandS.Style
import HandS.Conv
import HandS.Walk
import HandS.Codes
import HandS.NoneIn
import HandS.IsInst
import HandS.Defaults
import HandS.SortInts
import HandS.MakeKw
import HandS.MakeKwOnly
import HandS.RaiseMore
import HandS.OwnEq
import HandS.More
import HandS.Head0
import HandS.Head1
import HandS.Head2
import HandS.HeadEnd
import HandS.HeadHook1
import HandS.HeadHook2
import HandS.HeadHook3
import HandS.HeadHook4
import Wide.Once
import PySem.Challenge.RW_seamlayers_k01_kinds_and_waits
set_option Elab.async false
set_option linter.all false
set_option maxRecDepth 100000
set_option maxHeartbeats 0
/-! A layer of my own: Python data as Lean data (D), where it stands in a heap (Rep), what slots hold (Rl), what expressions and statements compute (EV, EO, ET, SS). -/
namespace Lay
open PySem PySem.Spec PyProof.Rows L2
open Evl (Ex)
abbrev Fg := PySem.W.Frag

/-! ### data -/
inductive D where
  | non | bl (b : Bool) | int (i : Int) | str (s : Str)
  | lst (xs : List D) | tup (xs : List D)
  | scr (ns : List Int)
  | obj (c : Str) (ns : List Str) (ds : List D)
  deriving Inhabited

mutual
def Rep (K : Fg) (cl : Str → Addr) (H : Hp) : V → D → Prop
  | v, .non => v = .non
  | v, .bl b => v = .bl b
  | v, .int i => v = .int i
  | v, .str s => v = .str s
  | v, .lst ds => ∃ a vs, v = .ref a ∧ H a = some (.lst vs) ∧ Reps K cl H vs ds
  | v, .tup ds => ∃ a vs, v = .ref a ∧ H a = some (.tup vs) ∧ Reps K cl H vs ds
  | v, .scr ns => ∃ a, v = .ref a ∧ SqL K H a (ns.map V.int)
  | v, .obj c ns ds => ∃ a dx vs, v = .ref a ∧ H a = some (.ins (cl c) dx (ns.zip vs)) ∧ ns.length = vs.length ∧ Reps K cl H vs ds
def Reps (K : Fg) (cl : Str → Addr) (H : Hp) : List V → List D → Prop
  | vs, [] => vs = []
  | vs, d :: ds => ∃ v r, vs = v :: r ∧ Rep K cl H v d ∧ Reps K cl H r ds
end

section
variable {K : Fg} {cl : Str → Addr} {H H' : Hp}
mutual
theorem Rep.mono (e : Ex H H') : ∀ {d : D} {v : V}, Rep K cl H v d → Rep K cl H' v d
  | .non, _, h => h
  | .bl _, _, h => h
  | .int _, _, h => h
  | .str _, _, h => h
  | .lst ds, v, h => by
    unfold Rep at h ⊢
    obtain ⟨a, vs, h1, h2, h3⟩ := h
    exact ⟨a, vs, h1, e _ _ h2, Reps.mono e h3⟩
  | .tup ds, v, h => by
    unfold Rep at h ⊢
    obtain ⟨a, vs, h1, h2, h3⟩ := h
    exact ⟨a, vs, h1, e _ _ h2, Reps.mono e h3⟩
  | .scr ns, v, h => by
    unfold Rep at h ⊢
    obtain ⟨a, h1, h2⟩ := h
    exact ⟨a, h1, Evl.ex_l e h2⟩
  | .obj c ns ds, v, h => by
    unfold Rep at h ⊢
    obtain ⟨a, dx, vs, h1, h2, h3, h4⟩ := h
    exact ⟨a, dx, vs, h1, e _ _ h2, h3, Reps.mono e h4⟩
theorem Reps.mono (e : Ex H H') : ∀ {ds : List D} {vs : List V}, Reps K cl H vs ds → Reps K cl H' vs ds
  | [], _, h => h
  | d :: ds, vs, h => by
    unfold Reps at h ⊢
    obtain ⟨v, r, h1, h2, h3⟩ := h
    exact ⟨v, r, h1, Rep.mono e h2, Reps.mono e h3⟩
end
theorem Reps.nil_iff {vs : List V} : Reps K cl H vs [] ↔ vs = [] := by unfold Reps; exact Iff.rfl
theorem Reps.cons_iff {vs : List V} {d : D} {ds : List D} : Reps K cl H vs (d :: ds) ↔ ∃ v r, vs = v :: r ∧ Rep K cl H v d ∧ Reps K cl H r ds := by
  rw [Reps]
theorem Reps.nil : Reps K cl H [] [] := Reps.nil_iff.2 rfl
theorem Reps.cons {v : V} {r : List V} {d : D} {ds : List D} (h : Rep K cl H v d) (t : Reps K cl H r ds) : Reps K cl H (v :: r) (d :: ds) := Reps.cons_iff.2 ⟨v, r, rfl, h, t⟩
theorem Reps.length : ∀ {ds : List D} {vs : List V}, Reps K cl H vs ds → vs.length = ds.length
  | [], _, h => by rw [Reps.nil_iff.1 h]; rfl
  | d :: ds, _, h => by
    obtain ⟨v, r, rfl, _, t⟩ := Reps.cons_iff.1 h
    simp [Reps.length t]
theorem Reps.append : ∀ {ds es : List D} {vs us : List V}, Reps K cl H vs ds → Reps K cl H us es → Reps K cl H (vs ++ us) (ds ++ es)
  | [], _, _, _, h, g => by rw [Reps.nil_iff.1 h]; exact g
  | d :: ds, _, _, _, h, g => by
    obtain ⟨v, r, rfl, h1, t⟩ := Reps.cons_iff.1 h
    exact Reps.cons h1 (Reps.append t g)
theorem Reps.get : ∀ {ds : List D} {vs : List V} {i : Nat} {d : D}, Reps K cl H vs ds → ds[i]? = some d → ∃ v, vs[i]? = some v ∧ Rep K cl H v d
  | [], _, _, _, h, e => by simp at e
  | d :: ds, _, 0, _, h, e => by
    obtain ⟨v, r, rfl, h1, t⟩ := Reps.cons_iff.1 h
    simp at e; subst e
    exact ⟨v, rfl, h1⟩
  | d :: ds, _, i + 1, _, h, e => by
    obtain ⟨v, r, rfl, h1, t⟩ := Reps.cons_iff.1 h
    obtain ⟨u, h2, h3⟩ := Reps.get (i := i) t (by simpa using e)
    exact ⟨u, by simpa using h2, h3⟩
theorem Reps.getV : ∀ {ds : List D} {vs : List V} {i : Nat} {v : V}, Reps K cl H vs ds → vs[i]? = some v → ∃ d, ds[i]? = some d ∧ Rep K cl H v d
  | [], _, _, _, h, e => by rw [Reps.nil_iff.1 h] at e; simp at e
  | d :: ds, _, 0, _, h, e => by
    obtain ⟨v, r, rfl, h1, t⟩ := Reps.cons_iff.1 h
    simp at e; subst e
    exact ⟨d, rfl, h1⟩
  | d :: ds, _, i + 1, _, h, e => by
    obtain ⟨v, r, rfl, h1, t⟩ := Reps.cons_iff.1 h
    obtain ⟨u, h2, h3⟩ := Reps.getV (i := i) t (by simpa using e)
    exact ⟨u, by simpa using h2, h3⟩
theorem Reps.take : ∀ {ds : List D} {vs : List V} (n : Nat), Reps K cl H vs ds → Reps K cl H (vs.take n) (ds.take n)
  | _, _, 0, _ => Reps.nil
  | [], _, n + 1, h => by rw [Reps.nil_iff.1 h]; exact Reps.nil
  | d :: ds, _, n + 1, h => by
    obtain ⟨v, r, rfl, h1, t⟩ := Reps.cons_iff.1 h
    exact Reps.cons h1 (Reps.take n t)
theorem Reps.drop : ∀ {ds : List D} {vs : List V} (n : Nat), Reps K cl H vs ds → Reps K cl H (vs.drop n) (ds.drop n)
  | _, _, 0, h => h
  | [], _, n + 1, h => by rw [Reps.nil_iff.1 h]; exact Reps.nil
  | d :: ds, _, n + 1, h => by
    obtain ⟨v, r, rfl, h1, t⟩ := Reps.cons_iff.1 h
    exact Reps.drop n t
theorem Reps.set : ∀ {ds : List D} {vs : List V} {v : V} {d : D} (n : Nat), Reps K cl H vs ds → Rep K cl H v d → Reps K cl H (vs.set n v) (ds.set n d)
  | [], _, _, _, n, h, _ => by rw [Reps.nil_iff.1 h]; exact Reps.nil
  | e :: ds, _, _, _, 0, h, g => by
    obtain ⟨u, r, rfl, h1, t⟩ := Reps.cons_iff.1 h
    exact Reps.cons g t
  | e :: ds, _, _, _, n + 1, h, g => by
    obtain ⟨u, r, rfl, h1, t⟩ := Reps.cons_iff.1 h
    exact Reps.cons h1 (Reps.set n t g)
theorem Reps.reverse {ds : List D} {vs : List V} (h : Reps K cl H vs ds) : Reps K cl H vs.reverse ds.reverse := by
  induction ds generalizing vs with
  | nil => rw [Reps.nil_iff.1 h]; exact Reps.nil
  | cons d ds ih =>
    obtain ⟨v, r, rfl, h1, t⟩ := Reps.cons_iff.1 h
    rw [List.reverse_cons, List.reverse_cons]
    exact Reps.append (ih t) (Reps.cons h1 Reps.nil)
theorem Reps.dropLast {ds : List D} {vs : List V} (h : Reps K cl H vs ds) : Reps K cl H vs.dropLast ds.dropLast := by
  rw [List.dropLast_eq_take, List.dropLast_eq_take, h.length]
  exact h.take _
theorem Reps.rep {ds : List D} {vs : List V} (h : Reps K cl H vs ds) : ∀ n, Reps K cl H (List.replicate n vs).flatten (List.replicate n ds).flatten
  | 0 => Reps.nil
  | n + 1 => by
    rw [List.replicate_succ, List.replicate_succ, List.flatten_cons, List.flatten_cons]
    exact Reps.append h (Reps.rep h n)
theorem Reps.ints : ∀ (ns : List Int), Reps K cl H (ns.map V.int) (ns.map D.int)
  | [] => Reps.nil
  | n :: ns => Reps.cons (by unfold Rep; rfl) (Reps.ints ns)
end

/-! ### what a part of the heap hides -/
def hid (M : List Addr) (H : Hp) : Hp := fun a => if a ∈ M then none else H a
theorem hid_nil (H : Hp) : hid [] H = H := by funext a; simp [hid]
theorem hid_not {M : List Addr} {H : Hp} {a : Addr} (h : a ∉ M) : hid M H a = H a := if_neg h
theorem hid_some {M : List Addr} {H : Hp} {a : Addr} {o : HO} (h : hid M H a = some o) : a ∉ M ∧ H a = some o := by
  unfold hid at h
  split at h
  · cases h
  · exact ⟨by assumption, h⟩
theorem ex_hid {M : List Addr} {H H' : Hp} (e : Ex H H') : Ex (hid M H) (hid M H') := fun a o h => by
  obtain ⟨h1, h2⟩ := hid_some h
  rw [hid_not h1]
  exact e a o h2
/-- a view grows where less is hidden -/
theorem ex_sub {M M' : List Addr} {H H' : Hp} (e : ∀ a o, H a = some o → a ∉ M → H' a = some o) (s : ∀ a, a ∈ M' → a ∈ M ∨ H a = none) : Ex (hid M H) (hid M' H') := fun a o h => by
  obtain ⟨h1, h2⟩ := hid_some h
  have : a ∉ M' := fun q => by
    rcases s a q with z | z
    · exact h1 z
    · rw [h2] at z; cases z
  rw [hid_not this]
  exact e a o h2 h1
theorem ex_le {M M' : List Addr} {H : Hp} (s : ∀ a, a ∈ M' → a ∈ M) : Ex (hid M H) (hid M' H) := ex_sub (fun _ _ h _ => h) fun a h => .inl (s a h)

/-! ### slots -/
inductive Slot where
  | emp | val (d : D) | own (xs : List D) | par (xs : List D)
  deriving Inhabited
inductive SR (K : Fg) (cl : Str → Addr) (V : Hp) (H : Hp) (q : Option Addr) : List Slot → L2.St → List Addr → Prop
  | nil : SR K cl V H q [] [] []
  | emp {x e σ os} : SR K cl V H q e σ os → SR K cl V H q (.emp :: e) (x :: σ) os
  | val {v d e σ os} : Rep K cl V v d → SR K cl V H q e σ os → SR K cl V H q (.val d :: e) (some v :: σ) os
  | own {p vs xs e σ os} : H p = some (.lst vs) → Reps K cl V vs xs → SR K cl V H q e σ os → SR K cl V H q (.own xs :: e) (some (.ref p) :: σ) (p :: os)
  | par {p vs xs e σ os} : q = some p → H p = some (.lst vs) → Reps K cl V vs xs → SR K cl V H q e σ os → SR K cl V H q (.par xs :: e) (some (.ref p) :: σ) os
structure Rl (K : Fg) (cl : Str → Addr) (M : List Addr) (q : Option Addr) (os : List Addr) (e : List Slot) (σ : L2.St) (H : Hp) : Prop where
  sr : SR K cl (hid (os ++ M) H) H q e σ os
  nd : os.Nodup
  dj : ∀ p ∈ os, p ∉ M
  tr : ∀ a ∈ os ++ M, H a ≠ none
  qm : ∀ a, q = some a → a ∈ M

section
variable {K : Fg} {cl : Str → Addr} {V V' H H' : Hp} {q : Option Addr} {e : List Slot} {σ : L2.St} {os M : List Addr}
theorem SR.mono (h : SR K cl V H q e σ os) (v : Ex V V') (k : ∀ a o, (a ∈ os ∨ q = some a) → H a = some o → H' a = some o) : SR K cl V' H' q e σ os := by
  induction h with
  | nil => exact .nil
  | emp _ ih => exact .emp (ih k)
  | val r _ ih => exact .val (r.mono v) (ih k)
  | own h1 h2 _ ih => exact .own (k _ _ (.inl (by simp)) h1) (h2.mono v) (ih fun a o ha => k a o (ha.imp (by intro z; simp [z]) id))
  | par hq h1 h2 _ ih => exact .par hq (k _ _ (.inr hq) h1) (h2.mono v) (ih k)
theorem Rl.ex (r : Rl K cl M q os e σ H) (x : Ex H H') : Rl K cl M q os e σ H' :=
  ⟨r.sr.mono (ex_hid x) fun a o _ h => x a o h, r.nd, r.dj, fun a ha => by
    cases h : H a with
    | none => exact absurd h (r.tr a ha)
    | some o => rw [x a o h]; simp, r.qm⟩
theorem SR.len (h : SR K cl V H q e σ os) : σ.length = e.length := by
  induction h with
  | nil => rfl
  | emp _ ih => simp [ih]
  | val _ _ ih => simp [ih]
  | own _ _ _ ih => simp [ih]
  | par _ _ _ _ ih => simp [ih]
theorem SR.get_val (h : SR K cl V H q e σ os) : ∀ {i : Nat} {d : D}, e[i]? = some (.val d) → ∃ v, σ[i]? = some (some v) ∧ Rep K cl V v d := by
  induction h with
  | nil => intro i d h; simp at h
  | emp _ ih => intro i d h; cases i with
    | zero => simp at h
    | succ i => simpa using ih (i := i) (by simpa using h)
  | val r _ ih => intro i d h; cases i with
    | zero => simp at h; subst h; exact ⟨_, rfl, r⟩
    | succ i => simpa using ih (i := i) (by simpa using h)
  | own _ _ _ ih => intro i d h; cases i with
    | zero => simp at h
    | succ i => simpa using ih (i := i) (by simpa using h)
  | par _ _ _ _ ih => intro i d h; cases i with
    | zero => simp at h
    | succ i => simpa using ih (i := i) (by simpa using h)
theorem SR.get_own (h : SR K cl V H q e σ os) : ∀ {i : Nat} {xs : List D}, e[i]? = some (.own xs) → ∃ p vs, σ[i]? = some (some (.ref p)) ∧ p ∈ os ∧ H p = some (.lst vs) ∧ Reps K cl V vs xs := by
  induction h with
  | nil => intro i d h; simp at h
  | emp _ ih => intro i d h; cases i with
    | zero => simp at h
    | succ i => simpa using ih (i := i) (by simpa using h)
  | val r _ ih => intro i d h; cases i with
    | zero => simp at h
    | succ i => simpa using ih (i := i) (by simpa using h)
  | own h1 h2 _ ih => intro i d h; cases i with
    | zero => simp at h; subst h; exact ⟨_, _, rfl, by simp, h1, h2⟩
    | succ i =>
      obtain ⟨p, vs, a, b, c, d⟩ := ih (i := i) (by simpa using h)
      exact ⟨p, vs, by simpa using a, by simp [b], c, d⟩
  | par _ _ _ _ ih => intro i d h; cases i with
    | zero => simp at h
    | succ i => simpa using ih (i := i) (by simpa using h)
theorem SR.get_par (h : SR K cl V H q e σ os) : ∀ {i : Nat} {xs : List D}, e[i]? = some (.par xs) → ∃ p vs, σ[i]? = some (some (.ref p)) ∧ q = some p ∧ H p = some (.lst vs) ∧ Reps K cl V vs xs := by
  induction h with
  | nil => intro i d h; simp at h
  | emp _ ih => intro i d h; cases i with
    | zero => simp at h
    | succ i => simpa using ih (i := i) (by simpa using h)
  | val r _ ih => intro i d h; cases i with
    | zero => simp at h
    | succ i => simpa using ih (i := i) (by simpa using h)
  | own h1 h2 _ ih => intro i d h; cases i with
    | zero => simp at h
    | succ i => simpa using ih (i := i) (by simpa using h)
  | par hq h1 h2 _ ih => intro i d h; cases i with
    | zero => simp at h; subst h; exact ⟨_, _, rfl, hq, h1, h2⟩
    | succ i => simpa using ih (i := i) (by simpa using h)
/-- a value is put into a slot; what it owned is let go -/
theorem SR.set_val {v : L2.V} {d : D} (h : SR K cl V H q e σ os) (r : Rep K cl V v d) : ∀ (i : Nat), ∃ os', (∀ p ∈ os', p ∈ os) ∧ (os.Nodup → os'.Nodup) ∧ SR K cl V H q (e.set i (.val d)) (σ.set i (some v)) os' := by
  induction h with
  | nil => intro i; exact ⟨[], fun _ z => z, fun z => z, .nil⟩
  | @emp x e σ os h ih => intro i; cases i with
    | zero => exact ⟨os, fun _ z => z, fun z => z, .val r h⟩
    | succ i => obtain ⟨os', a, b, c⟩ := ih i; exact ⟨os', a, b, .emp c⟩
  | @val v' d' e σ os r' h ih => intro i; cases i with
    | zero => exact ⟨os, fun _ z => z, fun z => z, .val r h⟩
    | succ i => obtain ⟨os', a, b, c⟩ := ih i; exact ⟨os', a, b, .val r' c⟩
  | @own p vs xs e σ os h1 h2 h ih => intro i; cases i with
    | zero => exact ⟨os, fun _ z => by simp [z], fun z => (List.nodup_cons.1 z).2, .val r h⟩
    | succ i =>
      obtain ⟨os', a, b, c⟩ := ih i
      refine ⟨p :: os', fun y hy => ?_, fun z => ?_, .own h1 h2 c⟩
      · rcases List.mem_cons.1 hy with rfl | hy
        · simp
        · simp [a y hy]
      · obtain ⟨z1, z2⟩ := List.nodup_cons.1 z
        exact List.nodup_cons.2 ⟨fun q => z1 (a _ q), b z2⟩
  | @par p vs xs e σ os hq h1 h2 h ih => intro i; cases i with
    | zero => exact ⟨os, fun _ z => z, fun z => z, .val r h⟩
    | succ i => obtain ⟨os', a, b, c⟩ := ih i; exact ⟨os', a, b, .par hq h1 h2 c⟩
theorem SR.set_emp {x : Option L2.V} (h : SR K cl V H q e σ os) : ∀ (i : Nat), ∃ os', (∀ p ∈ os', p ∈ os) ∧ (os.Nodup → os'.Nodup) ∧ SR K cl V H q (e.set i .emp) (σ.set i x) os' := by
  induction h with
  | nil => intro i; exact ⟨[], fun _ z => z, fun z => z, .nil⟩
  | @emp x e σ os h ih => intro i; cases i with
    | zero => exact ⟨os, fun _ z => z, fun z => z, .emp h⟩
    | succ i => obtain ⟨os', a, b, c⟩ := ih i; exact ⟨os', a, b, .emp c⟩
  | @val v' d' e σ os r' h ih => intro i; cases i with
    | zero => exact ⟨os, fun _ z => z, fun z => z, .emp h⟩
    | succ i => obtain ⟨os', a, b, c⟩ := ih i; exact ⟨os', a, b, .val r' c⟩
  | @own p vs xs e σ os h1 h2 h ih => intro i; cases i with
    | zero => exact ⟨os, fun _ z => by simp [z], fun z => (List.nodup_cons.1 z).2, .emp h⟩
    | succ i =>
      obtain ⟨os', a, b, c⟩ := ih i
      refine ⟨p :: os', fun y hy => ?_, fun z => ?_, .own h1 h2 c⟩
      · rcases List.mem_cons.1 hy with rfl | hy
        · simp
        · simp [a y hy]
      · obtain ⟨z1, z2⟩ := List.nodup_cons.1 z
        exact List.nodup_cons.2 ⟨fun q => z1 (a _ q), b z2⟩
  | @par p vs xs e σ os hq h1 h2 h ih => intro i; cases i with
    | zero => exact ⟨os, fun _ z => z, fun z => z, .emp h⟩
    | succ i => obtain ⟨os', a, b, c⟩ := ih i; exact ⟨os', a, b, .par hq h1 h2 c⟩
/-- a new list is put into a slot that owns it from now on -/
theorem SR.set_own {p : Addr} {vs : List L2.V} {xs : List D} (h : SR K cl V H q e σ os) (hp : H p = some (.lst vs)) (r : Reps K cl V vs xs) : ∀ (i : Nat), i < e.length → ∃ os', (∀ y ∈ os', y = p ∨ y ∈ os) ∧ p ∈ os' ∧ (p ∉ os → os.Nodup → os'.Nodup) ∧ SR K cl V H q (e.set i (.own xs)) (σ.set i (some (.ref p))) os' := by
  induction h with
  | nil => intro i hi; simp at hi
  | @emp x e σ os h ih => intro i hi; cases i with
    | zero => exact ⟨p :: os, fun _ z => by simpa using z, by simp, fun a b => List.nodup_cons.2 ⟨a, b⟩, .own hp r h⟩
    | succ i => obtain ⟨os', a, b, c, d⟩ := ih i (by simpa using hi); exact ⟨os', a, b, c, .emp d⟩
  | @val v' d' e σ os r' h ih => intro i hi; cases i with
    | zero => exact ⟨p :: os, fun _ z => by simpa using z, by simp, fun a b => List.nodup_cons.2 ⟨a, b⟩, .own hp r h⟩
    | succ i => obtain ⟨os', a, b, c, d⟩ := ih i (by simpa using hi); exact ⟨os', a, b, c, .val r' d⟩
  | @own p' vs' xs' e σ os h1 h2 h ih => intro i hi; cases i with
    | zero =>
      refine ⟨p :: os, fun y z => ?_, by simp, fun a b => List.nodup_cons.2 ⟨fun z => a (by simp [z]), (List.nodup_cons.1 b).2⟩, .own hp r h⟩
      rcases List.mem_cons.1 z with z | z
      · exact .inl z
      · exact .inr (by simp [z])
    | succ i =>
      obtain ⟨os', a, b, c, d⟩ := ih i (by simpa using hi)
      refine ⟨p' :: os', fun y hy => ?_, by simp [b], fun z1 z2 => ?_, .own h1 h2 d⟩
      · rcases List.mem_cons.1 hy with rfl | hy
        · simp
        · rcases a y hy with z | z
          · exact .inl z
          · exact .inr (by simp [z])
      · obtain ⟨y1, y2⟩ := List.nodup_cons.1 z2
        have z1' : p ≠ p' ∧ p ∉ os := by simpa using z1
        refine List.nodup_cons.2 ⟨fun z => ?_, c z1'.2 y2⟩
        rcases a _ z with z | z
        · exact z1'.1 z.symm
        · exact y1 z
  | @par p' vs' xs' e σ os hq h1 h2 h ih => intro i hi; cases i with
    | zero => exact ⟨p :: os, fun _ z => by simpa using z, by simp, fun a b => List.nodup_cons.2 ⟨a, b⟩, .own hp r h⟩
    | succ i => obtain ⟨os', a, b, c, d⟩ := ih i (by simpa using hi); exact ⟨os', a, b, c, .par hq h1 h2 d⟩
end
end Lay

namespace Lay
open PySem PySem.Spec PyProof.Rows L2
open Evl (Ex)
abbrev Env' := List Slot
def vw (w : Bool) (os M : List Addr) : List Addr := if w = true then os ++ M else M
def Tk (M : List Addr) (H : Hp) : Prop := ∀ a ∈ M, H a ≠ none
theorem Tk.new {M : List Addr} {H : Hp} {p : Addr} (t : Tk M H) (h : H p = none) : p ∉ M := fun z => t p z h
theorem Tk.ex {M : List Addr} {H H' : Hp} (t : Tk M H) (e : Ex H H') : Tk M H' := fun a ha => by
  cases h : H a with
  | none => exact absurd h (t a ha)
  | some o => rw [e a o h]; simp
section
variable {K : Fg} {cl : Str → Addr} {M os : List Addr} {q : Option Addr} {ev : Env'} {σ : L2.St} {H H' : Hp}
theorem vw_sub (w : Bool) : ∀ a, a ∈ vw w os M → a ∈ os ++ M := by
  intro a h
  cases w with
  | true => exact h
  | false => exact List.mem_append_right _ h
theorem vw_sub' (w : Bool) : ∀ a, a ∈ M → a ∈ vw w os M := by
  intro a h
  cases w with
  | true => exact List.mem_append_right _ h
  | false => exact h
theorem Rl.tk (r : Rl K cl M q os ev σ H) (w : Bool) : Tk (vw w os M) H := fun a h => r.tr a (vw_sub w a h)
end

/-! ### what expressions come to -/
section
variable (w : Bool) (X : Cx) (cl : Str → Addr)
/-- a value -/
def EV (e : Expr) (m : Env' → Option D) : Prop :=
  ∃ te, PE X e te ∧ ∀ M q os ev σ H d, m ev = some d → Rl X.K cl M q os ev σ H → ∀ Q : VK, (∀ v H', Ex H H' → Rep X.K cl (hid (vw w os M) H') v d → Q v H') → te σ H Q
/-- a new list -/
def EO (e : Expr) (m : Env' → Option (List D)) : Prop :=
  ∃ te, PE X e te ∧ ∀ M q os ev σ H d, m ev = some d → Rl X.K cl M q os ev σ H → ∀ Q : VK, (∀ p H' vs, H p = none → Ex H H' → H' p = some (.lst vs) → Reps X.K cl (hid (p :: vw w os M) H') vs d → Q (.ref p) H') → te σ H Q
/-- arguments -/
def EA (es : List Expr) (m : Env' → Option (List D)) : Prop :=
  ∃ te, PA X es te ∧ ∀ M q os ev σ H d, m ev = some d → Rl X.K cl M q os ev σ H → ∀ Q : List L2.V → Hp → Prop, (∀ v H', Ex H H' → Reps X.K cl (hid (vw w os M) H') v d → Q v H') → te σ H Q
/-- a test -/
def ET (e : Expr) (m : Env' → Option Bool) : Prop :=
  ∃ te, PT X e te ∧ ∀ M q os ev σ H d, m ev = some d → Rl X.K cl M q os ev σ H → ∀ Q : Bool → Hp → Prop, (∀ H', Ex H H' → Q d H') → te σ H Q
def EW (e : Expr) (m : Env' → Option Bool) : Prop :=
  ∃ te, PW X e te ∧ ∀ M q os ev σ H d, m ev = some d → Rl X.K cl M q os ev σ H → ∀ Q : Bool → Hp → Prop, (∀ H', Ex H H' → Q d H') → te σ H Q
end

def D.flat : D → Bool
  | .non => true | .bl _ => true | .int _ => true | .str _ => true | _ => false
theorem Rep.flat {K : Fg} {cl : Str → Addr} {H H' : Hp} {v : L2.V} {d : D} (f : d.flat = true) (h : Rep K cl H v d) : Rep K cl H' v d := by
  cases d <;> first | (unfold Rep at h ⊢; exact h) | exact absurd f (by simp [D.flat])
theorem Reps.flat {K : Fg} {cl : Str → Addr} {H H' : Hp} : ∀ {ds : List D} {vs : List L2.V}, ds.all D.flat = true → Reps K cl H vs ds → Reps K cl H' vs ds
  | [], vs, _, h => by rw [Reps.nil_iff.1 h]; exact Reps.nil
  | d :: ds, vs, f, h => by
    obtain ⟨v, r, rfl, h1, t⟩ := Reps.cons_iff.1 h
    rw [List.all_cons, Bool.and_eq_true] at f
    exact Reps.cons (h1.flat f.1) (Reps.flat f.2 t)

section
variable {w : Bool} {X : Cx} {cl : Str → Addr} {e a b c : Expr} {es : List Expr} {pos : Pos}
variable {m ma mb mc : Env' → Option D}
theorem rep_lst {K : Fg} {H : Hp} {p : Addr} {vs : List L2.V} {xs : List D} {M : List Addr} (h : H p = some (.lst vs)) (hm : p ∉ M) (r : Reps K cl (hid (p :: M) H) vs xs) : Rep K cl (hid M H) (.ref p) (.lst xs) := by
  unfold Rep
  exact ⟨p, vs, rfl, by rw [hid_not hm]; exact h, r.mono (ex_le fun a ha => by simp [ha])⟩
theorem ev_of_eo {m : Env' → Option (List D)} (h : EO w X cl e m) : EV w X cl e (fun ev => (m ev).map D.lst) := by
  obtain ⟨te, hp, h⟩ := h
  refine ⟨te, hp, fun M q os ev σ H d hm r Q k => ?_⟩
  obtain ⟨xs, h1, rfl⟩ := Option.map_eq_some_iff.1 hm
  exact h M q os ev σ H xs h1 r _ fun p H' vs hn e2 h2 h3 => k _ _ e2 (rep_lst h2 ((r.tk w).new hn) h3)
theorem ev_loose (h : EV true X cl e m) : EV false X cl e m := by
  obtain ⟨te, hp, h⟩ := h
  exact ⟨te, hp, fun M q os ev σ H d hm r Q k => h M q os ev σ H d hm r Q fun v H' e2 h3 => k v H' e2 (h3.mono (ex_le fun a ha => List.mem_append_right _ ha))⟩
theorem ea_loose {m : Env' → Option (List D)} (h : EA true X cl es m) : EA false X cl es m := by
  obtain ⟨te, hp, h⟩ := h
  exact ⟨te, hp, fun M q os ev σ H d hm r Q k => h M q os ev σ H d hm r Q fun v H' e2 h3 => k v H' e2 (h3.mono (ex_le fun a ha => List.mem_append_right _ ha))⟩
/-- a flat value may be told of every view -/
def tight (m : Env' → Option D) : Env' → Option D := fun ev => (m ev).bind fun d => if d.flat = true then some d else none
theorem ev_tight (h : EV false X cl e m) : EV w X cl e (tight m) := by
  obtain ⟨te, hp, h⟩ := h
  refine ⟨te, hp, fun M q os ev σ H d hm r Q k => ?_⟩
  obtain ⟨d', h1, h2⟩ := Option.bind_eq_some_iff.1 hm
  split at h2
  · cases h2
    exact h M q os ev σ H _ h1 r Q fun v H' e2 h3 => k v H' e2 (h3.flat (by assumption))
  · cases h2
def tightO (m : Env' → Option (List D)) : Env' → Option (List D) := fun ev => (m ev).bind fun d => if d.all D.flat = true then some d else none
theorem eo_tight {m : Env' → Option (List D)} (h : EO false X cl e m) : EO w X cl e (tightO m) := by
  obtain ⟨te, hp, h⟩ := h
  refine ⟨te, hp, fun M q os ev σ H d hm r Q k => ?_⟩
  obtain ⟨d', h1, h2⟩ := Option.bind_eq_some_iff.1 hm
  split at h2
  · cases h2
    exact h M q os ev σ H _ h1 r Q fun p H' vs hn e2 h3 h4 => k p H' vs hn e2 h3 (h4.flat (by assumption))
  · cases h2

/-! names, constants -/
structure VarAt (X : Cx) (i : Nat) (x : Str) : Prop where
  ix : X.N[i]? = some x
  vis : Vis X.env.scope x
  nd : (x == ("__debug__" : Str)) = false
  nc : (x == ("__classdict__" : Str)) = false
def xv (i : Nat) : Env' → Option D := fun ev => match ev[i]? with
  | some (.val d) => some d
  | _ => none
/-- .. or what the slot owns -/
def xb (i : Nat) : Env' → Option D := fun ev => match ev[i]? with
  | some (.val d) => some d
  | some (.own xs) => some (.lst xs)
  | _ => none
def xc (d : D) : Env' → Option D := fun _ => some d
theorem ev_v {i : Nat} {x : Str} (h : VarAt X i x) : EV w X cl (.Name x pos) (xv i) := by
  refine ⟨tVar i, pe_var h.ix h.vis h.nd h.nc, fun M q os ev σ H d hm r Q k => ?_⟩
  unfold xv at hm
  split at hm
  · next d' hd =>
    cases hm
    obtain ⟨v, h1, h2⟩ := r.sr.get_val hd
    exact ⟨v, h1, k v H (Evl.Ex.refl H) (h2.mono (ex_le (vw_sub w)))⟩
  · cases hm
theorem ev_b {i : Nat} {x : Str} (h : VarAt X i x) : EV false X cl (.Name x pos) (xb i) := by
  refine ⟨tVar i, pe_var h.ix h.vis h.nd h.nc, fun M q os ev σ H d hm r Q k => ?_⟩
  unfold xb at hm
  split at hm
  · next d' hd =>
    cases hm
    obtain ⟨v, h1, h2⟩ := r.sr.get_val hd
    exact ⟨v, h1, k v H (Evl.Ex.refl H) (h2.mono (ex_le (vw_sub false)))⟩
  · next xs hd =>
    cases hm
    obtain ⟨p, vs, h1, h2, h3, h4⟩ := r.sr.get_own hd
    refine ⟨_, h1, k _ H (Evl.Ex.refl H) ?_⟩
    unfold Rep
    exact ⟨p, vs, rfl, by show hid M H p = _; rw [hid_not (r.dj p h2)]; exact h3, h4.mono (ex_le fun a ha => List.mem_append_right _ ha)⟩
  · cases hm
theorem ev_int {i : Int} {j : Nat} : EV w X cl (.Constant (.int i) j pos) (xc (.int i)) := by
  refine ⟨_, pe_int, fun M q os ev σ H d hm r Q k => ?_⟩
  cases hm
  exact k _ _ (Evl.Ex.refl H) (by unfold Rep; rfl)
theorem ev_bl {i : Bool} {j : Nat} : EV w X cl (.Constant (.bool i) j pos) (xc (.bl i)) := by
  refine ⟨_, pe_bl, fun M q os ev σ H d hm r Q k => ?_⟩
  cases hm
  exact k _ _ (Evl.Ex.refl H) (by unfold Rep; rfl)
theorem ev_non {j : Nat} : EV w X cl (.Constant .none j pos) (xc .non) := by
  refine ⟨_, pe_non, fun M q os ev σ H d hm r Q k => ?_⟩
  cases hm
  exact k _ _ (Evl.Ex.refl H) (by unfold Rep; rfl)
theorem ev_str {i : Str} {j : Nat} : EV w X cl (.Constant (.str i) j pos) (xc (.str i)) := by
  refine ⟨_, pe_str, fun M q os ev σ H d hm r Q k => ?_⟩
  cases hm
  exact k _ _ (Evl.Ex.refl H) (by unfold Rep; rfl)
/-- a number, a text, a truth value that the module has -/
theorem ev_globI {x : Str} {i : Int} {t : Tok} (hg : Gl X x) (hm : X.mg x = some (.int i t)) (hd : (x == ("__debug__" : Str)) = false) : EV w X cl (.Name x pos) (xc (.int i)) := by
  refine ⟨_, pe_glob hg hm (v := .int i) ⟨_, rfl⟩ hd, fun M q os ev σ H d hm r Q k => ?_⟩
  cases hm
  exact k _ _ (Evl.Ex.refl H) (by unfold Rep; rfl)

/-! arguments -/
theorem ea_nil : EA w X cl [] (fun _ => some []) := by
  refine ⟨_, pa_nil, fun M q os ev σ H d hm r Q k => ?_⟩
  cases hm
  exact k _ _ (Evl.Ex.refl H) Reps.nil
def acons (m : Env' → Option D) (n : Env' → Option (List D)) : Env' → Option (List D) := fun ev => do
  let d ← m ev
  let ds ← n ev
  some (d :: ds)
theorem acons_some {m : Env' → Option D} {n : Env' → Option (List D)} {ev : Env'} {r : List D} (h : acons m n ev = some r) : ∃ d ds, m ev = some d ∧ n ev = some ds ∧ r = d :: ds := by
  unfold acons at h
  cases h1 : m ev with
  | none => rw [h1] at h; cases h
  | some d =>
    rw [h1] at h
    cases h2 : n ev with
    | none => rw [h2] at h; cases h
    | some ds => rw [h2] at h; exact ⟨d, ds, rfl, rfl, (Option.some.inj h).symm⟩
theorem ea_cons {n : Env' → Option (List D)} (h : EV w X cl e m) (t : EA w X cl es n) (hs : starEach (e :: es) X.env = (false, eval e X.env) :: starEach es X.env := by rfl) : EA w X cl (e :: es) (acons m n) := by
  obtain ⟨te, hp, h⟩ := h
  obtain ⟨tr, hr, t⟩ := t
  refine ⟨_, pa_cons hp hr hs, fun M q os ev σ H d hm r Q k => ?_⟩
  obtain ⟨d, ds, h1, h2, rfl⟩ := acons_some hm
  exact h M q os ev σ H d h1 r _ fun v H1 e1 r1 => t M q os ev σ H1 ds h2 (r.ex e1) _ fun vs H2 e2 r2 => k _ _ (e1.trans e2) (Reps.cons (r1.mono (ex_hid e2)) r2)

/-! ### operations by values -/
/-- r comes to f: of one, of two values; to a new list -/
def RD1 (K : Fg) (cl : Str → Addr) (r : L2.V → Hp → VK → Prop) (f : D → Option D) : Prop :=
  ∀ M H x d d', f d = some d' → Tk M H → Rep K cl (hid M H) x d → ∀ Q : VK, (∀ v H', Ex H H' → Rep K cl (hid M H') v d' → Q v H') → r x H Q
def RD2 (K : Fg) (cl : Str → Addr) (r : R2) (f : D → D → Option D) : Prop :=
  ∀ M H x y d e d', f d e = some d' → Tk M H → Rep K cl (hid M H) x d → Rep K cl (hid M H) y e → ∀ Q : VK, (∀ v H', Ex H H' → Rep K cl (hid M H') v d' → Q v H') → r x y H Q
def RO2 (K : Fg) (cl : Str → Addr) (r : R2) (f : D → D → Option (List D)) : Prop :=
  ∀ M H x y d e d', f d e = some d' → Tk M H → Rep K cl (hid M H) x d → Rep K cl (hid M H) y e → ∀ Q : VK, (∀ p H' vs, H p = none → Ex H H' → H' p = some (.lst vs) → Reps K cl (hid (p :: M) H') vs d' → Q (.ref p) H') → r x y H Q
def RDL (K : Fg) (cl : Str → Addr) (r : List L2.V → Hp → VK → Prop) (f : List D → Option D) : Prop :=
  ∀ M H x d d', f d = some d' → Tk M H → Reps K cl (hid M H) x d → ∀ Q : VK, (∀ v H', Ex H H' → Rep K cl (hid M H') v d' → Q v H') → r x H Q
def ROL (K : Fg) (cl : Str → Addr) (r : List L2.V → Hp → VK → Prop) (f : List D → Option (List D)) : Prop :=
  ∀ M H x d d', f d = some d' → Tk M H → Reps K cl (hid M H) x d → ∀ Q : VK, (∀ p H' vs, H p = none → Ex H H' → H' p = some (.lst vs) → Reps K cl (hid (p :: M) H') vs d' → Q (.ref p) H') → r x H Q
/-- the same where the answer is flat -/
def m1 (f : D → Option D) (ma : Env' → Option D) : Env' → Option D := fun ev => do let d ← ma ev; f d
def m2 (f : D → D → Option D) (ma mb : Env' → Option D) : Env' → Option D := fun ev => do let d ← ma ev; let e ← mb ev; f d e
def m2o (f : D → D → Option (List D)) (ma mb : Env' → Option D) : Env' → Option (List D) := fun ev => do let d ← ma ev; let e ← mb ev; f d e
def mL (f : List D → Option D) (ma : Env' → Option (List D)) : Env' → Option D := fun ev => do let d ← ma ev; f d
def mLo (f : List D → Option (List D)) (ma : Env' → Option (List D)) : Env' → Option (List D) := fun ev => do let d ← ma ev; f d
theorem bind_some' {α β : Type} {o : Option α} {f : α → Option β} {b : β} (h : (o >>= f) = some b) : ∃ a, o = some a ∧ f a = some b := Option.bind_eq_some_iff.1 h

theorem tOp_ok {r : R2} {f : D → D → Option D} {ta tb : TE} (hr : RD2 X.K cl r f)
    (ha : ∀ M q os ev σ H d, ma ev = some d → Rl X.K cl M q os ev σ H → ∀ Q : VK, (∀ v H', Ex H H' → Rep X.K cl (hid (vw w os M) H') v d → Q v H') → ta σ H Q)
    (hb : ∀ M q os ev σ H d, mb ev = some d → Rl X.K cl M q os ev σ H → ∀ Q : VK, (∀ v H', Ex H H' → Rep X.K cl (hid (vw w os M) H') v d → Q v H') → tb σ H Q) :
    ∀ M q os ev σ H d, m2 f ma mb ev = some d → Rl X.K cl M q os ev σ H → ∀ Q : VK, (∀ v H', Ex H H' → Rep X.K cl (hid (vw w os M) H') v d → Q v H') → tOp r ta tb σ H Q := by
  intro M q os ev σ H d hm rl Q k
  obtain ⟨x, h1, hm⟩ := bind_some' hm
  obtain ⟨y, h2, hm⟩ := bind_some' hm
  exact ha M q os ev σ H x h1 rl _ fun v H1 e1 r1 => hb M q os ev σ H1 y h2 (rl.ex e1) _ fun u H2 e2 r2 => hr _ _ _ _ _ _ _ hm ((rl.ex (e1.trans e2)).tk w) (r1.mono (ex_hid e2)) r2 _ fun z H3 e3 r3 => k z H3 ((e1.trans e2).trans e3) r3
theorem tOpO_ok {r : R2} {f : D → D → Option (List D)} {ta tb : TE} (hr : RO2 X.K cl r f)
    (ha : ∀ M q os ev σ H d, ma ev = some d → Rl X.K cl M q os ev σ H → ∀ Q : VK, (∀ v H', Ex H H' → Rep X.K cl (hid (vw w os M) H') v d → Q v H') → ta σ H Q)
    (hb : ∀ M q os ev σ H d, mb ev = some d → Rl X.K cl M q os ev σ H → ∀ Q : VK, (∀ v H', Ex H H' → Rep X.K cl (hid (vw w os M) H') v d → Q v H') → tb σ H Q) :
    ∀ M q os ev σ H d, m2o f ma mb ev = some d → Rl X.K cl M q os ev σ H → ∀ Q : VK, (∀ p H' vs, H p = none → Ex H H' → H' p = some (.lst vs) → Reps X.K cl (hid (p :: vw w os M) H') vs d → Q (.ref p) H') → tOp r ta tb σ H Q := by
  intro M q os ev σ H d hm rl Q k
  obtain ⟨x, h1, hm⟩ := bind_some' hm
  obtain ⟨y, h2, hm⟩ := bind_some' hm
  exact ha M q os ev σ H x h1 rl _ fun v H1 e1 r1 => hb M q os ev σ H1 y h2 (rl.ex e1) _ fun u H2 e2 r2 => hr _ _ _ _ _ _ _ hm ((rl.ex (e1.trans e2)).tk w) (r1.mono (ex_hid e2)) r2 _ fun p H3 vs hn e3 h3 h4 => k p H3 vs (Evl.fresh_back (e1.trans e2) hn) ((e1.trans e2).trans e3) h3 h4
theorem ev_bin {op : Operator} {r : R2} {f : D → D → Option D} (ho : OpR X (binaryOp op) r) (hr : RD2 X.K cl r f) (ha : EV w X cl a ma) (hb : EV w X cl b mb) : EV w X cl (.BinOp a op b pos) (m2 f ma mb) := by
  obtain ⟨ta, pa, ha⟩ := ha
  obtain ⟨tb, pb, hb⟩ := hb
  exact ⟨_, pe_op ho pa pb, tOp_ok hr ha hb⟩
theorem eo_bin {op : Operator} {r : R2} {f : D → D → Option (List D)} (ho : OpR X (binaryOp op) r) (hr : RO2 X.K cl r f) (ha : EV w X cl a ma) (hb : EV w X cl b mb) : EO w X cl (.BinOp a op b pos) (m2o f ma mb) := by
  obtain ⟨ta, pa, ha⟩ := ha
  obtain ⟨tb, pb, hb⟩ := hb
  exact ⟨_, pe_op ho pa pb, tOpO_ok hr ha hb⟩
theorem ev_un {op : UnaryOp} {r : L2.V → Hp → VK → Prop} {f : D → Option D} (ho : UnR X (unaryOp op) r) (hr : RD1 X.K cl r f) (ha : EV w X cl a ma) : EV w X cl (.UnaryOp op a pos) (m1 f ma) := by
  obtain ⟨ta, pa, ha⟩ := ha
  refine ⟨_, pe_un ho pa, fun M q os ev σ H d hm rl Q k => ?_⟩
  obtain ⟨x, h1, hm⟩ := bind_some' hm
  exact ha M q os ev σ H x h1 rl _ fun v H1 e1 r1 => hr _ _ _ _ _ hm ((rl.ex e1).tk w) r1 _ fun z H3 e3 r3 => k z H3 (e1.trans e3) r3
/-- a comparison: its operands may be owned, its answer is flat -/
def RC2 (K : Fg) (cl : Str → Addr) (r : R2) (f : D → D → Option Bool) : Prop :=
  ∀ M H x y d e d', f d e = some d' → Tk M H → Rep K cl (hid M H) x d → Rep K cl (hid M H) y e → ∀ Q : VK, (∀ H', Ex H H' → Q (.bl d') H') → r x y H Q
def c2 (f : D → D → Option Bool) (ma mb : Env' → Option D) : Env' → Option Bool := fun ev => do let d ← ma ev; let e ← mb ev; f d e
def vB (m : Env' → Option Bool) : Env' → Option D := fun ev => (m ev).map D.bl
theorem tCmp_ok {r : R2} {f : D → D → Option Bool} {ta tb : TE} (hr : RC2 X.K cl r f)
    (ha : ∀ M q os ev σ H d, ma ev = some d → Rl X.K cl M q os ev σ H → ∀ Q : VK, (∀ v H', Ex H H' → Rep X.K cl (hid (vw false os M) H') v d → Q v H') → ta σ H Q)
    (hb : ∀ M q os ev σ H d, mb ev = some d → Rl X.K cl M q os ev σ H → ∀ Q : VK, (∀ v H', Ex H H' → Rep X.K cl (hid (vw false os M) H') v d → Q v H') → tb σ H Q) :
    ∀ M q os ev σ H d, c2 f ma mb ev = some d → Rl X.K cl M q os ev σ H → ∀ Q : VK, (∀ H', Ex H H' → Q (.bl d) H') → tOp r ta tb σ H Q := by
  intro M q os ev σ H d hm rl Q k
  obtain ⟨x, h1, hm⟩ := bind_some' hm
  obtain ⟨y, h2, hm⟩ := bind_some' hm
  exact ha M q os ev σ H x h1 rl _ fun v H1 e1 r1 => hb M q os ev σ H1 y h2 (rl.ex e1) _ fun u H2 e2 r2 => hr _ _ _ _ _ _ _ hm ((rl.ex (e1.trans e2)).tk false) (r1.mono (ex_hid e2)) r2 _ fun H3 e3 => k H3 ((e1.trans e2).trans e3)
theorem ev_cmp {op : CmpOp} {r : R2} {f : D → D → Option Bool} (ho : OpR X (compareOp op) r) (hr : RC2 X.K cl r f) (ha : EV false X cl a ma) (hb : EV false X cl b mb) (hmk : behindInMarks op b = false) : EV w X cl (.Compare a [op] [b] pos) (vB (c2 f ma mb)) := by
  obtain ⟨ta, pa, ha⟩ := ha
  obtain ⟨tb, pb, hb⟩ := hb
  refine ⟨_, pe_cmpR ho pa pb hmk, fun M q os ev σ H d hm rl Q k => ?_⟩
  obtain ⟨x, h1, rfl⟩ := Option.map_eq_some_iff.1 hm
  exact tCmp_ok hr ha hb M q os ev σ H x h1 rl _ fun H' e' => k _ H' e' (by unfold Rep; rfl)
theorem et_cmp {op : CmpOp} {r : R2} {f : D → D → Option Bool} (ho : OpR X (compareOp op) r) (hr : RC2 X.K cl r f) (ha : EV false X cl a ma) (hb : EV false X cl b mb) (hmk : behindInMarks op b = false) : ET X cl (.Compare a [op] [b] pos) (c2 f ma mb) := by
  obtain ⟨ta, pa, ha⟩ := ha
  obtain ⟨tb, pb, hb⟩ := hb
  refine ⟨_, pt_cmpR ho pa pb hmk, fun M q os ev σ H d hm rl Q k => ?_⟩
  exact tCmp_ok hr ha hb M q os ev σ H d hm rl _ fun H' e' => ⟨d, rfl, k H' e'⟩
/-- a value that is a truth value, as a test -/
def tB' (m : Env' → Option D) : Env' → Option Bool := fun ev => match m ev with
  | some (.bl b) => some b
  | _ => none
theorem et_val (h : EV false X cl e m) (he : ∀ whole, isTrue e X.env whole = (do let v ← whole; standAt e.pos; holding [v] (truthy v)) := by intro _; rfl) : ET X cl e (tB' m) := by
  obtain ⟨te, hp, h⟩ := h
  refine ⟨_, pt_val hp he, fun M q os ev σ H d hm rl Q k => ?_⟩
  unfold tB' at hm
  split at hm
  · next b hb =>
    cases hm
    refine h M q os ev σ H _ hb rl _ fun v H' e' r' => ?_
    unfold Rep at r'
    exact ⟨_, r', k H' e'⟩
  · cases hm
def nB (m : Env' → Option Bool) : Env' → Option Bool := fun ev => (m ev).map (!·)
def andB (m n : Env' → Option Bool) : Env' → Option Bool := fun ev => do let b ← m ev; if b = true then n ev else some false
def orB (m n : Env' → Option Bool) : Env' → Option Bool := fun ev => do let b ← m ev; if b = true then some true else n ev
variable {t u : Env' → Option Bool}
theorem et_not (h : ET X cl a t) : ET X cl (.UnaryOp .Not a pos) (nB t) := by
  obtain ⟨te, hp, h⟩ := h
  refine ⟨_, pt_not hp, fun M q os ev σ H d hm rl Q k => ?_⟩
  obtain ⟨x, h1, rfl⟩ := Option.map_eq_some_iff.1 hm
  exact h M q os ev σ H x h1 rl _ k
theorem et_pw (h : EW X cl a t) : ET X cl a t := by
  obtain ⟨te, hp, h⟩ := h
  exact ⟨te, hp.pt, h⟩
theorem ew_and1 (h : ET X cl a t) : EW X cl (.BoolOp .And [a] pos) t := by
  obtain ⟨te, hp, h⟩ := h
  exact ⟨te, pw_and1 hp, h⟩
theorem ew_or1 (h : ET X cl a t) : EW X cl (.BoolOp .Or [a] pos) t := by
  obtain ⟨te, hp, h⟩ := h
  exact ⟨te, pw_or1 hp, h⟩
theorem ew_and {rest : List Expr} (h : ET X cl a t) (g : EW X cl (.BoolOp .And (b :: rest) pos) u) : EW X cl (.BoolOp .And (a :: b :: rest) pos) (andB t u) := by
  obtain ⟨te, hp, h⟩ := h
  obtain ⟨tf, gp, g⟩ := g
  refine ⟨_, pw_and hp gp, fun M q os ev σ H d hm rl Q k => ?_⟩
  obtain ⟨x, h1, hm⟩ := bind_some' hm
  refine h M q os ev σ H x h1 rl _ fun H1 e1 => ?_
  cases x with
  | true => exact iteT (g M q os ev σ H1 d hm (rl.ex e1) _ fun H2 e2 => k H2 (e1.trans e2))
  | false => cases hm; exact iteF (k H1 e1)
theorem ew_or {rest : List Expr} (h : ET X cl a t) (g : EW X cl (.BoolOp .Or (b :: rest) pos) u) : EW X cl (.BoolOp .Or (a :: b :: rest) pos) (orB t u) := by
  obtain ⟨te, hp, h⟩ := h
  obtain ⟨tf, gp, g⟩ := g
  refine ⟨_, pw_or hp gp, fun M q os ev σ H d hm rl Q k => ?_⟩
  obtain ⟨x, h1, hm⟩ := bind_some' hm
  refine h M q os ev σ H x h1 rl _ fun H1 e1 => ?_
  cases x with
  | false => exact iteF (g M q os ev σ H1 d hm (rl.ex e1) _ fun H2 e2 => k H2 (e1.trans e2))
  | true => cases hm; exact iteT (k H1 e1)
/-- as values -/
theorem vB_some {ev : Env'} {d : D} (h : vB t ev = some d) : ∃ b, t ev = some b ∧ d = .bl b := by
  obtain ⟨x, h1, rfl⟩ := Option.map_eq_some_iff.1 h
  exact ⟨x, h1, rfl⟩
theorem ev_one {op} (h : EV w X cl a ma) : EV w X cl (.BoolOp op [a] pos) ma := by
  obtain ⟨te, hp, h⟩ := h
  exact ⟨te, pe_one hp, h⟩
def xand (ma mb : Env' → Option D) : Env' → Option D := fun ev => match ma ev with
  | some (.bl true) => mb ev
  | some (.bl false) => some (.bl false)
  | _ => none
def xor (ma mb : Env' → Option D) : Env' → Option D := fun ev => match ma ev with
  | some (.bl true) => some (.bl true)
  | some (.bl false) => mb ev
  | _ => none
def xnot (ma : Env' → Option D) : Env' → Option D := fun ev => match ma ev with
  | some (.bl b) => some (.bl (!b))
  | _ => none
def xtup (ma : Env' → Option (List D)) : Env' → Option D := fun ev => do let ds ← ma ev; if ds.length ≤ 1000000 then some (.tup ds) else none
def xlst (ma : Env' → Option (List D)) : Env' → Option (List D) := fun ev => do let ds ← ma ev; if ds.length ≤ 1000000 then some ds else none
theorem ev_and {rest : List Expr} (h : EV false X cl a ma) (g : EV w X cl (.BoolOp .And (b :: rest) pos) mb) : EV w X cl (.BoolOp .And (a :: b :: rest) pos) (xand ma mb) := by
  obtain ⟨te, hp, h⟩ := h
  obtain ⟨tf, gp, g⟩ := g
  refine ⟨_, pe_and hp gp, fun M q os ev σ H d hm rl Q k => ?_⟩
  unfold xand at hm
  split at hm
  · next hb =>
    refine h M q os ev σ H _ hb rl _ fun v H1 e1 r1 => ?_
    unfold Rep at r1
    exact ⟨true, r1, iteT (g M q os ev σ H1 d hm (rl.ex e1) _ fun v2 H2 e2 r2 => k v2 H2 (e1.trans e2) r2)⟩
  · next hb =>
    cases hm
    refine h M q os ev σ H _ hb rl _ fun v H1 e1 r1 => ?_
    unfold Rep at r1
    exact ⟨false, r1, iteF (k _ H1 e1 (by unfold Rep; rfl))⟩
  · cases hm
theorem ev_or {rest : List Expr} (h : EV false X cl a ma) (g : EV w X cl (.BoolOp .Or (b :: rest) pos) mb) : EV w X cl (.BoolOp .Or (a :: b :: rest) pos) (xor ma mb) := by
  obtain ⟨te, hp, h⟩ := h
  obtain ⟨tf, gp, g⟩ := g
  refine ⟨_, pe_or hp gp, fun M q os ev σ H d hm rl Q k => ?_⟩
  unfold xor at hm
  split at hm
  · next hb =>
    cases hm
    refine h M q os ev σ H _ hb rl _ fun v H1 e1 r1 => ?_
    unfold Rep at r1
    exact ⟨true, r1, iteT (k _ H1 e1 (by unfold Rep; rfl))⟩
  · next hb =>
    refine h M q os ev σ H _ hb rl _ fun v H1 e1 r1 => ?_
    unfold Rep at r1
    exact ⟨false, r1, iteF (g M q os ev σ H1 d hm (rl.ex e1) _ fun v2 H2 e2 r2 => k v2 H2 (e1.trans e2) r2)⟩
  · cases hm
theorem ev_not (h : EV false X cl a ma) : EV w X cl (.UnaryOp .Not a pos) (xnot ma) := by
  obtain ⟨te, hp, h⟩ := h
  refine ⟨_, pe_not hp, fun M q os ev σ H d hm rl Q k => ?_⟩
  unfold xnot at hm
  split at hm
  · next b hb =>
    cases hm
    refine h M q os ev σ H _ hb rl _ fun v H1 e1 r1 => ?_
    unfold Rep at r1
    exact ⟨b, r1, k _ H1 e1 (by unfold Rep; rfl)⟩
  · cases hm
def xif {α : Type} (t : Env' → Option Bool) (m n : Env' → Option α) : Env' → Option α := fun ev => do let b ← t ev; if b = true then m ev else n ev
theorem ev_if (hc : ET X cl c t) (ha : EV w X cl a ma) (hb : EV w X cl b mb) : EV w X cl (.IfExp c a b pos) (xif t ma mb) := by
  obtain ⟨te, hp, h⟩ := hc
  obtain ⟨ta, pa, ha⟩ := ha
  obtain ⟨tb, pb, hb⟩ := hb
  refine ⟨_, pe_ifExp hp pa pb, fun M q os ev σ H d hm rl Q k => ?_⟩
  obtain ⟨x, h1, hm⟩ := bind_some' hm
  refine h M q os ev σ H x h1 rl _ fun H1 e1 => ?_
  cases x with
  | true => exact iteT (ha M q os ev σ H1 d hm (rl.ex e1) _ fun v H2 e2 r2 => k v H2 (e1.trans e2) r2)
  | false => exact iteF (hb M q os ev σ H1 d hm (rl.ex e1) _ fun v H2 e2 r2 => k v H2 (e1.trans e2) r2)
theorem eo_if {ma mb : Env' → Option (List D)} (hc : ET X cl c t) (ha : EO w X cl a ma) (hb : EO w X cl b mb) : EO w X cl (.IfExp c a b pos) (xif t ma mb) := by
  obtain ⟨te, hp, h⟩ := hc
  obtain ⟨ta, pa, ha⟩ := ha
  obtain ⟨tb, pb, hb⟩ := hb
  refine ⟨_, pe_ifExp hp pa pb, fun M q os ev σ H d hm rl Q k => ?_⟩
  obtain ⟨x, h1, hm⟩ := bind_some' hm
  refine h M q os ev σ H x h1 rl _ fun H1 e1 => ?_
  cases x with
  | true => exact iteT (ha M q os ev σ H1 d hm (rl.ex e1) _ fun p H2 vs hn e2 h2 r2 => k p H2 vs (Evl.fresh_back e1 hn) (e1.trans e2) h2 r2)
  | false => exact iteF (hb M q os ev σ H1 d hm (rl.ex e1) _ fun p H2 vs hn e2 h2 r2 => k p H2 vs (Evl.fresh_back e1 hn) (e1.trans e2) h2 r2)
/-! displays -/
theorem ev_tup {ma : Env' → Option (List D)} {x1} (h : EA w X cl es ma) : EV w X cl (.Tuple es x1 pos) (xtup ma) := by
  obtain ⟨te, hp, h⟩ := h
  refine ⟨_, pe_tup hp, fun M q os ev σ H d hm rl Q k => ?_⟩
  obtain ⟨ds, h1, hm⟩ := bind_some' hm
  split at hm
  · cases hm
    refine h M q os ev σ H ds h1 rl _ fun vs H1 e1 r1 => ⟨?_, fun p hn => ?_⟩
    · rw [r1.length, sizeLine_eq]; omega
    · refine k _ _ (e1.trans (Evl.Ex.new hn)) ?_
      have hp : p ∉ vw w os M := ((rl.ex e1).tk w).new hn
      unfold Rep
      exact ⟨p, vs, rfl, by rw [hid_not hp, upd_same], r1.mono (ex_hid (Evl.Ex.new hn))⟩
  · cases hm
theorem eo_lst {ma : Env' → Option (List D)} (h : EA w X cl es ma) : EO w X cl (.List es pos) (xlst ma) := by
  obtain ⟨te, hp, h⟩ := h
  refine ⟨_, pe_lst hp, fun M q os ev σ H d hm rl Q k => ?_⟩
  obtain ⟨ds, h1, hm⟩ := bind_some' hm
  split at hm
  · have hq := Option.some.inj hm
    subst hq
    refine h M q os ev σ H ds h1 rl _ fun vs H1 e1 r1 => ⟨?_, fun p hn => ?_⟩
    · rw [r1.length, sizeLine_eq]; omega
    · refine k p _ vs (Evl.fresh_back e1 hn) (e1.trans (Evl.Ex.new hn)) upd_same (r1.mono ?_)
      refine ex_sub (fun a o h _ => Evl.Ex.new hn a o h) fun a ha => ?_
      rcases List.mem_cons.1 ha with rfl | ha
      · exact .inr hn
      · exact .inl ha
  · cases hm
end
end Lay

namespace Lay
open PySem PySem.Spec PyProof.Rows L2
open Evl (Ex)
section
variable {K : Fg} {cl : Str → Addr} {M : List Addr} {H : Hp} {v : L2.V}
theorem rep_non : Rep K cl H v .non ↔ v = .non := by unfold Rep; exact Iff.rfl
theorem rep_bl {b : Bool} : Rep K cl H v (.bl b) ↔ v = .bl b := by unfold Rep; exact Iff.rfl
theorem rep_int {b : Int} : Rep K cl H v (.int b) ↔ v = .int b := by unfold Rep; exact Iff.rfl
theorem rep_str {b : Str} : Rep K cl H v (.str b) ↔ v = .str b := by unfold Rep; exact Iff.rfl
theorem rep_list {ds : List D} : Rep K cl H v (.lst ds) ↔ ∃ a vs, v = .ref a ∧ H a = some (.lst vs) ∧ Reps K cl H vs ds := by rw [Rep]
theorem rep_tup {ds : List D} : Rep K cl H v (.tup ds) ↔ ∃ a vs, v = .ref a ∧ H a = some (.tup vs) ∧ Reps K cl H vs ds := by rw [Rep]
theorem rep_scr {ns : List Int} : Rep K cl H v (.scr ns) ↔ ∃ a, v = .ref a ∧ SqL K H a (ns.map V.int) := by rw [Rep]
theorem sq_hid {a : Addr} {xs : List L2.V} (h : SqL K (hid M H) a xs) : SqL K H a xs := by
  rcases h with h | h
  · refine .inl ?_
    rcases h with h | ⟨o, h⟩
    · exact .inl (hid_some h).2
    · exact .inr ⟨o, (hid_some h).2⟩
  · exact .inr h
theorem new_lst {p : Addr} {vs : List L2.V} {ds : List D} (hn : H p = none) (t : Tk M H) (r : Reps K cl (hid M H) vs ds) : Ex H (upd H p (.lst vs)) ∧ (upd H p (.lst vs)) p = some (.lst vs) ∧ Reps K cl (hid (p :: M) (upd H p (.lst vs))) vs ds := by
  refine ⟨Evl.Ex.new hn, upd_same, r.mono (ex_sub (fun a o h _ => Evl.Ex.new hn a o h) fun a ha => ?_)⟩
  rcases List.mem_cons.1 ha with rfl | ha
  · exact .inr hn
  · exact .inl ha
theorem new_tup {p : Addr} {vs : List L2.V} {ds : List D} (hn : H p = none) (t : Tk M H) (r : Reps K cl (hid M H) vs ds) : Ex H (upd H p (.tup vs)) ∧ Rep K cl (hid M (upd H p (.tup vs))) (.ref p) (.tup ds) := by
  refine ⟨Evl.Ex.new hn, ?_⟩
  rw [rep_tup]
  exact ⟨p, vs, rfl, by rw [hid_not (t.new hn), upd_same], r.mono (ex_hid (Evl.Ex.new hn))⟩
end
theorem Ex0 {H : Hp} : Ex H H := Evl.Ex.refl H

/-! ### numbers and sequences -/
def mulOk (i j : Int) : Bool := decide (i.natAbs < 18446744073709551616) || (decide (j.natAbs < 18446744073709551616) || decide (i.natAbs.log2 + j.natAbs.log2 < 1000000))
theorem mulOk_ok {i j : Int} (h : mulOk i j = true) : IntMulOk i j := by
  unfold mulOk at h
  rcases (Bool.or_eq_true _ _).mp h with h | h
  · have := of_decide_eq_true h
    exact CMul.ok (.inl (by omega))
  · rcases (Bool.or_eq_true _ _).mp h with h | h
    · have := of_decide_eq_true h
      exact CMul.ok (.inr (by omega))
    · have h' : i.natAbs.log2 + j.natAbs.log2 < 1000000 := of_decide_eq_true h
      exact CMulW.ok h'
def D.add : D → D → Option D
  | .int a, .int b => some (.int (a + b))
  | .lst a, .lst b => if a.length + b.length ≤ 1000000 then some (.lst (a ++ b)) else none
  | .tup a, .tup b => if a.length + b.length ≤ 1000000 ∧ a ≠ [] ∧ b ≠ [] then some (.tup (a ++ b)) else none
  | .str a, .str b => if a.length + b.length ≤ 1000000 then some (.str (a ++ b)) else none
  | _, _ => none
def D.cat : D → D → Option (List D)
  | .lst a, .lst b => if a.length + b.length ≤ 1000000 then some (a ++ b) else none
  | _, _ => none
def D.sub : D → D → Option D
  | .int a, .int b => some (.int (a - b))
  | _, _ => none
def D.mul : D → D → Option D
  | .int a, .int b => if mulOk a b = true then some (.int (a * b)) else none
  | _, _ => none
def D.rep : D → D → Option (List D)
  | .lst a, .int n => if n < 1000000 ∧ -1000000 < n ∧ a.length * n.toNat ≤ 1000000 then some (List.replicate n.toNat a).flatten else none
  | _, _ => none
def D.fdiv : D → D → Option D
  | .int a, .int b => if 0 < b ∧ b.natAbs.log2 < 9000 then some (.int (a / b)) else none
  | _, _ => none
def D.mod : D → D → Option D
  | .int a, .int b => if 0 < b then some (.int (a % b)) else none
  | _, _ => none
def D.pow : D → D → Option D
  | .int a, .int n => if 0 ≤ n ∧ (Builtin.Int.intBits a : Int) * n ≤ 2 ^ 27 then some (.int (a ^ n.toNat)) else none
  | _, _ => none
def D.neg : D → Option D
  | .int a => some (.int (-a))
  | _ => none
section
variable {X : Cx} {cl : Str → Addr} {K : Fg}
def rMulD : R2 := fun x y H Q => ∃ i j, x = .int i ∧ y = .int j ∧ mulOk i j = true ∧ Q (.int (i * j)) H
theorem op_mulD : OpR X (binaryOp .Mult) rMulD := opI (C := fun i j => mulOk i j = true) fun _ _ _ _ _ _ _ hc q => mul_int q (mulOk_ok hc)
def rPowD : R2 := rI (fun i j => 0 ≤ j ∧ (Builtin.Int.intBits i : Int) * j ≤ 2 ^ 27) fun i j => .int (i ^ j.toNat)
theorem op_powD : OpR X (binaryOp .Pow) rPowD := opI fun _ _ _ _ _ _ _ hc q => PyProof.Rows.pow_int hc.1 hc.2 q
def rAddS : R2 := fun x y H Q => ∃ i j, x = .str i ∧ y = .str j ∧ i.length + j.length ≤ sizeLine ∧ Q (.str (i ++ j)) H
def rAddD (K : Fg) : R2 := fun x y H Q => rI0 (fun i j => .int (i + j)) x y H Q ∨ (rCat x y H Q ∨ (rAddS x y H Q ∨ rCatT K x y H Q))
theorem op_addD : OpR X (binaryOp .Add) (rAddD X.K) := op_add.or (op_cat.or (op_add_str.or op_catT))
theorem rd_add : RD2 K cl (rAddD K) D.add := by
  intro M H x y d e d' hf t hx hy Q k
  unfold D.add at hf
  split at hf
  · cases hf
    exact .inl ⟨_, _, rep_int.1 hx, rep_int.1 hy, k _ H Ex0 (rep_int.2 rfl)⟩
  · split at hf
    · cases hf
      obtain ⟨a, vs, rfl, ha, ra⟩ := rep_list.1 hx
      obtain ⟨b, us, rfl, hb, rb⟩ := rep_list.1 hy
      refine .inr (.inl ⟨a, b, vs, us, rfl, rfl, (hid_some ha).2, (hid_some hb).2, by rw [ra.length, rb.length, sizeLine_eq]; omega, fun p hn => ?_⟩)
      obtain ⟨h1, h2, h3⟩ := new_lst hn t (ra.append rb)
      exact k _ _ h1 (rep_lst h2 ((t.ex Ex0).new hn) h3)
    · cases hf
  · split at hf
    · next hc =>
      cases hf
      obtain ⟨a, vs, rfl, ha, ra⟩ := rep_tup.1 hx
      obtain ⟨b, us, rfl, hb, rb⟩ := rep_tup.1 hy
      refine .inr (.inr (.inr ⟨a, b, vs, us, rfl, rfl, .of (hid_some ha).2, .of (hid_some hb).2, ?_, by rw [ra.length, rb.length, sizeLine_eq]; omega, ?_, ?_⟩))
      · intro z
        subst z
        have := ra.length
        exact hc.2.1 (List.length_eq_zero_iff.1 (by simpa using this.symm))
      · intro z
        subst z
        have := rb.length
        exact absurd (List.length_eq_zero_iff.1 (by simpa using this.symm)) hc.2.2
      · intro _ p hn
        obtain ⟨h1, h2⟩ := new_tup hn t (ra.append rb)
        exact k _ _ h1 h2
    · cases hf
  · split at hf
    · cases hf
      exact .inr (.inr (.inl ⟨_, _, rep_str.1 hx, rep_str.1 hy, by rw [sizeLine_eq]; omega, k _ H Ex0 (rep_str.2 rfl)⟩))
    · cases hf
  · cases hf
theorem ro_cat : RO2 K cl rCat D.cat := by
  intro M H x y d e d' hf t hx hy Q k
  unfold D.cat at hf
  split at hf
  · split at hf
    · cases hf
      obtain ⟨a, vs, rfl, ha, ra⟩ := rep_list.1 hx
      obtain ⟨b, us, rfl, hb, rb⟩ := rep_list.1 hy
      refine ⟨a, b, vs, us, rfl, rfl, (hid_some ha).2, (hid_some hb).2, by rw [ra.length, rb.length, sizeLine_eq]; omega, fun p hn => ?_⟩
      obtain ⟨h1, h2, h3⟩ := new_lst hn t (ra.append rb)
      exact k p _ _ hn h1 h2 h3
    · cases hf
  · cases hf
theorem ro_rep : RO2 K cl rRep D.rep := by
  intro M H x y d e d' hf t hx hy Q k
  unfold D.rep at hf
  split at hf
  · split at hf
    · cases hf
      obtain ⟨a, vs, rfl, ha, ra⟩ := rep_list.1 hx
      refine ⟨a, _, vs, rfl, rep_int.1 hy, (hid_some ha).2, by omega, by omega, by rw [ra.length, sizeLine_eq]; omega, fun p hn => ?_⟩
      obtain ⟨h1, h2, h3⟩ := new_lst hn t (ra.rep _)
      exact k p _ _ hn h1 h2 h3
    · cases hf
  · cases hf
theorem rd_sub : RD2 K cl (rI0 fun i j => .int (i - j)) D.sub := by
  intro M H x y d e d' hf t hx hy Q k
  unfold D.sub at hf
  split at hf
  · cases hf
    exact ⟨_, _, rep_int.1 hx, rep_int.1 hy, k _ H Ex0 (rep_int.2 rfl)⟩
  · cases hf
theorem rd_mul : RD2 K cl rMulD D.mul := by
  intro M H x y d e d' hf t hx hy Q k
  unfold D.mul at hf
  split at hf
  · split at hf
    · cases hf
      exact ⟨_, _, rep_int.1 hx, rep_int.1 hy, by assumption, k _ H Ex0 (rep_int.2 rfl)⟩
    · cases hf
  · cases hf
theorem rd_fdiv : RD2 K cl (rI CDivW fun i j => .int (i / j)) D.fdiv := by
  intro M H x y d e d' hf t hx hy Q k
  unfold D.fdiv at hf
  split at hf
  · split at hf
    · cases hf
      exact ⟨_, _, rep_int.1 hx, rep_int.1 hy, by assumption, k _ H Ex0 (rep_int.2 rfl)⟩
    · cases hf
  · cases hf
theorem rd_mod : RD2 K cl (rI (fun _ j => 0 < j) fun i j => .int (i % j)) D.mod := by
  intro M H x y d e d' hf t hx hy Q k
  unfold D.mod at hf
  split at hf
  · split at hf
    · cases hf
      exact ⟨_, _, rep_int.1 hx, rep_int.1 hy, by assumption, k _ H Ex0 (rep_int.2 rfl)⟩
    · cases hf
  · cases hf
theorem rd_pow : RD2 K cl rPowD D.pow := by
  intro M H x y d e d' hf t hx hy Q k
  unfold D.pow at hf
  split at hf
  · split at hf
    · cases hf
      exact ⟨_, _, rep_int.1 hx, rep_int.1 hy, by assumption, k _ H Ex0 (rep_int.2 rfl)⟩
    · cases hf
  · cases hf
theorem rd_neg : RD1 K cl (rU fun i => .int (-i)) D.neg := by
  intro M H x d d' hf t hx Q k
  unfold D.neg at hf
  split at hf
  · cases hf
    exact ⟨_, rep_int.1 hx, k _ H Ex0 (rep_int.2 rfl)⟩
  · cases hf

/-! ### comparisons -/
mutual
def D.toPy : D → Option PyData
  | .non => some .none
  | .bl b => some (.bool b)
  | .int i => some (.int i)
  | .str s => some (.str s)
  | .lst xs => (D.toPys xs).map PyData.list
  | .tup xs => (D.toPys xs).map PyData.tuple
  | .scr _ => none
  | .obj _ _ _ => none
def D.toPys : List D → Option (List PyData)
  | [] => some []
  | d :: ds => (D.toPy d).bind fun p => (D.toPys ds).map fun ps => p :: ps
end
mutual
theorem dp_of {H : Hp} {M : List Addr} : ∀ {d : D} {v : L2.V} {p : PyData}, Rep K cl (hid M H) v d → d.toPy = some p → Dp K H v p
  | .non, v, p, h, e => by rw [rep_non] at h; subst h; rw [D.toPy] at e; cases e; exact .non
  | .bl b, v, p, h, e => by rw [rep_bl] at h; subst h; rw [D.toPy] at e; cases e; exact .bl b
  | .int b, v, p, h, e => by rw [rep_int] at h; subst h; rw [D.toPy] at e; cases e; exact .int b
  | .str b, v, p, h, e => by rw [rep_str] at h; subst h; rw [D.toPy] at e; cases e; exact .str b
  | .lst xs, v, p, h, e => by
    obtain ⟨a, vs, rfl, ha, ra⟩ := rep_list.1 h
    rw [D.toPy] at e
    obtain ⟨ps, e1, rfl⟩ := Option.map_eq_some_iff.1 e
    exact .lst (.of (hid_some ha).2) (dps_of ra e1)
  | .tup xs, v, p, h, e => by
    obtain ⟨a, vs, rfl, ha, ra⟩ := rep_tup.1 h
    rw [D.toPy] at e
    obtain ⟨ps, e1, rfl⟩ := Option.map_eq_some_iff.1 e
    exact .tup (.of (hid_some ha).2) (dps_of ra e1)
  | .scr _, v, p, h, e => by rw [D.toPy] at e; cases e
  | .obj _ _ _, v, p, h, e => by rw [D.toPy] at e; cases e
theorem dps_of {H : Hp} {M : List Addr} : ∀ {ds : List D} {vs : List L2.V} {ps : List PyData}, Reps K cl (hid M H) vs ds → D.toPys ds = some ps → DpAll K H vs ps
  | [], vs, ps, h, e => by rw [Reps.nil_iff.1 h]; rw [D.toPys] at e; cases e; exact .nil
  | d :: ds, vs, ps, h, e => by
    obtain ⟨v, r, rfl, h1, t⟩ := Reps.cons_iff.1 h
    rw [D.toPys] at e
    obtain ⟨p, e1, e2⟩ := Option.bind_eq_some_iff.1 e
    obtain ⟨qs, e3, rfl⟩ := Option.map_eq_some_iff.1 e2
    exact .cons (dp_of h1 e1) (dps_of t e3)
end
def D.eq (d e : D) : Option Bool := do
  let a ← d.toPy
  let b ← e.toPy
  if SeqAt.shaped a = true ∧ SeqAt.shaped b = true then some (PyData.eqv a b) else none
def D.ne (d e : D) : Option Bool := (D.eq d e).map (!·)
theorem eq_some {d e : D} {b : Bool} (h : D.eq d e = some b) : ∃ p q, d.toPy = some p ∧ e.toPy = some q ∧ SeqAt.shaped p = true ∧ SeqAt.shaped q = true ∧ b = PyData.eqv p q := by
  unfold D.eq at h
  obtain ⟨p, h1, h⟩ := bind_some' h
  obtain ⟨q, h2, h⟩ := bind_some' h
  split at h
  · next hc =>
    exact ⟨p, q, h1, h2, hc.1, hc.2, (Option.some.inj h).symm⟩
  · cases h
theorem rc_eq : RC2 K cl (rEqD K) D.eq := by
  intro M H x y d e d' hf t hx hy Q k
  obtain ⟨p, q, h1, h2, h3, h4, rfl⟩ := eq_some hf
  exact ⟨p, q, dp_of hx h1, dp_of hy h2, h3, h4, k H Ex0⟩
theorem rc_ne : RC2 K cl (rNeD K) D.ne := by
  intro M H x y d e d' hf t hx hy Q k
  obtain ⟨b, hb, rfl⟩ := Option.map_eq_some_iff.1 hf
  obtain ⟨p, q, h1, h2, h3, h4, rfl⟩ := eq_some hb
  exact ⟨p, q, dp_of hx h1, dp_of hy h2, h3, h4, k H Ex0⟩
def D.lt : D → D → Option Bool
  | .int a, .int b => some (decide (a < b))
  | _, _ => none
def D.le : D → D → Option Bool
  | .int a, .int b => some (decide (a ≤ b))
  | _, _ => none
def D.gt : D → D → Option Bool
  | .int a, .int b => some (decide (b < a))
  | _, _ => none
def D.ge : D → D → Option Bool
  | .int a, .int b => some (decide (b ≤ a))
  | _, _ => none
theorem rc_lt : RC2 K cl (rI0 fun i j => .bl (decide (i < j))) D.lt := by
  intro M H x y d e d' hf t hx hy Q k
  unfold D.lt at hf
  split at hf
  · cases hf; exact ⟨_, _, rep_int.1 hx, rep_int.1 hy, k H Ex0⟩
  · cases hf
theorem rc_le : RC2 K cl (rI0 fun i j => .bl (decide (i ≤ j))) D.le := by
  intro M H x y d e d' hf t hx hy Q k
  unfold D.le at hf
  split at hf
  · cases hf; exact ⟨_, _, rep_int.1 hx, rep_int.1 hy, k H Ex0⟩
  · cases hf
theorem rc_gt : RC2 K cl (rI0 fun i j => .bl (decide (j < i))) D.gt := by
  intro M H x y d e d' hf t hx hy Q k
  unfold D.gt at hf
  split at hf
  · cases hf; exact ⟨_, _, rep_int.1 hx, rep_int.1 hy, k H Ex0⟩
  · cases hf
theorem rc_ge : RC2 K cl (rI0 fun i j => .bl (decide (j ≤ i))) D.ge := by
  intro M H x y d e d' hf t hx hy Q k
  unfold D.ge at hf
  split at hf
  · cases hf; exact ⟨_, _, rep_int.1 hx, rep_int.1 hy, k H Ex0⟩
  · cases hf
/-- is None, is True -/
def D.isN : D → D → Option Bool
  | .non, .non => some true
  | _, .non => some false
  | .bl a, .bl b => some (decide (a = b))
  | _, _ => none
def D.notN (d e : D) : Option Bool := (D.isN d e).map (!·)
def rIsD : R2 := fun x y H Q => (y = .non ∧ Q (.bl (decide (x = .non))) H) ∨ rIsB x y H Q
def rNotD : R2 := fun x y H Q => (y = .non ∧ Q (.bl (!decide (x = .non))) H) ∨ rNotB x y H Q
theorem op_isD : OpR X (compareOp .Is) rIsD := op_isN.or op_isBl
theorem op_notD : OpR X (compareOp .IsNot) rNotD := op_notN.or op_notBl
def D.isNon : D → Bool
  | .non => true
  | _ => false
theorem rep_isN {H : Hp} {v : L2.V} {d : D} (h : Rep K cl H v d) : decide (v = .non) = d.isNon := by
  cases d with
  | non => rw [rep_non.1 h]; rfl
  | bl _ => rw [rep_bl.1 h]; rfl
  | int _ => rw [rep_int.1 h]; rfl
  | str _ => rw [rep_str.1 h]; rfl
  | lst _ => obtain ⟨a, vs, rfl, _⟩ := rep_list.1 h; rfl
  | tup _ => obtain ⟨a, vs, rfl, _⟩ := rep_tup.1 h; rfl
  | scr _ => obtain ⟨a, rfl, _⟩ := rep_scr.1 h; rfl
  | obj _ _ _ => unfold Rep at h; obtain ⟨a, dx, vs, rfl, _⟩ := h; rfl
theorem isN_cases {d e : D} {b : Bool} (h : D.isN d e = some b) : (e = .non ∧ b = d.isNon) ∨ ∃ x y, d = .bl x ∧ e = .bl y ∧ b = decide (x = y) := by
  unfold D.isN at h
  split at h
  · cases h; exact .inl ⟨rfl, rfl⟩
  · next hd =>
    refine .inl ⟨rfl, ?_⟩
    have := Option.some.inj h
    rw [← this]
    cases d <;> first | rfl | exact (hd rfl).elim
  · cases h; exact .inr ⟨_, _, rfl, rfl, rfl⟩
  · cases h
theorem rc_is : RC2 K cl rIsD D.isN := by
  intro M H x y d e d' hf t hx hy Q k
  rcases isN_cases hf with ⟨rfl, hb⟩ | ⟨a, b, rfl, rfl, rfl⟩
  · refine .inl ⟨rep_non.1 hy, ?_⟩
    rw [rep_isN hx, ← hb]
    exact k H Ex0
  · exact .inr ⟨a, b, rep_bl.1 hx, rep_bl.1 hy, k H Ex0⟩
theorem rc_notis : RC2 K cl rNotD D.notN := by
  intro M H x y d e d' hf t hx hy Q k
  obtain ⟨c, hf2, rfl⟩ := Option.map_eq_some_iff.1 hf
  rcases isN_cases hf2 with ⟨rfl, hb⟩ | ⟨a, b, rfl, rfl, rfl⟩
  · refine .inl ⟨rep_non.1 hy, ?_⟩
    rw [rep_isN hx, ← hb]
    exact k H Ex0
  · exact .inr ⟨a, b, rep_bl.1 hx, rep_bl.1 hy, k H Ex0⟩
/-- in: flat items -/
def D.eqF : D → D → Bool
  | .non, .non => true
  | .bl a, .bl b => a == b
  | .bl a, .int b => (if a then 1 else 0) == b
  | .int a, .bl b => a == (if b then 1 else 0)
  | .int a, .int b => a == b
  | .str a, .str b => a == b
  | _, _ => false
def D.isin (d : D) : D → Option Bool
  | .lst xs => if d.flat = true ∧ xs.all D.flat = true then some (xs.any fun y => D.eqF y d) else none
  | .tup xs => if d.flat = true ∧ xs.all D.flat = true then some (xs.any fun y => D.eqF y d) else none
  | _ => none
def D.notin (d e : D) : Option Bool := (D.isin d e).map (!·)
theorem flat_V {H : Hp} {v : L2.V} {d : D} (h : Rep K cl H v d) (f : d.flat = true) : flatV v = true := by
  cases d with
  | non => rw [rep_non.1 h]; rfl
  | bl _ => rw [rep_bl.1 h]; rfl
  | int _ => rw [rep_int.1 h]; rfl
  | str _ => rw [rep_str.1 h]; rfl
  | _ => exact absurd f (by simp [D.flat])
theorem flat_Vs {H : Hp} : ∀ {ds : List D} {vs : List L2.V}, Reps K cl H vs ds → ds.all D.flat = true → vs.all flatV = true
  | [], vs, h, _ => by rw [Reps.nil_iff.1 h]; rfl
  | d :: ds, vs, h, f => by
    obtain ⟨v, r, rfl, h1, t⟩ := Reps.cons_iff.1 h
    rw [List.all_cons, Bool.and_eq_true] at f
    rw [List.all_cons, flat_V h1 f.1, flat_Vs t f.2]
    rfl
theorem eqF_V {H H' : Hp} {v u : L2.V} {d e : D} (h : Rep K cl H v d) (g : Rep K cl H' u e) (f : d.flat = true) (f' : e.flat = true) : eqV v u = D.eqF d e := by
  cases d <;> first
    | (cases e <;> first | (unfold Rep at h g; subst h; subst g; rfl) | (simp [D.flat] at f'; done))
    | (simp [D.flat] at f; done)
theorem inV_D {H H' : Hp} {u : L2.V} {e : D} (g : Rep K cl H' u e) (f' : e.flat = true) : ∀ {ds : List D} {vs : List L2.V}, Reps K cl H vs ds → ds.all D.flat = true → inV u vs = ds.any fun y => D.eqF y e
  | [], vs, h, _ => by rw [Reps.nil_iff.1 h]; rfl
  | d :: ds, vs, h, f => by
    obtain ⟨v, r, rfl, h1, t⟩ := Reps.cons_iff.1 h
    rw [List.all_cons, Bool.and_eq_true] at f
    have ih := inV_D g f' t f.2
    unfold inV at ih ⊢
    rw [List.any_cons, List.any_cons, ih, eqF_V h1 g f.1 f']
theorem isin_cases {d e : D} {b : Bool} (h : D.isin d e = some b) : ∃ xs, (e = .lst xs ∨ e = .tup xs) ∧ d.flat = true ∧ xs.all D.flat = true ∧ b = xs.any fun y => D.eqF y d := by
  unfold D.isin at h
  split at h
  · split at h
    · next hc => exact ⟨_, .inl rfl, hc.1, hc.2, (Option.some.inj h).symm⟩
    · cases h
  · split at h
    · next hc => exact ⟨_, .inr rfl, hc.1, hc.2, (Option.some.inj h).symm⟩
    · cases h
  · cases h
theorem rc_in : RC2 K cl (rIn K false) D.isin := by
  intro M H x y d e d' hf t hx hy Q k
  obtain ⟨xs, h, f, f', rfl⟩ := isin_cases hf
  rcases h with rfl | rfl
  · obtain ⟨a, vs, rfl, ha, ra⟩ := rep_list.1 hy
    refine ⟨a, vs, rfl, .inl (.of (hid_some ha).2), flat_V hx f, flat_Vs ra f', ?_⟩
    have := k H Ex0
    rw [← inV_D hx f ra f'] at this
    exact this
  · obtain ⟨a, vs, rfl, ha, ra⟩ := rep_tup.1 hy
    refine ⟨a, vs, rfl, .inr (.of (hid_some ha).2), flat_V hx f, flat_Vs ra f', ?_⟩
    have := k H Ex0
    rw [← inV_D hx f ra f'] at this
    exact this
theorem rc_notin : RC2 K cl (rIn K true) D.notin := by
  intro M H x y d e d' hf t hx hy Q k
  obtain ⟨c, hf2, rfl⟩ := Option.map_eq_some_iff.1 hf
  obtain ⟨xs, h, f, f', rfl⟩ := isin_cases hf2
  rcases h with rfl | rfl
  · obtain ⟨a, vs, rfl, ha, ra⟩ := rep_list.1 hy
    refine ⟨a, vs, rfl, .inl (.of (hid_some ha).2), flat_V hx f, flat_Vs ra f', ?_⟩
    have := k H Ex0
    rw [← inV_D hx f ra f'] at this
    exact this
  · obtain ⟨a, vs, rfl, ha, ra⟩ := rep_tup.1 hy
    refine ⟨a, vs, rfl, .inr (.of (hid_some ha).2), flat_V hx f, flat_Vs ra f', ?_⟩
    have := k H Ex0
    rw [← inV_D hx f ra f'] at this
    exact this
end
end Lay

namespace Lay
open PySem PySem.Spec PyProof.Rows L2
open Evl (Ex)
/-! ### items, slices, built-ins -/
def D.ix : D → D → Option D
  | .lst xs, .int i => atI xs i
  | .tup xs, .int i => atI xs i
  | .scr ns, .int i => (atI ns i).map D.int
  | .str s, .int i => if s.length ≤ 1000000 then (atI s.cps.toList i).map fun c => D.str ⟨#[c]⟩ else none
  | _, _ => none
section
variable {X : Cx} {cl : Str → Addr} {K : Fg}
theorem atI_rep {H : Hp} {vs : List L2.V} {ds : List D} {i : Int} {d : D} (r : Reps K cl H vs ds) (h : atI ds i = some d) : ∃ v, atI vs i = some v ∧ Rep K cl H v d := by
  unfold atI at h ⊢
  obtain ⟨j, h1, h2⟩ := Option.bind_eq_some_iff.1 h
  rw [r.length, h1]
  exact r.get h2
theorem atI_map {α β : Type} {f : α → β} {xs : List α} {i : Int} : atI (xs.map f) i = (atI xs i).map f := by
  unfold atI
  rw [List.length_map]
  cases ixN xs.length i with
  | none => rfl
  | some j => simp
theorem rd_ix : RD2 K cl (rIx K) D.ix := by
  intro M H x y d e d' hf t hx hy Q k
  unfold D.ix at hf
  split at hf
  · obtain ⟨a, vs, rfl, ha, ra⟩ := rep_list.1 hx
    obtain ⟨v, h1, h2⟩ := atI_rep ra hf
    exact .inl ⟨a, vs, _, v, rfl, rep_int.1 hy, .of (hid_some ha).2, h1, k v H Ex0 h2⟩
  · obtain ⟨a, vs, rfl, ha, ra⟩ := rep_tup.1 hx
    obtain ⟨v, h1, h2⟩ := atI_rep ra hf
    exact .inr (.inl ⟨a, vs, _, v, rfl, rep_int.1 hy, .of (hid_some ha).2, h1, k v H Ex0 h2⟩)
  · obtain ⟨a, rfl, ha⟩ := rep_scr.1 hx
    obtain ⟨z, h1, rfl⟩ := Option.map_eq_some_iff.1 hf
    exact .inl ⟨a, _, _, .int z, rfl, rep_int.1 hy, sq_hid ha, by rw [atI_map, h1]; rfl, k _ H Ex0 (rep_int.2 rfl)⟩
  · split at hf
    · obtain ⟨c, h1, rfl⟩ := Option.map_eq_some_iff.1 hf
      exact .inr (.inr ⟨_, _, c, rep_str.1 hx, rep_int.1 hy, by rw [sizeLine_eq]; omega, h1, k _ H Ex0 (rep_str.2 rfl)⟩)
    · cases hf
  · cases hf
variable {w : Bool} {a b e : Expr} {es : List Expr} {pos : Pos} {m ma mb : Env' → Option D}
theorem ev_ix (ha : EV w X cl a ma) (hb : EV w X cl b mb) (hs : PlainIx b) : EV w X cl (.Subscript a b pos) (m2 D.ix ma mb) := by
  obtain ⟨ta, pa, ha⟩ := ha
  obtain ⟨tb, pb, hb⟩ := hb
  exact ⟨_, pe_ix ix_seq pa pb hs, tOp_ok rd_ix ha hb⟩
/-- an item of what a slot owns -/
def xixo (i : Nat) (mb : Env' → Option D) : Env' → Option D := fun ev => match ev[i]?, mb ev with
  | some (.own xs), some (.int j) => atI xs j
  | some (.par xs), some (.int j) => atI xs j
  | _, _ => none
theorem ev_ixo {i : Nat} {x : Str} {p2 : Pos} (h : VarAt X i x) (hb : EV w X cl b mb) (hs : PlainIx b) : EV w X cl (.Subscript (.Name x p2) b pos) (xixo i mb) := by
  obtain ⟨tb, pb, hb⟩ := hb
  refine ⟨_, pe_ix ix_seq (pe_var h.ix h.vis h.nd h.nc) pb hs, fun M q os ev σ H d hm rl Q k => ?_⟩
  unfold xixo at hm
  split at hm
  · next xs j h1 h2 =>
    obtain ⟨p, vs, e1, e2, e3, e4⟩ := rl.sr.get_own h1
    refine ⟨_, e1, hb M q os ev σ H _ h2 rl _ fun u H2 x2 r2 => ?_⟩
    obtain ⟨v, g1, g2⟩ := atI_rep e4 hm
    exact .inl ⟨p, vs, _, v, rfl, rep_int.1 r2, .of (x2 _ _ e3), g1, k v H2 x2 ((g2.mono (ex_le (vw_sub w))).mono (ex_hid x2))⟩
  · next xs j h1 h2 =>
    obtain ⟨p, vs, e1, e2, e3, e4⟩ := rl.sr.get_par h1
    refine ⟨_, e1, hb M q os ev σ H _ h2 rl _ fun u H2 x2 r2 => ?_⟩
    obtain ⟨v, g1, g2⟩ := atI_rep e4 hm
    exact .inl ⟨p, vs, _, v, rfl, rep_int.1 r2, .of (x2 _ _ e3), g1, k v H2 x2 ((g2.mono (ex_le (vw_sub w))).mono (ex_hid x2))⟩
  · cases hm

/-! slices -/
def cutG {α : Type} (xs : List α) (lo hi : Option Int) : List α := (xs.drop (HT.sIx xs.length 0 lo)).take (HT.sIx xs.length xs.length hi - HT.sIx xs.length 0 lo)
theorem cutG_V (xs : List L2.V) (lo hi : Option Int) : cutG xs lo hi = cutV xs lo hi := rfl
theorem cutG_rep {H : Hp} {vs : List L2.V} {ds : List D} (r : Reps K cl H vs ds) (lo hi : Option Int) : Reps K cl H (cutV vs lo hi) (cutG ds lo hi) := by
  unfold cutV cutG
  rw [r.length]
  exact (r.drop _).take _
theorem cutG_map {α β : Type} {f : α → β} {xs : List α} {lo hi : Option Int} : cutG (xs.map f) lo hi = (cutG xs lo hi).map f := by
  unfold cutG
  rw [List.length_map, List.map_take, List.map_drop]
def EP (w : Bool) (X : Cx) (cl : Str → Addr) (e : Option Expr) (m : Env' → Option (Option Int)) : Prop :=
  ∃ te, PO X e te ∧ ∀ M q os ev σ H d, m ev = some d → Rl X.K cl M q os ev σ H → ∀ Q : Option Int → Hp → Prop, (∀ H', Ex H H' → Q d H') → te σ H Q
def pN : Env' → Option (Option Int) := fun _ => some none
def pS (m : Env' → Option D) : Env' → Option (Option Int) := fun ev => match m ev with
  | some (.int i) => some (some i)
  | _ => none
theorem ep_none : EP w X cl none pN := ⟨_, po_none, fun M q os ev σ H d hm rl Q k => by cases hm; exact k H Ex0⟩
theorem ep_some (h : EV w X cl e m) : EP w X cl (some e) (pS m) := by
  obtain ⟨te, hp, h⟩ := h
  refine ⟨_, po_some hp, fun M q os ev σ H d hm rl Q k => ?_⟩
  unfold pS at hm
  split at hm
  · next i hi =>
    cases hm
    exact h M q os ev σ H _ hi rl _ fun v H' x r => ⟨i, rep_int.1 r, k H' x⟩
  · cases hm
def D.cut : D → Option Int → Option Int → Option (List D)
  | .lst xs, lo, hi => some (cutG xs lo hi)
  | .scr ns, lo, hi => some ((cutG ns lo hi).map D.int)
  | _, _, _ => none
def xcut (ma : Env' → Option D) (ml mh : Env' → Option (Option Int)) : Env' → Option (List D) := fun ev => do
  let d ← ma ev
  let lo ← ml ev
  let hi ← mh ev
  D.cut d lo hi
theorem eo_cut {lo hi : Option Expr} {p2 : Pos} {ml mh : Env' → Option (Option Int)} (ha : EV w X cl a ma) (hl : EP w X cl lo ml) (hh : EP w X cl hi mh) : EO w X cl (.Subscript a (.Slice lo hi none p2) pos) (xcut ma ml mh) := by
  obtain ⟨ta, pa, ha⟩ := ha
  obtain ⟨tl, pl, hl⟩ := hl
  obtain ⟨th, ph, hh⟩ := hh
  refine ⟨_, pe_slice sl_list pa pl ph, fun M q os ev σ H d hm rl Q k => ?_⟩
  obtain ⟨x, h1, hm⟩ := bind_some' hm
  obtain ⟨l, h2, hm⟩ := bind_some' hm
  obtain ⟨u, h3, hm⟩ := bind_some' hm
  refine ha M q os ev σ H x h1 rl _ fun v H1 x1 r1 => hl M q os ev σ H1 l h2 (rl.ex x1) _ fun H2 x2 => hh M q os ev σ H2 u h3 (rl.ex (x1.trans x2)) _ fun H3 x3 => ?_
  have r3 := (r1.mono (ex_hid (M := vw w os M) x2)).mono (ex_hid (M := vw w os M) x3)
  have t3 := (rl.ex ((x1.trans x2).trans x3)).tk w
  unfold D.cut at hm
  split at hm
  · cases hm
    obtain ⟨p, vs, rfl, g1, g2⟩ := rep_list.1 r3
    refine ⟨p, vs, rfl, .of (hid_some g1).2, fun y hn => ?_⟩
    obtain ⟨e1, e2, e3⟩ := new_lst hn t3 (cutG_rep g2 l u)
    exact k y _ _ (Evl.fresh_back ((x1.trans x2).trans x3) hn) (((x1.trans x2).trans x3).trans e1) e2 e3
  · cases hm
    obtain ⟨p, rfl, g1⟩ := rep_scr.1 r3
    refine ⟨p, _, rfl, sq_hid g1, fun y hn => ?_⟩
    rw [← cutG_V, cutG_map]
    obtain ⟨e1, e2, e3⟩ := new_lst hn t3 (Reps.ints (cutG _ l u))
    exact k y _ _ (Evl.fresh_back ((x1.trans x2).trans x3) hn) (((x1.trans x2).trans x3).trans e1) e2 e3
  · cases hm
def D.cutT : D → Option Int → Option Int → Option D
  | .tup xs, lo, hi => if ¬ (HT.sIx xs.length 0 lo = 0 ∧ HT.sIx xs.length xs.length hi = xs.length) then some (.tup (cutG xs lo hi)) else none
  | _, _, _ => none
def xcutT (ma : Env' → Option D) (ml mh : Env' → Option (Option Int)) : Env' → Option D := fun ev => do
  let d ← ma ev
  let lo ← ml ev
  let hi ← mh ev
  D.cutT d lo hi
theorem ev_cutT {lo hi : Option Expr} {p2 : Pos} {ml mh : Env' → Option (Option Int)} (ha : EV w X cl a ma) (hl : EP w X cl lo ml) (hh : EP w X cl hi mh) : EV w X cl (.Subscript a (.Slice lo hi none p2) pos) (xcutT ma ml mh) := by
  obtain ⟨ta, pa, ha⟩ := ha
  obtain ⟨tl, pl, hl⟩ := hl
  obtain ⟨th, ph, hh⟩ := hh
  refine ⟨_, pe_slice sl_tup pa pl ph, fun M q os ev σ H d hm rl Q k => ?_⟩
  obtain ⟨x, h1, hm⟩ := bind_some' hm
  obtain ⟨l, h2, hm⟩ := bind_some' hm
  obtain ⟨u, h3, hm⟩ := bind_some' hm
  refine ha M q os ev σ H x h1 rl _ fun v H1 x1 r1 => hl M q os ev σ H1 l h2 (rl.ex x1) _ fun H2 x2 => hh M q os ev σ H2 u h3 (rl.ex (x1.trans x2)) _ fun H3 x3 => ?_
  have r3 := (r1.mono (ex_hid (M := vw w os M) x2)).mono (ex_hid (M := vw w os M) x3)
  have t3 := (rl.ex ((x1.trans x2).trans x3)).tk w
  unfold D.cutT at hm
  split at hm
  · split at hm
    · next hc =>
      cases hm
      obtain ⟨p, vs, rfl, g1, g2⟩ := rep_tup.1 r3
      refine ⟨p, vs, rfl, .of (hid_some g1).2, by rw [g2.length]; exact hc, fun y hn => ?_⟩
      obtain ⟨e1, e2⟩ := new_tup hn t3 (cutG_rep g2 l u)
      exact k _ _ (((x1.trans x2).trans x3).trans e1) e2
    · cases hm
  · cases hm
def D.rev : D → Option (List D)
  | .lst xs => some xs.reverse
  | .scr ns => some (ns.reverse.map D.int)
  | _ => none
def xrev (ma : Env' → Option D) : Env' → Option (List D) := fun ev => do let d ← ma ev; D.rev d
theorem eo_rev {k : Nat} {p1 p2 p3 : Pos} (ha : EV w X cl a ma) : EO w X cl (.Subscript a (.Slice none none (some (.UnaryOp .USub (.Constant (.int 1) k p1) p2)) p3) pos) (xrev ma) := by
  obtain ⟨ta, pa, ha⟩ := ha
  refine ⟨_, pe_revL pa, fun M q os ev σ H d hm rl Q k => ?_⟩
  obtain ⟨x, h1, hm⟩ := bind_some' hm
  refine ha M q os ev σ H x h1 rl _ fun v H1 x1 r1 => ?_
  have t1 := (rl.ex x1).tk w
  unfold D.rev at hm
  split at hm
  · cases hm
    obtain ⟨p, vs, rfl, g1, g2⟩ := rep_list.1 r1
    refine ⟨p, vs, rfl, .of (hid_some g1).2, fun y hn => ?_⟩
    obtain ⟨e1, e2, e3⟩ := new_lst hn t1 g2.reverse
    exact k y _ _ (Evl.fresh_back x1 hn) (x1.trans e1) e2 e3
  · cases hm
    obtain ⟨p, rfl, g1⟩ := rep_scr.1 r1
    refine ⟨p, _, rfl, sq_hid g1, fun y hn => ?_⟩
    rw [← List.map_reverse]
    obtain ⟨e1, e2, e3⟩ := new_lst hn t1 (Reps.ints _)
    exact k y _ _ (Evl.fresh_back x1 hn) (x1.trans e1) e2 e3
  · cases hm

/-! calls of built-ins -/
theorem ev_B {id : String} {x : Str} {p : Pos} {r : List L2.V → Hp → VK → Prop} {f : List D → Option D} {ma : Env' → Option (List D)} (hc : CallR X (.builtin id) r) (hr : RDL X.K cl r f) (hg : Gl X x) (hm : X.mg x = none) (hv : bootBuiltins x = some (.builtin id)) (ha : EA w X cl (e :: es) ma)
    (hn : x ≠ "__name__") (hdb : (x == ("__debug__" : Str)) = false) (he : starEach (e :: es) X.env = (false, eval e X.env) :: starEach es X.env := by rfl) (hpl : (backTo pos (starEach es X.env)).any (·.1) = false := by rfl) :
    EV w X cl (.Call (.Name x p) (e :: es) [] pos) (mL f ma) := by
  obtain ⟨ta, pa, ha⟩ := ha
  refine ⟨_, pe_callB hc hg hm hv pa hn hdb he hpl, fun M q os ev σ H d hm rl Q k => ?_⟩
  obtain ⟨ds, h1, hm⟩ := bind_some' hm
  exact ha M q os ev σ H ds h1 rl _ fun vs H1 x1 r1 => hr _ _ _ _ _ hm ((rl.ex x1).tk w) r1 _ fun v H2 x2 r2 => k v H2 (x1.trans x2) r2
theorem eo_B {id : String} {x : Str} {p : Pos} {r : List L2.V → Hp → VK → Prop} {f : List D → Option (List D)} {ma : Env' → Option (List D)} (hc : CallR X (.builtin id) r) (hr : ROL X.K cl r f) (hg : Gl X x) (hm : X.mg x = none) (hv : bootBuiltins x = some (.builtin id)) (ha : EA w X cl (e :: es) ma)
    (hn : x ≠ "__name__") (hdb : (x == ("__debug__" : Str)) = false) (he : starEach (e :: es) X.env = (false, eval e X.env) :: starEach es X.env := by rfl) (hpl : (backTo pos (starEach es X.env)).any (·.1) = false := by rfl) :
    EO w X cl (.Call (.Name x p) (e :: es) [] pos) (mLo f ma) := by
  obtain ⟨ta, pa, ha⟩ := ha
  refine ⟨_, pe_callB hc hg hm hv pa hn hdb he hpl, fun M q os ev σ H d hm rl Q k => ?_⟩
  obtain ⟨ds, h1, hm⟩ := bind_some' hm
  exact ha M q os ev σ H ds h1 rl _ fun vs H1 x1 r1 => hr _ _ _ _ _ hm ((rl.ex x1).tk w) r1 _ fun p H2 vs hn x2 h2 r2 => k p H2 vs (Evl.fresh_back x1 hn) (x1.trans x2) h2 r2
theorem ev_Ty {T : String} {x : Str} {p : Pos} {r : List L2.V → Hp → VK → Prop} {f : List D → Option D} {ma : Env' → Option (List D)} (hc : CallR X (.type T) r) (hr : RDL X.K cl r f) (hg : Gl X x) (hm : X.mg x = none) (hv : bootBuiltins x = some (.type T)) (ha : EA w X cl (e :: es) ma)
    (hn : x ≠ "__name__") (hdb : (x == ("__debug__" : Str)) = false) (he : starEach (e :: es) X.env = (false, eval e X.env) :: starEach es X.env := by rfl) (hpl : (backTo pos (starEach es X.env)).any (·.1) = false := by rfl) :
    EV w X cl (.Call (.Name x p) (e :: es) [] pos) (mL f ma) := by
  obtain ⟨ta, pa, ha⟩ := ha
  refine ⟨_, pe_callTy hc hg hm hv pa hn hdb he hpl, fun M q os ev σ H d hm rl Q k => ?_⟩
  obtain ⟨ds, h1, hm⟩ := bind_some' hm
  exact ha M q os ev σ H ds h1 rl _ fun vs H1 x1 r1 => hr _ _ _ _ _ hm ((rl.ex x1).tk w) r1 _ fun v H2 x2 r2 => k v H2 (x1.trans x2) r2
theorem eo_Ty {T : String} {x : Str} {p : Pos} {r : List L2.V → Hp → VK → Prop} {f : List D → Option (List D)} {ma : Env' → Option (List D)} (hc : CallR X (.type T) r) (hr : ROL X.K cl r f) (hg : Gl X x) (hm : X.mg x = none) (hv : bootBuiltins x = some (.type T)) (ha : EA w X cl (e :: es) ma)
    (hn : x ≠ "__name__") (hdb : (x == ("__debug__" : Str)) = false) (he : starEach (e :: es) X.env = (false, eval e X.env) :: starEach es X.env := by rfl) (hpl : (backTo pos (starEach es X.env)).any (·.1) = false := by rfl) :
    EO w X cl (.Call (.Name x p) (e :: es) [] pos) (mLo f ma) := by
  obtain ⟨ta, pa, ha⟩ := ha
  refine ⟨_, pe_callTy hc hg hm hv pa hn hdb he hpl, fun M q os ev σ H d hm rl Q k => ?_⟩
  obtain ⟨ds, h1, hm⟩ := bind_some' hm
  exact ha M q os ev σ H ds h1 rl _ fun vs H1 x1 r1 => hr _ _ _ _ _ hm ((rl.ex x1).tk w) r1 _ fun p H2 vs hn x2 h2 r2 => k p H2 vs (Evl.fresh_back x1 hn) (x1.trans x2) h2 r2
/-- the answer is flat: the arguments may be owned -/
def fL (f : List D → Option D) : Prop := ∀ ds d, f ds = some d → d.flat = true
theorem ev_fl {ma : Env' → Option (List D)} {f : List D → Option D} (hf : fL f) (h : EV false X cl e (mL f ma)) : EV w X cl e (mL f ma) := by
  obtain ⟨te, hp, h⟩ := h
  refine ⟨te, hp, fun M q os ev σ H d hm r Q k => h M q os ev σ H d hm r Q fun v H' x r' => ?_⟩
  obtain ⟨ds, h1, h2⟩ := bind_some' hm
  exact k v H' x (r'.flat (hf _ _ h2))

def bLen : List D → Option D
  | [.lst xs] => some (.int xs.length)
  | [.tup xs] => some (.int xs.length)
  | [.scr xs] => some (.int xs.length)
  | [.str s] => if s.length ≤ 1000000 then some (.int s.length) else none
  | _ => none
def rLenD (K : Fg) : List L2.V → Hp → VK → Prop := fun xs H Q => (∃ p ys, xs = [.ref p] ∧ (SqL K H p ys ∨ SqT K H p ys) ∧ Q (.int ys.length) H) ∨ (∃ z, xs = [.str z] ∧ z.length ≤ sizeLine ∧ Q (.int z.length) H)
theorem call_lenD' : CallR X (.builtin "len") (rLenD X.K) := call_len_seq.or call_len_str
theorem reps1 {H : Hp} {vs : List L2.V} {d : D} (h : Reps K cl H vs [d]) : ∃ v, vs = [v] ∧ Rep K cl H v d := by
  obtain ⟨v, r, rfl, h1, h2⟩ := Reps.cons_iff.1 h
  rw [Reps.nil_iff.1 h2]
  exact ⟨v, rfl, h1⟩
theorem reps2 {H : Hp} {vs : List L2.V} {d e : D} (h : Reps K cl H vs [d, e]) : ∃ v u, vs = [v, u] ∧ Rep K cl H v d ∧ Rep K cl H u e := by
  obtain ⟨v, r, rfl, h1, h2⟩ := Reps.cons_iff.1 h
  obtain ⟨u, rfl, h3⟩ := reps1 h2
  exact ⟨v, u, rfl, h1, h3⟩
theorem rdl_len : RDL K cl (rLenD K) bLen := by
  intro M H x d d' hf t hx Q k
  unfold bLen at hf
  split at hf
  · cases hf
    obtain ⟨v, rfl, h⟩ := reps1 hx
    obtain ⟨a, vs, rfl, ha, ra⟩ := rep_list.1 h
    exact .inl ⟨a, vs, rfl, .inl (.of (hid_some ha).2), k _ H Ex0 (rep_int.2 (by rw [ra.length]))⟩
  · cases hf
    obtain ⟨v, rfl, h⟩ := reps1 hx
    obtain ⟨a, vs, rfl, ha, ra⟩ := rep_tup.1 h
    exact .inl ⟨a, vs, rfl, .inr (.of (hid_some ha).2), k _ H Ex0 (rep_int.2 (by rw [ra.length]))⟩
  · cases hf
    obtain ⟨v, rfl, h⟩ := reps1 hx
    obtain ⟨a, rfl, ha⟩ := rep_scr.1 h
    exact .inl ⟨a, _, rfl, .inl (sq_hid ha), k _ H Ex0 (rep_int.2 (by rw [List.length_map]))⟩
  · split at hf
    · cases hf
      obtain ⟨v, rfl, h⟩ := reps1 hx
      exact .inr ⟨_, by rw [rep_str.1 h], by rw [sizeLine_eq]; omega, k _ H Ex0 (rep_int.2 rfl)⟩
    · cases hf
  · cases hf
theorem fl_len : fL bLen := by
  intro ds d h
  unfold bLen at h
  split at h
  · cases h; rfl
  · cases h; rfl
  · cases h; rfl
  · split at h <;> cases h
    rfl
  · cases h
def bInt : List D → Option D
  | [.int i] => some (.int i)
  | [.bl b] => some (.int (if b then 1 else 0))
  | _ => none
theorem rdl_int : RDL K cl (fun xs H Q => (∃ i, xs = [.int i] ∧ Q (.int i) H) ∨ ∃ k, xs = [.bl k] ∧ Q (.int (if k then 1 else 0)) H) bInt := by
  intro M H x d d' hf t hx Q k
  unfold bInt at hf
  split at hf
  · cases hf
    obtain ⟨v, rfl, h⟩ := reps1 hx
    exact .inl ⟨_, by rw [rep_int.1 h], k _ H Ex0 (rep_int.2 rfl)⟩
  · cases hf
    obtain ⟨v, rfl, h⟩ := reps1 hx
    exact .inr ⟨_, by rw [rep_bl.1 h], k _ H Ex0 (rep_int.2 rfl)⟩
  · cases hf
def bAbs : List D → Option D
  | [.int i] => some (.int (if i < 0 then -i else i))
  | _ => none
theorem rdl_abs : RDL K cl (fun xs H Q => ∃ i, xs = [.int i] ∧ Q (.int (if i < 0 then -i else i)) H) bAbs := by
  intro M H x d d' hf t hx Q k
  unfold bAbs at hf
  split at hf
  · cases hf
    obtain ⟨v, rfl, h⟩ := reps1 hx
    exact ⟨_, by rw [rep_int.1 h], k _ H Ex0 (rep_int.2 rfl)⟩
  · cases hf
def bMax : List D → Option D
  | [.int i, .int j] => some (.int (if j > i then j else i))
  | _ => none
theorem rdl_max : RDL K cl (fun xs H Q => ∃ i j, xs = [.int i, .int j] ∧ Q (.int (if j > i then j else i)) H) bMax := by
  intro M H x d d' hf t hx Q k
  unfold bMax at hf
  split at hf
  · cases hf
    obtain ⟨v, u, rfl, h, g⟩ := reps2 hx
    exact ⟨_, _, by rw [rep_int.1 h, rep_int.1 g], k _ H Ex0 (rep_int.2 rfl)⟩
  · cases hf
def bMin : List D → Option D
  | [.int i, .int j] => some (.int (if j < i then j else i))
  | _ => none
theorem rdl_min : RDL K cl (fun xs H Q => ∃ i j, xs = [.int i, .int j] ∧ Q (.int (if j < i then j else i)) H) bMin := by
  intro M H x d d' hf t hx Q k
  unfold bMin at hf
  split at hf
  · cases hf
    obtain ⟨v, u, rfl, h, g⟩ := reps2 hx
    exact ⟨_, _, by rw [rep_int.1 h, rep_int.1 g], k _ H Ex0 (rep_int.2 rfl)⟩
  · cases hf
/-- all of them numbers -/
def ints? : List D → Option (List Int)
  | [] => some []
  | .int i :: r => (ints? r).map fun ns => i :: ns
  | _ :: _ => none
theorem ints?_map (ns : List Int) : ints? (ns.map D.int) = some ns := by
  induction ns with
  | nil => rfl
  | cons n ns ih => rw [List.map_cons, ints?, ih]; rfl
theorem ints?_rep {H : Hp} : ∀ {ds : List D} {vs : List L2.V} {ns : List Int}, Reps K cl H vs ds → ints? ds = some ns → vs = ns.map V.int ∧ ds = ns.map D.int
  | [], vs, ns, h, e => by rw [Reps.nil_iff.1 h]; cases e; exact ⟨rfl, rfl⟩
  | d :: ds, vs, ns, h, e => by
    obtain ⟨v, r, rfl, h1, t⟩ := Reps.cons_iff.1 h
    cases d <;> first | (cases e; done) | skip
    rw [ints?] at e
    obtain ⟨ms, e1, rfl⟩ := Option.map_eq_some_iff.1 e
    obtain ⟨g1, g2⟩ := ints?_rep t e1
    rw [g1, rep_int.1 h1, List.map_cons, List.map_cons, ← g2]
    exact ⟨rfl, rfl⟩
def bSum : List D → Option D
  | [.lst xs] => (ints? xs).map fun ns => .int ns.sum
  | _ => none
theorem rdl_sum : RDL K cl (rSum K) bSum := by
  intro M H x d d' hf t hx Q k
  unfold bSum at hf
  split at hf
  · obtain ⟨ns, h1, rfl⟩ := Option.map_eq_some_iff.1 hf
    obtain ⟨v, rfl, h⟩ := reps1 hx
    obtain ⟨a, vs, rfl, ha, ra⟩ := rep_list.1 h
    obtain ⟨rfl, _⟩ := ints?_rep ra h1
    exact ⟨a, ns, rfl, .of (hid_some ha).2, k _ H Ex0 (rep_int.2 rfl)⟩
  · cases hf
/-- in order -/
def sortI (ns : List Int) : List Int := ns.mergeSort
theorem sortI_perm (ns : List Int) : (sortI ns).Perm ns := List.mergeSort_perm _ _
theorem sortI_sorted (ns : List Int) : (sortI ns).Pairwise (· ≤ ·) := by
  have := List.pairwise_mergeSort (le := fun (a b : Int) => decide (a ≤ b)) (fun a b c h1 h2 => by simp at *; omega) (fun a b => by simp; omega) ns
  exact this.imp fun h => by simpa using h
theorem sortI_the {ns ms : List Int} (h : ms.Perm ns) (s : ms.Pairwise (· ≤ ·)) : ms = sortI ns :=
  (h.trans (sortI_perm ns).symm).eq_of_pairwise (fun a b _ _ h1 h2 => Int.le_antisymm h1 h2) s (sortI_sorted ns)
def bSorted : List D → Option (List D)
  | [.lst xs] => (ints? xs).map fun ns => (sortI ns).map D.int
  | _ => none
theorem rol_sorted : ROL K cl (rSortedI K) bSorted := by
  intro M H x d d' hf t hx Q k
  unfold bSorted at hf
  split at hf
  · obtain ⟨ns, h1, rfl⟩ := Option.map_eq_some_iff.1 hf
    obtain ⟨v, rfl, h⟩ := reps1 hx
    obtain ⟨a, vs, rfl, ha, ra⟩ := rep_list.1 h
    obtain ⟨rfl, _⟩ := ints?_rep ra h1
    refine ⟨a, ns, rfl, .of (hid_some ha).2, fun ns' p g1 g2 hn => ?_⟩
    rw [sortI_the g1 g2]
    obtain ⟨e1, e2, e3⟩ := new_lst hn t (Reps.ints (sortI ns))
    exact k p _ _ hn e1 e2 e3
  · cases hf
def bList : List D → Option (List D)
  | [.lst xs] => some xs
  | [.tup xs] => some xs
  | [.scr ns] => some (ns.map D.int)
  | _ => none
theorem rol_list : ROL K cl (fun xs H Q => ∃ p ys, xs = [.ref p] ∧ (SqL K H p ys ∨ SqT K H p ys) ∧ ∀ l, H l = none → Q (.ref l) (upd H l (.lst ys))) bList := by
  intro M H x d d' hf t hx Q k
  unfold bList at hf
  split at hf
  · cases hf
    obtain ⟨v, rfl, h⟩ := reps1 hx
    obtain ⟨a, vs, rfl, ha, ra⟩ := rep_list.1 h
    refine ⟨a, vs, rfl, .inl (.of (hid_some ha).2), fun l hn => ?_⟩
    obtain ⟨e1, e2, e3⟩ := new_lst hn t ra
    exact k l _ _ hn e1 e2 e3
  · cases hf
    obtain ⟨v, rfl, h⟩ := reps1 hx
    obtain ⟨a, vs, rfl, ha, ra⟩ := rep_tup.1 h
    refine ⟨a, vs, rfl, .inr (.of (hid_some ha).2), fun l hn => ?_⟩
    obtain ⟨e1, e2, e3⟩ := new_lst hn t ra
    exact k l _ _ hn e1 e2 e3
  · cases hf
    obtain ⟨v, rfl, h⟩ := reps1 hx
    obtain ⟨a, rfl, ha⟩ := rep_scr.1 h
    refine ⟨a, _, rfl, .inl (sq_hid ha), fun l hn => ?_⟩
    obtain ⟨e1, e2, e3⟩ := new_lst hn t (Reps.ints _)
    exact k l _ _ hn e1 e2 e3
  · cases hf
def bTuple : List D → Option D
  | [.lst xs] => some (.tup xs)
  | [.tup xs] => some (.tup xs)
  | _ => none
theorem rdl_tuple : RDL K cl (fun xs H Q => ∃ p ys, xs = [.ref p] ∧ ((SqL K H p ys ∧ ∀ l, H l = none → Q (.ref l) (upd H l (.tup ys))) ∨ (SqT K H p ys ∧ Q (.ref p) H))) bTuple := by
  intro M H x d d' hf t hx Q k
  unfold bTuple at hf
  split at hf
  · cases hf
    obtain ⟨v, rfl, h⟩ := reps1 hx
    obtain ⟨a, vs, rfl, ha, ra⟩ := rep_list.1 h
    refine ⟨a, vs, rfl, .inl ⟨.of (hid_some ha).2, fun l hn => ?_⟩⟩
    obtain ⟨e1, e2⟩ := new_tup hn t ra
    exact k _ _ e1 e2
  · cases hf
    obtain ⟨v, rfl, h⟩ := reps1 hx
    obtain ⟨a, vs, rfl, ha, ra⟩ := rep_tup.1 h
    exact ⟨a, vs, rfl, .inr ⟨.of (hid_some ha).2, k _ H Ex0 h⟩⟩
  · cases hf
/-- list(range(..)) -/
def RgOkB (a b : Int) : Bool := decide (-1000000 ≤ a) && (decide (a ≤ 1000000) && (decide (-1000000 ≤ b) && decide (b ≤ 1000000)))
theorem RgOkB_ok {a b : Int} (h : RgOkB a b = true) : RgOk a b := by
  unfold RgOkB at h
  simp only [Bool.and_eq_true, decide_eq_true_eq] at h
  obtain ⟨h1, h2, h3, h4⟩ := h
  exact ⟨by omega, by omega, by omega, by omega, by omega⟩
def rgI (a b : Int) : List Int := (List.range (b - a).toNat).map fun (i : Nat) => a + (i : Int)
theorem rgV_eq (a b : Int) : rgV a b = (rgI a b).map V.int := by
  unfold rgV rgI
  rw [List.map_map]
  rfl
def xrg1 (ma : Env' → Option D) : Env' → Option (Int × Int) := fun ev => match ma ev with
  | some (.int n) => some (0, n)
  | _ => none
def xrg2 (ma mb : Env' → Option D) : Env' → Option (Int × Int) := fun ev => match ma ev, mb ev with
  | some (.int a), some (.int b) => some (a, b)
  | _, _ => none
def ER (w : Bool) (X : Cx) (cl : Str → Addr) (e : Expr) (m : Env' → Option (Int × Int)) : Prop :=
  ∃ te, PRg X e te ∧ ∀ M q os ev σ H d, m ev = some d → Rl X.K cl M q os ev σ H → ∀ Q : Int → Int → Hp → Prop, (∀ H', Ex H H' → Q d.1 d.2 H') → te σ H Q
theorem er_1 {p : Pos} (hg : Gl X "range") (hm : X.mg "range" = none) (ha : EV w X cl a ma) (na : starEach [a] X.env = (false, eval a X.env) :: starEach [] X.env := by rfl) : ER w X cl (.Call (.Name "range" p) [a] [] pos) (xrg1 ma) := by
  obtain ⟨ta, pa, ha⟩ := ha
  refine ⟨_, prg_1 hg hm pa na, fun M q os ev σ H d hm rl Q k => ?_⟩
  unfold xrg1 at hm
  split at hm
  · next n hn =>
    cases hm
    exact ha M q os ev σ H _ hn rl _ fun v H1 x1 r1 => ⟨n, rep_int.1 r1, k H1 x1⟩
  · cases hm
theorem er_2 {p : Pos} (hg : Gl X "range") (hm : X.mg "range" = none) (ha : EV w X cl a ma) (hb : EV w X cl b mb) (na : starEach [a, b] X.env = (false, eval a X.env) :: starEach [b] X.env := by rfl) (nb : starEach [b] X.env = (false, eval b X.env) :: starEach [] X.env := by rfl) : ER w X cl (.Call (.Name "range" p) [a, b] [] pos) (xrg2 ma mb) := by
  obtain ⟨ta, pa, ha⟩ := ha
  obtain ⟨tb, pb, hb⟩ := hb
  refine ⟨_, prg_2 hg hm pa pb na nb (by rw [nb]; rfl), fun M q os ev σ H d hm rl Q k => ?_⟩
  unfold xrg2 at hm
  split at hm
  · next n m hn hm' =>
    cases hm
    exact ha M q os ev σ H _ hn rl _ fun v H1 x1 r1 => hb M q os ev σ H1 _ hm' (rl.ex x1) _ fun u H2 x2 r2 => ⟨n, m, rep_int.1 r1, rep_int.1 r2, k H2 (x1.trans x2)⟩
  · cases hm
def xlrg (m : Env' → Option (Int × Int)) : Env' → Option (List D) := fun ev => do
  let p ← m ev
  if RgOkB p.1 p.2 = true then some ((rgI p.1 p.2).map D.int) else none
theorem eo_listRg {m : Env' → Option (Int × Int)} {p : Pos} (hc : X.calm = true) (hg : Gl X "list") (hm : X.mg "list" = none) (he : ER w X cl e m) (na : starEach [e] X.env = (false, eval e X.env) :: starEach [] X.env := by rfl) : EO w X cl (.Call (.Name "list" p) [e] [] pos) (xlrg m) := by
  obtain ⟨te, pe, he⟩ := he
  refine ⟨_, pe_listRg hc hg hm pe na, fun M q os ev σ H d hm rl Q k => ?_⟩
  obtain ⟨⟨i, j⟩, h1, hm⟩ := bind_some' hm
  split at hm
  · next hc =>
    have hq := Option.some.inj hm
    subst hq
    refine he M q os ev σ H _ h1 rl _ fun H1 x1 => ⟨RgOkB_ok hc, fun y hn => ?_⟩
    rw [rgV_eq]
    obtain ⟨e1, e2, e3⟩ := new_lst hn ((rl.ex x1).tk w) (Reps.ints (rgI i j))
    exact k y _ _ (Evl.fresh_back x1 hn) (x1.trans e1) e2 e3
  · cases hm
/-- n.bit_length() -/
def D.bits : D → Option D
  | .int i => some (.int (Builtin.Int.intBits i : Nat))
  | _ => none
theorem ev_bits {apos : Pos} (ha : EV w X cl a ma) (hbase : attributeBase a "bit_length" X.env (eval a X.env) = eval a X.env := by rfl) (hline : (apos.endLine == pos.line) = true := by rfl) : EV w X cl (.Call (.Attribute a "bit_length" apos) [] [] pos) (m1 D.bits ma) := by
  obtain ⟨ta, pa, ha⟩ := ha
  refine ⟨_, pe_bits pa hbase hline, fun M q os ev σ H d hm rl Q k => ?_⟩
  obtain ⟨x, h1, hm⟩ := bind_some' hm
  unfold D.bits at hm
  split at hm
  · cases hm
    exact ha M q os ev σ H _ h1 rl _ fun v H1 x1 r1 => ⟨_, rep_int.1 r1, k _ H1 x1 (rep_int.2 rfl)⟩
  · cases hm
end
end Lay

namespace Lay
open PySem PySem.Spec PyProof.Rows L2
open Evl (Ex)
/-! ### one reading for all contexts -/
section
variable {w : Bool} {X : Cx} {cl : Str → Addr} {e : Expr}
def cv (w : Bool) (K : Fg) (cl : Str → Addr) (m : Env' → Option D) : TE := fun σ H Q => ∃ M q os ev d, m ev = some d ∧ Rl K cl M q os ev σ H ∧ ∀ v H', Ex H H' → Rep K cl (hid (vw w os M) H') v d → Q v H'
def ct (K : Fg) (cl : Str → Addr) (m : Env' → Option Bool) : TT := fun σ H Q => ∃ M q os ev d, m ev = some d ∧ Rl K cl M q os ev σ H ∧ ∀ H', Ex H H' → Q d H'
theorem EV.pe {m : Env' → Option D} (h : EV w X cl e m) : PE X e (cv w X.K cl m) := by
  obtain ⟨te, hp, h⟩ := h
  exact ⟨fun pins s σ H Q I ⟨M, q, os, ev, d, h1, h2, h3⟩ => hp.run pins s σ H Q I (h M q os ev σ H d h1 h2 Q h3)⟩
theorem ET.pt {m : Env' → Option Bool} (h : ET X cl e m) : PT X e (ct X.K cl m) := by
  obtain ⟨te, hp, h⟩ := h
  exact ⟨fun pins s σ H Q I ⟨M, q, os, ev, d, h1, h2, h3⟩ => hp.run pins s σ H Q I (h M q os ev σ H d h1 h2 Q h3)⟩
end

/-! ### slots that own nothing are set -/
def plainAt (e : List Slot) (i : Nat) : Bool := match e[i]? with
  | some .emp => true
  | some (.val _) => true
  | _ => false
section
variable {K : Fg} {cl : Str → Addr} {V H H' : Hp} {q : Option Addr} {e : List Slot} {σ : L2.St} {os M : List Addr}
theorem SR.set_plain {v : L2.V} {d : D} (h : SR K cl V H q e σ os) (r : Rep K cl V v d) : ∀ {i : Nat}, plainAt e i = true → SR K cl V H q (e.set i (.val d)) (σ.set i (some v)) os := by
  induction h with
  | nil => intro i hi; simp [plainAt] at hi
  | emp h ih => intro i hi; cases i with
    | zero => exact .val r h
    | succ i => exact .emp (ih (by simpa [plainAt] using hi))
  | val r' h ih => intro i hi; cases i with
    | zero => exact .val r h
    | succ i => exact .val r' (ih (by simpa [plainAt] using hi))
  | own h1 h2 h ih => intro i hi; cases i with
    | zero => simp [plainAt] at hi
    | succ i => exact .own h1 h2 (ih (by simpa [plainAt] using hi))
  | par hq h1 h2 h ih => intro i hi; cases i with
    | zero => simp [plainAt] at hi
    | succ i => exact .par hq h1 h2 (ih (by simpa [plainAt] using hi))
theorem SR.emp_plain {x : Option L2.V} (h : SR K cl V H q e σ os) : ∀ {i : Nat}, plainAt e i = true → SR K cl V H q (e.set i .emp) (σ.set i x) os := by
  induction h with
  | nil => intro i hi; simp [plainAt] at hi
  | emp h ih => intro i hi; cases i with
    | zero => exact .emp h
    | succ i => exact .emp (ih (by simpa [plainAt] using hi))
  | val r' h ih => intro i hi; cases i with
    | zero => exact .emp h
    | succ i => exact .val r' (ih (by simpa [plainAt] using hi))
  | own h1 h2 h ih => intro i hi; cases i with
    | zero => simp [plainAt] at hi
    | succ i => exact .own h1 h2 (ih (by simpa [plainAt] using hi))
  | par hq h1 h2 h ih => intro i hi; cases i with
    | zero => simp [plainAt] at hi
    | succ i => exact .par hq h1 h2 (ih (by simpa [plainAt] using hi))
theorem Rl.set_plain {v : L2.V} {d : D} (r : Rl K cl M q os e σ H) (h : Rep K cl (hid (os ++ M) H) v d) {i : Nat} (hi : plainAt e i = true) : Rl K cl M q os (e.set i (.val d)) (σ.set i (some v)) H :=
  ⟨r.sr.set_plain h hi, r.nd, r.dj, r.tr, r.qm⟩
theorem Rl.emp_plain (r : Rl K cl M q os e σ H) {i : Nat} (hi : plainAt e i = true) : Rl K cl M q os (e.set i .emp) (σ.set i none) H :=
  ⟨r.sr.emp_plain hi, r.nd, r.dj, r.tr, r.qm⟩
end
/-! targets -/
def plainAll (e : List Slot) (is : List Nat) : Bool := is.all (plainAt e)
def setL (e : List Slot) : List Nat → List D → List Slot
  | i :: is, d :: ds => setL (e.set i (.val d)) is ds
  | _, _ => e
def wipeE (e : List Slot) (is : List Nat) : List Slot := is.foldr (fun i e => e.set i .emp) e
/-- a name, names in a tuple -/
inductive Tgt where
  | one (i : Nat) | many (is : List Nat)
def Tgt.slots : Tgt → List Nat
  | .one i => [i]
  | .many is => is
def Tgt.put (t : Tgt) (d : D) (e : List Slot) : Option (List Slot) := match t with
  | .one i => if plainAt e i = true then some (e.set i (.val d)) else none
  | .many is => match d with
    | .tup ds => if ds.length = is.length ∧ plainAll e is = true then some (setL e is ds) else none
    | _ => none
theorem plainAt_set {e : List Slot} {i j : Nat} {d : D} (h : plainAt e j = true) : plainAt (e.set i (.val d)) j = true := by
  unfold plainAt at h ⊢
  by_cases hij : i = j
  · subst hij
    cases he : e[i]? with
    | none => rw [he] at h; cases h
    | some x =>
      have : i < e.length := (List.getElem?_eq_some_iff.1 he).1
      rw [List.getElem?_set_self this]
  · rw [List.getElem?_set_ne hij]
    exact h
theorem wipe_set {σ : L2.St} {i : Nat} {x : Option L2.V} : ∀ {vs : List Nat}, i ∈ vs → wipe (σ.set i x) vs = wipe σ vs
  | [], h => by simp at h
  | v :: vs, h => by
    show (wipe (σ.set i x) vs).set v none = (wipe σ vs).set v none
    by_cases hv : i ∈ vs
    · rw [wipe_set hv]
    · rcases List.mem_cons.1 h with rfl | h
      · have : ∀ (vs : List Nat) (σ : L2.St), i ∉ vs → wipe (σ.set i x) vs = (wipe σ vs).set i x := by
          intro vs
          induction vs with
          | nil => intro σ _; rfl
          | cons u us ih =>
            intro σ hu
            have hu' : i ≠ u ∧ i ∉ us := by simpa using hu
            show (wipe (σ.set i x) us).set u none = ((wipe σ us).set u none).set i x
            rw [ih σ hu'.2, List.set_comm _ _ (fun z => hu'.1 z)]
        rw [this vs σ hv, List.set_set]
      · exact absurd h hv
theorem wipe_comm {σ : L2.St} {i : Nat} : ∀ (vs : List Nat), (wipe σ vs).set i none = wipe (σ.set i none) vs
  | [] => rfl
  | v :: vs => by
    show ((wipe σ vs).set v none).set i none = (wipe (σ.set i none) vs).set v none
    by_cases h : v = i
    · subst h
      rw [List.set_set, ← wipe_comm vs, List.set_set]
    · rw [List.set_comm _ _ h, wipe_comm vs]
theorem wipe_wipe {σ : L2.St} : ∀ (us vs : List Nat), (∀ i ∈ us, i ∈ vs) → wipe (wipe σ us) vs = wipe σ vs
  | [], _, _ => rfl
  | u :: us, vs, h => by
    show wipe ((wipe σ us).set u none) vs = _
    rw [wipe_set (h u (by simp)), wipe_wipe us vs fun i hi => h i (by simp [hi])]

/-- the readings of targets -/
def gL : List Nat → TGs
  | [] => gNil
  | i :: is => gCons (gName i) (gL is)
def putV (σ : L2.St) : List Nat → List L2.V → L2.St
  | i :: is, v :: vs => putV (σ.set i (some v)) is vs
  | _, _ => σ
theorem gL_ok : ∀ {is : List Nat} {vs : List L2.V} {σ : L2.St} {H : Hp} {Q : L2.St → Hp → Prop}, vs.length = is.length → Q (putV σ is vs) H → gL is vs σ H Q
  | [], vs, σ, H, Q, hl, hq => ⟨List.length_eq_zero_iff.1 hl, by cases vs <;> exact hq⟩
  | i :: is, [], σ, H, Q, hl, hq => by simp at hl
  | i :: is, v :: vs, σ, H, Q, hl, hq => ⟨v, vs, rfl, gL_ok (is := is) (by simpa using hl) hq⟩
theorem wipe_putV {us : List Nat} : ∀ {is : List Nat} {vs : List L2.V} {σ : L2.St}, (∀ i ∈ is, i ∈ us) → wipe (putV σ is vs) us = wipe σ us
  | [], vs, σ, _ => by cases vs <;> rfl
  | i :: is, [], σ, _ => rfl
  | i :: is, v :: vs, σ, h => by
    show wipe (putV (σ.set i (some v)) is vs) us = _
    rw [wipe_putV fun j hj => h j (by simp [hj]), wipe_set (h i (by simp))]
def tgR (K : Fg) : Tgt → TG
  | .one i => gName i
  | .many is => gTup K is.length (gL is)
abbrev PGT (X : Cx) (tg : Expr) (t : Tgt) : Prop := PG X tg (tgR X.K t)
section
variable {K : Fg} {cl : Str → Addr} {q : Option Addr} {os M : List Addr} {H : Hp}
theorem plainAll_set {e : List Slot} {i : Nat} {d : D} {is : List Nat} (h : plainAll e is = true) : plainAll (e.set i (.val d)) is = true := by
  unfold plainAll at h ⊢
  rw [List.all_eq_true] at h ⊢
  exact fun j hj => plainAt_set (h j hj)
theorem Rl.putV : ∀ {is : List Nat} {vs : List L2.V} {ds : List D} {e : List Slot} {σ : L2.St}, Rl K cl M q os e σ H → Reps K cl (hid (os ++ M) H) vs ds → plainAll e is = true → Rl K cl M q os (setL e is ds) (Lay.putV σ is vs) H
  | [], vs, ds, e, σ, r, h, p => by cases vs <;> cases ds <;> exact r
  | i :: is, vs, [], e, σ, r, h, p => by rw [Reps.nil_iff.1 h]; exact r
  | i :: is, vs, d :: ds, e, σ, r, h, p => by
    obtain ⟨v, us, rfl, h1, h2⟩ := Reps.cons_iff.1 h
    have p' : plainAt e i = true ∧ plainAll e is = true := by
      unfold plainAll at p ⊢
      rw [List.all_cons, Bool.and_eq_true] at p
      exact p
    exact Rl.putV (is := is) (r.set_plain h1 p'.1) h2 (plainAll_set p'.2)
theorem tg_ok {t : Tgt} {e e' : List Slot} {σ : L2.St} {v : L2.V} {d : D} (hp : t.put d e = some e') (r : Rl K cl M q os e σ H) (hv : Rep K cl (hid (os ++ M) H) v d) {Q : L2.St → Hp → Prop}
    (k : ∀ σ', Rl K cl M q os e' σ' H → (∀ us, (∀ i ∈ t.slots, i ∈ us) → wipe σ' us = wipe σ us) → Q σ' H) : tgR K t v σ H Q := by
  cases t with
  | one i =>
    unfold Tgt.put at hp
    simp only at hp
    split at hp
    · next hc =>
      cases hp
      exact k _ (r.set_plain hv hc) fun us hs => wipe_set (hs i (by simp [Tgt.slots]))
    · cases hp
  | many is =>
    unfold Tgt.put at hp
    simp only at hp
    split at hp
    · split at hp
      · next ds hc =>
        cases hp
        obtain ⟨a, vs, rfl, g1, g2⟩ := rep_tup.1 hv
        refine ⟨a, vs, rfl, .of (hid_some g1).2, by rw [g2.length, hc.1], gL_ok (by rw [g2.length, hc.1]) ?_⟩
        exact k _ (r.putV g2 hc.2) fun us hs => wipe_putV hs
      · cases hp
    · cases hp
end
section
variable {X : Cx} {cl : Str → Addr} {pos : Pos}
structure LocAt (X : Cx) (i : Nat) (x : Str) : Prop where
  nd : X.N.Nodup
  ix : X.N[i]? = some x
  loc : Loc X.env.scope x
  fn : X.fn x = true ∨ X.env.scope.names.lookup x = some .local
theorem gt_one {i : Nat} {x : Str} (h : LocAt X i x) : PGT X (.Name x pos) (.one i) := pg_name h.nd h.ix h.loc h.fn
abbrev PGL (X : Cx) (tgs : List Expr) (is : List Nat) : Prop := PGs X tgs (gL is)
theorem gl_nil : PGL X [] [] := pgs_nil
theorem gl_cons {i : Nat} {x : Str} {tgs : List Expr} {is : List Nat} (h : LocAt X i x) (t : PGL X tgs is) (hs : (assignEach (.Name x pos :: tgs) X.env).map (·.2) = assign (.Name x pos) X.env :: (assignEach tgs X.env).map (·.2) := by rfl) : PGL X (.Name x pos :: tgs) (i :: is) :=
  pgs_cons (pg_name h.nd h.ix h.loc h.fn) t hs
theorem gt_many {es : List Expr} {kk : Nat} {is : List Nat} (hc : X.calm = true) (h : PGL X es is) (hn : (assignEach es X.env).length = is.length := by rfl) (hst : (assignEach es X.env).findIdx? (·.1) = none := by rfl) : PGT X (.Tuple es kk pos) (.many is) :=
  pg_tup hc h hn hst
end

/-! ### what is walked -/
def WalkD (K : Fg) (cl : Str → Addr) (W : List Addr) (J : It) (ds : List D) (H' : Hp) : Prop :=
  ∀ W' H2, Ex (hid W H') (hid W' H2) → Tk W' H2 → (∀ i d, ds[i]? = some d → J.go i H2 ∧ ∀ x H3, J.yld i H2 x H3 → Ex H2 H3 ∧ Rep K cl (hid W' H3) x d) ∧ J.stop ds.length H2
def EI (w : Bool) (X : Cx) (cl : Str → Addr) (tg it : Expr) (m : Env' → Option (List D)) : Prop :=
  ∃ wi, PI X tg it wi ∧ ∀ M q os ev σ H ds, m ev = some ds → Rl X.K cl M q os ev σ H → ∀ R : It → Hp → Prop, (∀ J H', Ex H H' → WalkD X.K cl (vw w os M) J ds H' → R J H') → wi σ H R
section
variable {w : Bool} {X : Cx} {cl : Str → Addr} {tg e a b : Expr} {pos : Pos} {m ma mb : Env' → Option D}
def iSeq (K : Fg) (tl : TE) : TI := fun σ H R => tl σ H fun x H1 => (∃ a, x = .ref a ∧ (∃ xs, SqL K H1 a xs) ∧ R (Itl K a) H1) ∨ (∃ a, x = .ref a ∧ (∃ xs, SqT K H1 a xs) ∧ R (Itt K a) H1)
theorem pi_seq {l : Expr} {tl : TE} (hl : PE X l tl) : PI X tg l (iSeq X.K tl) := by
  refine ⟨fun pins s σ H R I h => ?_⟩
  refine thn (hl.run pins s σ H _ I h) fun v s1 ⟨x, H1, I1, r1, q1⟩ => ?_
  rcases q1 with ⟨a, e, ⟨xs, hq⟩, q⟩ | ⟨a, e, ⟨xs, hq⟩, q⟩
  · subst e
    cases r1
    obtain ⟨its, rv, p, hz⟩ := I1.list hq
    refine wpAny_pyIter_list p.isList ?_
    refine ⟨s1.heap.objs.size, [s1.heap.objs.size], _, _, H1, rfl, I1.kept (t' := s1.toks) fun b o e => Heap.get?_push_of_some _ e, turn_list a _, ⟨_, Heap.get?_push_size _ rfl, rfl, rfl⟩, fun b hb => ?_, q⟩
    have e : b = s1.heap.objs.size := by simpa using hb
    subst e
    exact I1.fpOk (Nat.le_refl _) (I1.hok.fresh (Nat.le_refl _))
  · subst e
    cases r1
    obtain ⟨its, rv, p, hz⟩ := I1.tuple hq
    refine wpAny_pyIter_tuple (show s1.heap.IsTuple a its.toArray from p) ?_
    refine ⟨s1.heap.objs.size, [s1.heap.objs.size], _, _, H1, rfl, I1.kept (t' := s1.toks) fun b o e => Heap.get?_push_of_some _ e, turn_tuple a _, ⟨_, Heap.get?_push_size _ rfl, rfl, rfl⟩, fun b hb => ?_, q⟩
    have e : b = s1.heap.objs.size := by simpa using hb
    subst e
    exact I1.fpOk (Nat.le_refl _) (I1.hok.fresh (Nat.le_refl _))
def iSeqD : D → Option (List D)
  | .lst xs => some xs
  | .tup xs => some xs
  | _ => none
def iseq (ma : Env' → Option D) : Env' → Option (List D) := fun ev => do let d ← ma ev; iSeqD d
theorem ei_seq (ha : EV w X cl e m) : EI w X cl tg e (iseq m) := by
  obtain ⟨te, hp, h⟩ := ha
  refine ⟨_, pi_seq hp, fun M q os ev σ H ds hm rl R k => ?_⟩
  obtain ⟨d, h1, hm⟩ := bind_some' hm
  refine h M q os ev σ H d h1 rl _ fun v H1 x1 r1 => ?_
  unfold iSeqD at hm
  split at hm
  · cases hm
    obtain ⟨a, vs, rfl, g1, g2⟩ := rep_list.1 r1
    refine .inl ⟨a, rfl, ⟨vs, .of (hid_some g1).2⟩, k _ H1 x1 fun W' H2 x2 t2 => ?_⟩
    have h2 : SqL X.K H2 a vs := .of (hid_some (x2 _ _ g1)).2
    refine ⟨fun i d hd => ?_, ⟨vs, h2, Nat.le_of_eq g2.length⟩⟩
    obtain ⟨v, e1, e2⟩ := g2.get hd
    refine ⟨⟨vs, v, h2, e1⟩, fun x H3 ⟨y1, y2⟩ => ?_⟩
    subst y1
    have := (y2 vs h2).symm.trans e1
    cases this
    exact ⟨Ex0, e2.mono x2⟩
  · cases hm
    obtain ⟨a, vs, rfl, g1, g2⟩ := rep_tup.1 r1
    refine .inr ⟨a, rfl, ⟨vs, .of (hid_some g1).2⟩, k _ H1 x1 fun W' H2 x2 t2 => ?_⟩
    have h2 : SqT X.K H2 a vs := .of (hid_some (x2 _ _ g1)).2
    refine ⟨fun i d hd => ?_, ⟨vs, h2, Nat.le_of_eq g2.length⟩⟩
    obtain ⟨v, e1, e2⟩ := g2.get hd
    refine ⟨⟨vs, v, h2, e1⟩, fun x H3 ⟨y1, y2⟩ => ?_⟩
    subst y1
    have := (y2 vs h2).symm.trans e1
    cases this
    exact ⟨Ex0, e2.mono x2⟩
  · cases hm
def rgB (a b : Int) : Bool := decide (-1000000000 ≤ a) && (decide (a ≤ 1000000000) && (decide (-1000000000 ≤ b) && decide (b ≤ 1000000000)))
theorem rgB_ok {a b : Int} (h : rgB a b = true) : -(2 ^ 62) ≤ a ∧ a < 2 ^ 62 ∧ -(2 ^ 62) ≤ b ∧ b < 2 ^ 62 := by
  unfold rgB at h
  simp only [Bool.and_eq_true, decide_eq_true_eq] at h
  obtain ⟨h1, h2, h3, h4⟩ := h
  exact ⟨by omega, by omega, by omega, by omega⟩
theorem rgI_get {a b : Int} {i : Nat} {d : D} (h : ((rgI a b).map D.int)[i]? = some d) : i < (b - a).toNat ∧ d = .int (a + i) := by
  unfold rgI at h
  rw [List.map_map, List.getElem?_map] at h
  obtain ⟨j, h1, h2⟩ := Option.map_eq_some_iff.1 h
  have h3 : i < (b - a).toNat := by simpa using (List.getElem?_eq_some_iff.1 h1).1
  rw [List.getElem?_range h3] at h1
  cases h1
  exact ⟨h3, h2.symm⟩
theorem rgI_len {a b : Int} : ((rgI a b).map D.int).length = (b - a).toNat := by
  unfold rgI
  rw [List.length_map, List.length_map, List.length_range]
theorem walk_rg {K : Fg} {W : List Addr} {H : Hp} (a b : Int) : WalkD K cl W (Itr a (b - a).toNat) ((rgI a b).map D.int) H := fun W' H2 x2 t2 => by
  refine ⟨fun i d hd => ?_, by rw [rgI_len]; exact Nat.le_refl _⟩
  obtain ⟨h1, rfl⟩ := rgI_get hd
  exact ⟨h1, fun x H3 ⟨y1, y2⟩ => by subst y1; subst y2; exact ⟨Ex0, rep_int.2 rfl⟩⟩
def irg1 (ma : Env' → Option D) : Env' → Option (List D) := fun ev => match ma ev with
  | some (.int b) => if rgB 0 b = true then some ((rgI 0 b).map D.int) else none
  | _ => none
def irg2 (ma mb : Env' → Option D) : Env' → Option (List D) := fun ev => match ma ev, mb ev with
  | some (.int a), some (.int b) => if rgB a b = true then some ((rgI a b).map D.int) else none
  | _, _ => none
theorem ei_rg1 {p : Pos} (hg : Gl X "range") (hm : X.mg "range" = none) (ha : EV false X cl a ma) (hs : starEach [a] X.env = [(false, eval a X.env)] := by rfl) : EI w X cl tg (.Call (.Name "range" p) [a] [] pos) (irg1 ma) := by
  obtain ⟨te, hp, h⟩ := ha
  refine ⟨_, pi_range1 hg hm (pa_cons hp pa_nil hs) hs, fun M q os ev σ H ds hm rl R k => ?_⟩
  unfold irg1 at hm
  split at hm
  · next b h1 =>
    split at hm
    · next hc =>
      cases hm
      refine h M q os ev σ H _ h1 rl _ fun v H1 x1 r1 => ?_
      rw [rep_int.1 r1]
      refine ⟨b, rfl, (rgB_ok hc).2.2.1, (rgB_ok hc).2.2.2, k _ H1 x1 ?_⟩
      have := walk_rg (cl := cl) (K := X.K) (W := vw w os M) (H := H1) 0 b
      rw [Int.sub_zero] at this
      exact this
    · cases hm
  · cases hm
theorem ei_rg2 {p : Pos} (hg : Gl X "range") (hm : X.mg "range" = none) (ha : EV false X cl a ma) (hb : EV false X cl b mb) (hs : starEach [a, b] X.env = [(false, eval a X.env), (false, eval b X.env)] := by rfl) (hs2 : starEach [b] X.env = [(false, eval b X.env)] := by rfl) : EI w X cl tg (.Call (.Name "range" p) [a, b] [] pos) (irg2 ma mb) := by
  obtain ⟨te, hp, h⟩ := ha
  obtain ⟨tf, gp, g⟩ := hb
  refine ⟨_, pi_range2 hg hm (pa_cons hp (pa_cons gp pa_nil hs2) (by rw [hs, hs2])) hs hs2, fun M q os ev σ H ds hm rl R k => ?_⟩
  unfold irg2 at hm
  split at hm
  · next a' b' h1 h2 =>
    split at hm
    · next hc =>
      cases hm
      refine h M q os ev σ H _ h1 rl _ fun v H1 x1 r1 => g M q os ev σ H1 _ h2 (rl.ex x1) _ fun u H2 x2 r2 => ?_
      rw [rep_int.1 r1, rep_int.1 r2]
      exact ⟨a', b', rfl, rgB_ok hc, k _ H2 (x1.trans x2) (walk_rg a' b')⟩
    · cases hm
  · cases hm
/-- enumerate of a list -/
def enumD (n : Nat) : List D → List D
  | [] => []
  | d :: ds => .tup [.int n, d] :: enumD (n + 1) ds
theorem enumD_len : ∀ (n : Nat) (ds : List D), (enumD n ds).length = ds.length
  | _, [] => rfl
  | n, d :: ds => by simp [enumD, enumD_len (n + 1) ds]
theorem enumD_get : ∀ {n : Nat} {ds : List D} {i : Nat} {d : D}, (enumD n ds)[i]? = some d → ∃ x, ds[i]? = some x ∧ d = .tup [.int ((n + i : Nat) : Int), x]
  | _, [], i, d, h => by simp [enumD] at h
  | n, x :: ds, 0, d, h => by simp [enumD] at h; exact ⟨x, rfl, h.symm⟩
  | n, x :: ds, i + 1, d, h => by
    obtain ⟨y, h1, h2⟩ := enumD_get (n := n + 1) (ds := ds) (i := i) (d := d) (by simpa [enumD] using h)
    exact ⟨y, by simpa using h1, by rw [h2, Nat.add_right_comm]; rfl⟩
def ienum (ma : Env' → Option D) : Env' → Option (List D) := fun ev => match ma ev with
  | some (.lst xs) => some (enumD 0 xs)
  | _ => none
theorem pair_new {K : Fg} {W : List Addr} {H2 : Hp} {T : Addr} {x y : L2.V} {d e : D} (t : Tk W H2) (hn : H2 T = none) (hx : Rep K cl (hid W H2) x d) (hy : Rep K cl (hid W H2) y e) : Ex H2 (upd H2 T (.tup [x, y])) ∧ Rep K cl (hid W (upd H2 T (.tup [x, y]))) (.ref T) (.tup [d, e]) :=
  new_tup hn t (Reps.cons hx (Reps.cons hy Reps.nil))
theorem ei_enum {elts : List Expr} {kk : Nat} {p tpos : Pos} (hg : Gl X "enumerate") (hm : X.mg "enumerate" = none) (ha : EV w X cl e m) (hs : starEach [e] X.env = [(false, eval e X.env)] := by rfl) : EI w X cl (.Tuple elts kk tpos) (.Call (.Name "enumerate" p) [e] [] pos) (ienum m) := by
  obtain ⟨te, hp, h⟩ := ha
  refine ⟨_, pi_enum hg hm (pa_cons hp pa_nil hs) hs, fun M q os ev σ H ds hm rl R k => ?_⟩
  unfold ienum at hm
  split at hm
  · next xs h1 =>
    cases hm
    refine h M q os ev σ H _ h1 rl _ fun v H1 x1 r1 => ?_
    obtain ⟨a, vs, rfl, g1, g2⟩ := rep_list.1 r1
    refine ⟨a, vs, rfl, .of (hid_some g1).2, k _ H1 x1 fun W' H2 x2 t2 => ?_⟩
    have h2 : SqL X.K H2 a vs := .of (hid_some (x2 _ _ g1)).2
    have WK := walk_enum (K := X.K) (a := a) (xs := vs)
    refine ⟨fun i d hd => ?_, by rw [enumD_len, ← g2.length]; exact WK.stops H2 h2⟩
    obtain ⟨x, e1, rfl⟩ := enumD_get hd
    obtain ⟨u, e2, e3⟩ := g2.get e1
    have hi : i < vs.length := (List.getElem?_eq_some_iff.1 e2).1
    refine ⟨WK.goes i H2 hi h2, fun y H3 hy => ?_⟩
    obtain ⟨T, y1, y2, rfl, hT, rfl, hy1, hy2⟩ := WK.yields i H2 y H3 hi h2 hy
    have hy2' := e2.symm.trans hy2
    cases hy2'
    have hy1' := Option.some.inj hy1
    subst hy1'
    rw [Nat.zero_add]
    exact pair_new t2 hT (rep_int.2 rfl) (e3.mono x2)
  · cases hm
/-- zip of two lists -/
def zipD : List D → List D → List D
  | d :: ds, e :: es => .tup [d, e] :: zipD ds es
  | _, _ => []
theorem zipD_len : ∀ (ds es : List D), (zipD ds es).length = min ds.length es.length
  | [], _ => by simp [zipD]
  | _ :: _, [] => by simp [zipD]
  | d :: ds, e :: es => by simp [zipD, zipD_len ds es]
theorem zipD_get : ∀ {ds es : List D} {i : Nat} {d : D}, (zipD ds es)[i]? = some d → ∃ x y, ds[i]? = some x ∧ es[i]? = some y ∧ d = .tup [x, y]
  | [], _, i, d, h => by simp [zipD] at h
  | _ :: _, [], i, d, h => by simp [zipD] at h
  | x :: ds, y :: es, 0, d, h => by simp [zipD] at h; exact ⟨x, y, rfl, rfl, h.symm⟩
  | x :: ds, y :: es, i + 1, d, h => by
    obtain ⟨x', y', h1, h2, h3⟩ := zipD_get (ds := ds) (es := es) (i := i) (d := d) (by simpa [zipD] using h)
    exact ⟨x', y', by simpa using h1, by simpa using h2, h3⟩
def izip (ma mb : Env' → Option D) : Env' → Option (List D) := fun ev => match ma ev, mb ev with
  | some (.lst xs), some (.lst ys) => some (zipD xs ys)
  | _, _ => none
theorem ei_zip {elts : List Expr} {kk : Nat} {p tpos : Pos} (hg : Gl X "zip") (hm : X.mg "zip" = none) (ha : EV w X cl a ma) (hb : EV w X cl b mb) (hs : starEach [a, b] X.env = [(false, eval a X.env), (false, eval b X.env)] := by rfl) (hs2 : starEach [b] X.env = [(false, eval b X.env)] := by rfl) : EI w X cl (.Tuple elts kk tpos) (.Call (.Name "zip" p) [a, b] [] pos) (izip ma mb) := by
  obtain ⟨te, hp, h⟩ := ha
  obtain ⟨tf, gp, g⟩ := hb
  refine ⟨_, pi_zip hg hm (pa_cons hp (pa_cons gp pa_nil hs2) (by rw [hs, hs2])) (by rw [hs, hs2]) (by rw [hs2]; rfl), fun M q os ev σ H ds hm rl R k => ?_⟩
  unfold izip at hm
  split at hm
  · next xs ys h1 h2 =>
    cases hm
    refine h M q os ev σ H _ h1 rl _ fun v H1 x1 r1 => g M q os ev σ H1 _ h2 (rl.ex x1) _ fun u H2 x2 r2 => ?_
    obtain ⟨a, vs, rfl, g1, g2⟩ := rep_list.1 (r1.mono (ex_hid x2))
    obtain ⟨b, us, rfl, f1, f2⟩ := rep_list.1 r2
    refine ⟨a, b, vs, us, rfl, .of (hid_some g1).2, .of (hid_some f1).2, k _ H2 (x1.trans x2) fun W' H3 x3 t3 => ?_⟩
    have s1 : SqL X.K H3 a vs := .of (hid_some (x3 _ _ g1)).2
    have s2 : SqL X.K H3 b us := .of (hid_some (x3 _ _ f1)).2
    have WK := walk_zip (K := X.K) (a := a) (b := b) (xs := vs) (ys := us) rfl
    refine ⟨fun i d hd => ?_, by rw [zipD_len, ← g2.length, ← f2.length]; exact WK.stops H3 ⟨s1, s2⟩⟩
    obtain ⟨x, y, e1, e2, rfl⟩ := zipD_get hd
    obtain ⟨x', e3, e4⟩ := g2.get e1
    obtain ⟨y', e5, e6⟩ := f2.get e2
    have hi : i < min vs.length us.length := by
      have := (List.getElem?_eq_some_iff.1 e3).1
      have := (List.getElem?_eq_some_iff.1 e5).1
      omega
    refine ⟨WK.goes i H3 hi ⟨s1, s2⟩, fun z H4 hz => ?_⟩
    obtain ⟨T, z1, z2, rfl, hT, rfl, hz1, hz2⟩ := WK.yields i H3 z H4 hi ⟨s1, s2⟩ hz
    have hz1' := e3.symm.trans hz1
    have hz2' := e5.symm.trans hz2
    cases hz1'
    cases hz2'
    exact pair_new t3 hT (e4.mono x3) (e6.mono x3)
  · cases hm
/-- reversed(list) -/
def irev (ma : Env' → Option D) : Env' → Option (List D) := fun ev => match ma ev with
  | some (.lst xs) => some xs.reverse
  | _ => none
theorem ei_rev {p : Pos} (hg : Gl X "reversed") (hm : X.mg "reversed" = none) (ha : EV w X cl e m) (hs : starEach [e] X.env = [(false, eval e X.env)] := by rfl) : EI w X cl tg (.Call (.Name "reversed" p) [e] [] pos) (irev m) := by
  obtain ⟨te, hp, h⟩ := ha
  refine ⟨_, pi_reversed hg hm (pa_cons hp pa_nil hs) hs, fun M q os ev σ H ds hm rl R k => ?_⟩
  unfold irev at hm
  split at hm
  · next xs h1 =>
    cases hm
    refine h M q os ev σ H _ h1 rl _ fun v H1 x1 r1 => ?_
    obtain ⟨a, vs, rfl, g1, g2⟩ := rep_list.1 r1
    refine ⟨a, vs, rfl, .of (hid_some g1).2, k _ H1 x1 fun W' H2 x2 t2 => ?_⟩
    have h2 : SqL X.K H2 a vs := .of (hid_some (x2 _ _ g1)).2
    have WK := walk_rev (K := X.K) (a := a) (xs := vs)
    refine ⟨fun i d hd => ?_, by rw [List.length_reverse, ← g2.length]; exact WK.stops H2 h2⟩
    have hl := g2.length
    have hi : i < xs.length := by
      have := (List.getElem?_eq_some_iff.1 hd).1
      simpa using this
    rw [List.getElem?_reverse hi] at hd
    obtain ⟨u, e2, e3⟩ := g2.get hd
    refine ⟨WK.goes i H2 (by omega) h2, fun y H3 hy => ?_⟩
    obtain ⟨rfl, hy2⟩ := WK.yields i H2 y H3 (by omega) h2 hy
    rw [hl, e2] at hy2
    cases hy2
    exact ⟨Ex0, e3.mono x2⟩
  · cases hm
end
end Lay

namespace Lay
open PySem PySem.Spec PyProof.Rows L2
open Evl (Ex)
/-! ### comprehensions -/
def lcGo (ev : Env') (t : Tgt) (mt : Env' → Option Bool) (me : Env' → Option D) : List D → Option (List D)
  | [] => some []
  | d :: r => do
    let ev' ← t.put d ev
    let b ← mt ev'
    if b = true then do
      let y ← me ev'
      let ys ← lcGo ev t mt me r
      some (y :: ys)
    else lcGo ev t mt me r
/-- the block's own names forgotten -/
def lcM (fl : Bool) (t : Tgt) (own : List Nat) (mi : Env' → Option (List D)) (mt : Env' → Option Bool) (me : Env' → Option D) : Env' → Option (List D) := fun ev => do
  let ds ← mi ev
  if ds.length ≤ 1000000 ∧ plainAll ev own = true ∧ (fl = true → ds.all D.flat = true) then lcGo (wipeE ev own) t mt me ds else none
def tyes : Env' → Option Bool := fun _ => some true
section
variable {K : Fg} {cl : Str → Addr} {q : Option Addr} {os M : List Addr} {H H' : Hp} {σ : L2.St} {e : List Slot}
theorem plainAt_emp {e : List Slot} {i j : Nat} (h : plainAt e j = true) : plainAt (e.set i .emp) j = true := by
  unfold plainAt at h ⊢
  by_cases hij : i = j
  · subst hij
    cases he : e[i]? with
    | none => rw [he] at h; cases h
    | some x =>
      have : i < e.length := (List.getElem?_eq_some_iff.1 he).1
      rw [List.getElem?_set_self this]
  · rw [List.getElem?_set_ne hij]
    exact h
theorem plainAt_wipeE {e : List Slot} {j : Nat} (h : plainAt e j = true) : ∀ (is : List Nat), plainAt (wipeE e is) j = true
  | [] => h
  | i :: is => plainAt_emp (plainAt_wipeE h is)
theorem Rl.wipe (r : Rl K cl M q os e σ H) : ∀ {is : List Nat}, plainAll e is = true → Rl K cl M q os (wipeE e is) (L2.wipe σ is) H
  | [], _ => r
  | i :: is, h => by
    have h' : plainAt e i = true ∧ plainAll e is = true := by
      unfold plainAll at h ⊢
      rw [List.all_cons, Bool.and_eq_true] at h
      exact h
    exact (Rl.wipe r h'.2).emp_plain (plainAt_wipeE h'.1 is)
theorem hid_upd {p : Addr} {o : HO} (h : p ∈ M) : hid M (upd H p o) = hid M H := by
  funext a
  unfold hid
  split
  · rfl
  · next ha => rw [upd_ne fun z => ha (by rw [z]; exact h)]
/-- one more thing is hidden -/
theorem Rl.hide {p : Addr} (r : Rl K cl M q os e σ H) (x : Ex H H') (hn : H p = none) (hp : H' p ≠ none) : Rl K cl (p :: M) q os e σ H' := by
  refine ⟨r.sr.mono (ex_sub (fun a o h _ => x a o h) fun a ha => ?_) fun a o _ h => x a o h, r.nd, fun y hy => ?_, fun a ha => ?_, fun a ha => List.mem_cons_of_mem _ (r.qm a ha)⟩
  · rcases List.mem_append.1 ha with h | h
    · exact .inl (List.mem_append_left _ h)
    · rcases List.mem_cons.1 h with rfl | h
      · exact .inr hn
      · exact .inl (List.mem_append_right _ h)
  · intro z
    rcases List.mem_cons.1 z with rfl | z
    · exact r.tr y (List.mem_append_left _ hy) hn
    · exact r.dj y hy z
  · rcases List.mem_append.1 ha with h | h
    · exact (r.ex x).tr a (List.mem_append_left _ h)
    · rcases List.mem_cons.1 h with rfl | h
      · exact hp
      · exact (r.ex x).tr a (List.mem_append_right _ h)
theorem vw_cons {w : Bool} {p : Addr} : ∀ a, a ∈ p :: vw w os M ↔ a ∈ vw w os (p :: M) := by
  intro a
  cases w with
  | true =>
    show a ∈ p :: (os ++ M) ↔ a ∈ os ++ p :: M
    simp only [List.mem_cons, List.mem_append]
    constructor
    · rintro (h | h | h)
      · exact .inr (.inl h)
      · exact .inl h
      · exact .inr (.inr h)
    · rintro (h | h | h)
      · exact .inr (.inl h)
      · exact .inl h
      · exact .inr (.inr h)
  | false => exact Iff.rfl
end
section
variable {w : Bool} {X : Cx} {cl : Str → Addr} {elt tg iter : Expr} {ifs : List Expr} {scope : Scope} {pos : Pos} {mi : Env' → Option (List D)} {mt : Env' → Option Bool} {me : Env' → Option D} {t : Tgt} {own : List (Str × Nat)}
/-- the tests of a comprehension -/
abbrev ETs (X : Cx) (cl : Str → Addr) (ifs : List Expr) (m : Env' → Option Bool) : Prop := PTs X ifs (ct X.K cl m)
theorem ets_nil : ETs X cl [] tyes := ⟨fun pins s σ H Q I ⟨M, q, os, ev, d, h1, h2, h3⟩ => by
  cases h1
  exact wpAny_tests_nil ⟨H, I, h3 H Ex0⟩⟩
theorem ets_one {c : Expr} (h : ET X cl c mt) : ETs X cl [c] mt := pts_one h.pt
theorem lc_read {wi : TI} {K : Fg} {v fl : Bool} (hv : v = true ∨ fl = true)
    (hi : ∀ M q os ev σ H ds, mi ev = some ds → Rl K cl M q os ev σ H → ∀ R : It → Hp → Prop, (∀ J H', Ex H H' → WalkD K cl (vw v os M) J ds H' → R J H') → wi σ H R)
    (hsub : ∀ i ∈ t.slots, i ∈ own.map (·.2)) :
    ∀ M q os ev σ H d, lcM fl t (own.map (·.2)) mi mt me ev = some d → Rl K cl M q os ev σ H → ∀ Q : VK, (∀ p H' vs, H p = none → Ex H H' → H' p = some (.lst vs) → Reps K cl (hid (p :: vw w os M) H') vs d → Q (.ref p) H') →
      tLc wi (tgR K t) (ct K cl mt) (cv w K cl me) (own.map (·.2)) σ H Q := by
  intro M q os ev σ H d hm rl Q k
  obtain ⟨ds, h1, hm⟩ := bind_some' hm
  split at hm
  · next hc =>
    refine hi M q os ev σ H ds h1 rl _ fun J H1 x1 wk Dl hD => ?_
    refine ⟨fun i m H' => m = ds.length - i ∧ i ≤ ds.length ∧ Ex H1 H' ∧ ∃ vs acc rest, H' Dl = some (.lst vs) ∧ Reps K cl (hid (Dl :: vw w os M) H') vs acc ∧ acc.length ≤ i ∧ lcGo (wipeE ev (own.map (·.2))) t mt me (ds.drop i) = some rest ∧ d = acc ++ rest,
      ⟨ds.length, by simp, Nat.zero_le _, Evl.Ex.new hD, [], [], d, upd_same, Reps.nil, Nat.le_refl _, by simpa using hm, rfl⟩, fun i m H2 ⟨em, hi, x2, vs, acc, rest, g1, g2, g3, g4, g5⟩ => ?_⟩
    have rl2 : Rl K cl (Dl :: M) q os ev σ H2 := (rl.ex x1).hide x2 hD (by rw [g1]; simp)
    have xv : Ex (hid (vw v os M) H1) (hid (vw v os (Dl :: M)) H2) := ex_sub (fun a o h _ => x2 a o h) fun a ha => by
      rcases List.mem_cons.1 ((vw_cons a).2 ha) with rfl | ha
      · exact .inr hD
      · exact .inl ha
    obtain ⟨wk1, wk2⟩ := wk _ H2 xv (rl2.tk v)
    by_cases hlt : i < ds.length
    · refine .inr ⟨(wk1 i ds[i] (by simp [hlt])).1, fun H' => Ex H1 H' ∧ ∃ vs acc rest, H' Dl = some (.lst vs) ∧ Reps K cl (hid (Dl :: vw w os M) H') vs acc ∧ acc.length ≤ i + 1 ∧ lcGo (wipeE ev (own.map (·.2))) t mt me (ds.drop (i + 1)) = some rest ∧ d = acc ++ rest,
        fun H' ⟨y1, y2⟩ => ⟨ds.length - (i + 1), by omega, rfl, hlt, y1, y2⟩, fun x H3 hy => ?_⟩
      obtain ⟨x3, r3⟩ := (wk1 i ds[i] (by simp [hlt])).2 x H3 hy
      have rl3 : Rl K cl (Dl :: M) q os (wipeE ev (own.map (·.2))) (L2.wipe σ (own.map (·.2))) H3 := (rl2.ex x3).wipe hc.2.1
      rw [List.drop_eq_getElem_cons hlt] at g4
      unfold lcGo at g4
      obtain ⟨ev', e1, g4⟩ := bind_some' g4
      obtain ⟨b, e2, g4⟩ := bind_some' g4
      have r4 : Rep K cl (hid (os ++ Dl :: M) H3) x ds[i] := by
        rcases hv with rfl | rfl
        · exact r3
        · exact r3.flat (List.all_eq_true.1 (hc.2.2 rfl) _ (List.getElem_mem hlt))
      refine tg_ok e1 rl3 r4 fun σ' rl4 hw => ?_
      refine ⟨by rw [hw _ hsub, wipe_wipe _ _ fun _ h => h], Dl :: M, q, os, ev', b, e2, rl4, fun H4 x4 => ?_⟩
      have keep : ∀ H5, Ex H3 H5 → H5 Dl = some (.lst vs) ∧ Reps K cl (hid (Dl :: vw w os M) H5) vs acc := fun H5 x5 => ⟨x5 _ _ (x3 _ _ g1), g2.mono (ex_hid (x3.trans x5))⟩
      cases b with
      | true =>
        rw [if_pos rfl] at g4
        obtain ⟨y, e3, g4⟩ := bind_some' g4
        obtain ⟨ys, e4, g4⟩ := bind_some' g4
        have g4' := Option.some.inj g4
        subst g4'
        refine iteT ⟨Dl :: M, q, os, ev', y, e3, rl4.ex x4, fun u H5 x5 r5 => ?_⟩
        obtain ⟨k1, k2⟩ := keep H5 (x4.trans x5)
        refine ⟨vs, k1, by rw [k2.length, sizeLine_eq]; omega, Evl.Ex.mut (x2.trans (x3.trans (x4.trans x5))) hD, vs ++ [u], acc ++ [y], ys, upd_same, ?_, by rw [List.length_append]; simp; omega, e4, by rw [g5, List.append_assoc]; rfl⟩
        rw [hid_upd List.mem_cons_self]
        exact k2.append (Reps.cons (r5.mono (ex_le fun a ha => vw_cons a |>.1 ha)) Reps.nil)
      | false =>
        rw [if_neg Bool.false_ne_true] at g4
        obtain ⟨k1, k2⟩ := keep H4 x4
        exact iteF ⟨x2.trans (x3.trans x4), vs, acc, rest, k1, k2, by omega, g4, g5⟩
    · have e : i = ds.length := by omega
      subst e
      rw [List.drop_length] at g4
      cases g4
      rw [List.append_nil] at g5
      subst g5
      exact .inl ⟨wk2, k Dl H2 vs (Evl.fresh_back x1 hD) (x1.trans x2) g1 g2⟩
  · cases hm
theorem eo_lc {v fl : Bool} (hv : v = true ∨ fl = true) (hc : X.calm = true) (hN : X.N.Nodup) (hi : EI v X cl tg iter mi) (ok : BlkOk X.N X.env.scope scope own) (hsub : ∀ i ∈ t.slots, i ∈ own.map (·.2))
    (hg : ∀ (s : Shared) (H : Hp) (C : Addr) (c : List (Str × Addr)) (fp : List Addr), PGT (X.blk s H scope (compEnvC scope c C X.env) fp) tg t) (ht : ∀ (s : Shared) (H : Hp) (C : Addr) (c : List (Str × Addr)) (fp : List Addr), ETs (X.blk s H scope (compEnvC scope c C X.env) fp) cl ifs mt)
    (he : ∀ (s : Shared) (H : Hp) (C : Addr) (c : List (Str × Addr)) (fp : List Addr), EV w (X.blk s H scope (compEnvC scope c C X.env) fp) cl elt me) (hs : ∀ x, foldedSetIterable iter X.env x = pure x := by intro _; rfl) :
    EO w X cl (.ListComp elt [⟨tg, iter, ifs, 0⟩] scope pos) (lcM fl t (own.map (·.2)) mi mt me) := by
  obtain ⟨wi, hp, h⟩ := hi
  exact ⟨_, pe_lc hc hN hp ok hg ht (fun s H C c fp => (he s H C c fp).pe) hs, lc_read hv h hsub⟩
end
/-! ### calls of own defs -/
/-- a def: what it answers, as a function of data -/
def spP (K : Fg) (cl : Str → Addr) (m : List D → Option D) : Sp := fun vs H Q _ => ∃ M ds d, m ds = some d ∧ Tk M H ∧ Reps K cl (hid M H) vs ds ∧ ∀ v H', Ex H H' → Rep K cl (hid M H') v d → Q v H'
def spO (K : Fg) (cl : Str → Addr) (m : List D → Option (List D)) : Sp := fun vs H Q _ => ∃ M ds d, m ds = some d ∧ Tk M H ∧ Reps K cl (hid M H) vs ds ∧ ∀ p H' us, H p = none → Ex H H' → H' p = some (.lst us) → Reps K cl (hid (p :: M) H') us d → Q (.ref p) H'
/-- .. that changes the list that it is handed first -/
def spF (K : Fg) (cl : Str → Addr) (m : List D → List D → Option (D × List D)) : Sp := fun vs H Q _ => ∃ M q g gv ds us d g', vs = .ref q :: us ∧ m g ds = some (d, g') ∧ q ∈ M ∧ Tk M H ∧ H q = some (.lst gv) ∧ Reps K cl (hid M H) gv g ∧ Reps K cl (hid M H) us ds ∧
  ∀ v H' gv', (∀ a o, H a = some o → a ≠ q → H' a = some o) → H' q = some (.lst gv') → Reps K cl (hid M H') gv' g' → Rep K cl (hid M H') v d → Q v H'
structure FnG (P : Program) (w : World) (K : Fg) (mg : Str → Option Value) (base : Heap) (x : Str) (k : Nat) (ps : List Str) (sp : Sp) : Prop where
  ok : ∃ f fd, FnOk P w K mg base CX0 k f fd ps sp ∧ mg x = some (.ref f) ∧ PySem.W.keepIn K (.ref f) = true ∧ Binds K fd ps []
section
variable {w : Bool} {X : Cx} {cl : Str → Addr} {e : Expr} {es : List Expr} {x : Str} {p pos : Pos} {k : Nat} {ps : List Str} {ma : Env' → Option (List D)}
theorem ev_call {m : List D → Option D} (F : FnG X.prog X.w X.K X.mg X.base x k ps (spP X.K cl m)) (hr : Room k X.A) (hg : Gl X x) (ha : EA w X cl (e :: es) ma) (hdb : (x == ("__debug__" : Str)) = false)
    (he : starEach (e :: es) X.env = (false, eval e X.env) :: starEach es X.env := by rfl) (hpl : (backTo pos (starEach es X.env)).any (·.1) = false := by rfl) : EV w X cl (.Call (.Name x p) (e :: es) [] pos) (mL m ma) := by
  obtain ⟨f, fd, F, hm, hk, hb⟩ := F.ok
  obtain ⟨ta, pa, ha⟩ := ha
  refine ⟨_, pe_call F hr hg hm hk hb .nil pass0 pa hdb he hpl, fun M q os ev σ H d hm rl Q k => ?_⟩
  obtain ⟨ds, h1, hm⟩ := bind_some' hm
  refine ha M q os ev σ H ds h1 rl _ fun vs H1 x1 r1 => ?_
  rw [List.append_nil]
  exact ⟨_, ds, d, hm, (rl.ex x1).tk w, r1, fun v H2 x2 r2 => k v H2 (x1.trans x2) r2⟩
theorem eo_call {m : List D → Option (List D)} (F : FnG X.prog X.w X.K X.mg X.base x k ps (spO X.K cl m)) (hr : Room k X.A) (hg : Gl X x) (ha : EA w X cl (e :: es) ma) (hdb : (x == ("__debug__" : Str)) = false)
    (he : starEach (e :: es) X.env = (false, eval e X.env) :: starEach es X.env := by rfl) (hpl : (backTo pos (starEach es X.env)).any (·.1) = false := by rfl) : EO w X cl (.Call (.Name x p) (e :: es) [] pos) (mLo m ma) := by
  obtain ⟨f, fd, F, hm, hk, hb⟩ := F.ok
  obtain ⟨ta, pa, ha⟩ := ha
  refine ⟨_, pe_call F hr hg hm hk hb .nil pass0 pa hdb he hpl, fun M q os ev σ H d hm rl Q k => ?_⟩
  obtain ⟨ds, h1, hm⟩ := bind_some' hm
  refine ha M q os ev σ H ds h1 rl _ fun vs H1 x1 r1 => ?_
  rw [List.append_nil]
  exact ⟨_, ds, d, hm, (rl.ex x1).tk w, r1, fun p H2 us hn x2 h2 r2 => k p H2 us (Evl.fresh_back x1 hn) (x1.trans x2) h2 r2⟩
/-- .. handed a list that is made for it -/
def mF (m : List D → List D → Option (D × List D)) (mg : Env' → Option (List D)) (ma : Env' → Option (List D)) : Env' → Option D := fun ev => do
  let g ← mg ev
  let ds ← ma ev
  let r ← m g ds
  some r.1
theorem ev_callNew {m : List D → List D → Option (D × List D)} {mg : Env' → Option (List D)} (F : FnG X.prog X.w X.K X.mg X.base x k ps (spF X.K cl m)) (hr : Room k X.A) (hg : Gl X x) (h0 : EO w X cl e mg) (ha : EA w X cl es ma) (hdb : (x == ("__debug__" : Str)) = false)
    (he : starEach (e :: es) X.env = (false, eval e X.env) :: starEach es X.env := by rfl) (hpl : (backTo pos (starEach es X.env)).any (·.1) = false := by rfl) : EV w X cl (.Call (.Name x p) (e :: es) [] pos) (mF m mg ma) := by
  obtain ⟨f, fd, F, hm, hk, hb⟩ := F.ok
  obtain ⟨t0, p0, h0⟩ := h0
  obtain ⟨ta, pa, ha⟩ := ha
  refine ⟨_, pe_call F hr hg hm hk hb .nil pass0 (pa_cons p0 pa he) hdb he hpl, fun M q os ev σ H d hm rl Q k => ?_⟩
  obtain ⟨g, h1, hm⟩ := bind_some' hm
  obtain ⟨ds, h2, hm⟩ := bind_some' hm
  obtain ⟨⟨d', g'⟩, h3, hm⟩ := bind_some' hm
  have hq := Option.some.inj hm
  subst hq
  refine h0 M q os ev σ H g h1 rl _ fun y H1 gv hn x1 g1 g2 => ?_
  have rl1 : Rl X.K cl (y :: M) q os ev σ H1 := rl.hide x1 hn (by rw [g1]; simp)
  refine ha (y :: M) q os ev σ H1 ds h2 rl1 _ fun us H2 x2 r2 => ?_
  show spF X.K cl m ((V.ref y :: us) ++ []) H2 Q E0
  rw [List.append_nil]
  refine ⟨vw w os (y :: M), y, g, gv, ds, us, d', g', rfl, h3, vw_sub' w y List.mem_cons_self, (rl1.ex x2).tk w, x2 _ _ g1, (g2.mono (ex_le fun a ha => vw_cons a |>.2 ha)).mono (ex_hid x2), r2, fun v H3 gv' k1 k2 k3 k4 => ?_⟩
  refine k v H3 (fun a o ho => k1 a o (x2 _ _ (x1 _ _ ho)) fun z => by rw [z, hn] at ho; cases ho) (k4.mono (ex_le fun a ha => vw_cons a |>.1 (List.mem_cons_of_mem _ ha)))
/-! methods of objects that stand still -/
structure MethG (P : Program) (w : World) (K : Fg) (mg : Str → Option Value) (base : Heap) (C : Addr) (x : Str) (k : Nat) (ps : List Str) (sp : Sp) : Prop where
  cls : Cls K C
  ok : ∃ f fd, FnOk P w K mg base CX0 k f fd ps sp ∧ Meth K C x f ∧ Binds K fd ps []
def D.isObj (c x : Str) : D → Bool
  | .obj c' ns _ => decide (c' = c) && !(ns.contains x)
  | _ => false
theorem zip_lookup_none {α : Type} {x : Str} : ∀ {ns : List Str} {vs : List α}, ns.contains x = false → (ns.zip vs).lookup x = none
  | [], _, _ => rfl
  | _ :: _, [], _ => rfl
  | n :: ns, v :: vs, h => by
    rw [List.contains_cons, Bool.or_eq_false_iff] at h
    rw [List.zip_cons_cons, List.lookup_cons, h.1]
    exact zip_lookup_none h.2
def mM (c x : Str) (m : List D → Option D) (mo : Env' → Option D) (ma : Env' → Option (List D)) : Env' → Option D := fun ev => do
  let o ← mo ev
  if o.isObj c x = true then do
    let ds ← ma ev
    m (o :: ds)
  else none
def mMo (c x : Str) (m : List D → Option (List D)) (mo : Env' → Option D) (ma : Env' → Option (List D)) : Env' → Option (List D) := fun ev => do
  let o ← mo ev
  if o.isObj c x = true then do
    let ds ← ma ev
    m (o :: ds)
  else none
theorem isObj_rep {K : Fg} {H : Hp} {M : List Addr} {c : Str} {v : L2.V} {o : D} (h : o.isObj c x = true) (r : Rep K cl (hid M H) v o) : ∃ a dx fs, v = .ref a ∧ H a = some (.ins (cl c) dx fs) ∧ fs.lookup x = none := by
  cases o with
  | obj c' ns ds =>
    unfold D.isObj at h
    rw [Bool.and_eq_true] at h
    have hc : c' = c := of_decide_eq_true h.1
    subst hc
    unfold Rep at r
    obtain ⟨a, dx, vs, rfl, ha, hl, _⟩ := r
    exact ⟨a, dx, _, rfl, (hid_some ha).2, zip_lookup_none (by simpa using h.2)⟩
  | _ => cases h
theorem ev_meth0 {o : Expr} {apos : Pos} {pl : Sem Bool} {c : Str} {m : List D → Option D} {mo : Env' → Option D} (F : MethG X.prog X.w X.K X.mg X.base (cl c) x k ps (spP X.K cl m)) (hr : Room k X.A) (ho : EV w X cl o mo)
    (ht : eval (.Call (.Attribute o x apos) [] [] pos) X.env = (do
      let ov ← eval o X.env
      standAt apos.atName
      let (f, first) ← holding [ov] (getMethod ov x pl)
      callWith pos f first (backTo pos (starEach [] X.env)) (backToKw pos (keywordEach [] X.env))) := by rfl) : EV w X cl (.Call (.Attribute o x apos) [] [] pos) (mM c x m mo fun _ => some []) := by
  obtain ⟨hc, f, fd, F, hm, hb⟩ := F
  obtain ⟨t0, p0, h0⟩ := ho
  refine ⟨_, pe_meth0 p0 hc hm F hr hb .nil pass0 ht, fun M q os ev σ H d hm rl Q k => ?_⟩
  obtain ⟨ob, h1, hm⟩ := bind_some' hm
  split at hm
  · next hi =>
    refine h0 M q os ev σ H ob h1 rl _ fun v H1 x1 r1 => ?_
    obtain ⟨a, dx, fs, rfl, e1, e2⟩ := isObj_rep hi r1
    refine ⟨a, dx, fs, rfl, e1, e2, ?_⟩
    exact ⟨_, [ob], d, hm, (rl.ex x1).tk w, Reps.cons r1 Reps.nil, fun v H2 x2 r2 => k v H2 (x1.trans x2) r2⟩
  · cases hm
theorem eo_meth0 {o : Expr} {apos : Pos} {pl : Sem Bool} {c : Str} {m : List D → Option (List D)} {mo : Env' → Option D} (F : MethG X.prog X.w X.K X.mg X.base (cl c) x k ps (spO X.K cl m)) (hr : Room k X.A) (ho : EV w X cl o mo)
    (ht : eval (.Call (.Attribute o x apos) [] [] pos) X.env = (do
      let ov ← eval o X.env
      standAt apos.atName
      let (f, first) ← holding [ov] (getMethod ov x pl)
      callWith pos f first (backTo pos (starEach [] X.env)) (backToKw pos (keywordEach [] X.env))) := by rfl) : EO w X cl (.Call (.Attribute o x apos) [] [] pos) (mMo c x m mo fun _ => some []) := by
  obtain ⟨hc, f, fd, F, hm, hb⟩ := F
  obtain ⟨t0, p0, h0⟩ := ho
  refine ⟨_, pe_meth0 p0 hc hm F hr hb .nil pass0 ht, fun M q os ev σ H d hm rl Q k => ?_⟩
  obtain ⟨ob, h1, hm⟩ := bind_some' hm
  split at hm
  · next hi =>
    refine h0 M q os ev σ H ob h1 rl _ fun v H1 x1 r1 => ?_
    obtain ⟨a, dx, fs, rfl, e1, e2⟩ := isObj_rep hi r1
    refine ⟨a, dx, fs, rfl, e1, e2, ?_⟩
    exact ⟨_, [ob], d, hm, (rl.ex x1).tk w, Reps.cons r1 Reps.nil, fun p H2 us hn x2 h2 r2 => k p H2 us (Evl.fresh_back x1 hn) (x1.trans x2) h2 r2⟩
  · cases hm
/-- o.f of an object that stands still -/
def D.fld (c f : Str) : D → Option D
  | .obj c' ns ds => if c' = c ∧ ns.length = ds.length then (ns.zip ds).lookup f else none
  | _ => none
theorem zip_lookup {K : Fg} {H : Hp} {f : Str} {d : D} : ∀ {ns : List Str} {vs : List L2.V} {ds : List D}, Reps K cl H vs ds → (ns.zip ds).lookup f = some d → ∃ v, (ns.zip vs).lookup f = some v ∧ Rep K cl H v d
  | [], _, _, _, h => by simp at h
  | n :: ns, vs, [], r, h => by simp at h
  | n :: ns, vs, e :: ds, r, h => by
    obtain ⟨v, us, rfl, h1, h2⟩ := Reps.cons_iff.1 r
    rw [List.zip_cons_cons, List.lookup_cons] at h ⊢
    cases hb : f == n with
    | true =>
      rw [hb] at h
      cases h
      exact ⟨v, rfl, h1⟩
    | false =>
      rw [hb] at h
      exact zip_lookup h2 h
theorem ev_fld {o : Expr} {c f : Str} {mo : Env' → Option D} (hc : Cls X.K (cl c)) (hn : NoAttr X.K (cl c) f) (ho : EV w X cl o mo) (hb : attributeBase o f X.env (eval o X.env) = eval o X.env := by rfl) : EV w X cl (.Attribute o f pos) (m1 (D.fld c f) mo) := by
  obtain ⟨t0, p0, h0⟩ := ho
  refine ⟨_, pe_fld p0 hb, fun M q os ev σ H d hm rl Q k => ?_⟩
  obtain ⟨ob, h1, hm⟩ := bind_some' hm
  refine h0 M q os ev σ H ob h1 rl _ fun v H1 x1 r1 => ?_
  unfold D.fld at hm
  split at hm
  · next c' ns ds =>
    split at hm
    · next hc' =>
      unfold Rep at r1
      obtain ⟨a, dx, vs, rfl, ha, hl, r⟩ := r1
      obtain ⟨v, e1, e2⟩ := zip_lookup r hm
      rw [hc'.1] at ha
      exact ⟨a, cl c, dx, _, v, rfl, (hid_some ha).2, hc, hn, e1, k v H1 x1 e2⟩
    · cases hm
  · cases hm
end
end Lay

namespace Lay
open PySem PySem.Spec PyProof.Rows L2
open Evl (Ex)
/-! ### what may have changed -/
structure Tr (q : Option Addr) (os : List Addr) (H : Hp) (os' : List Addr) (H' : Hp) : Prop where
  kp : ∀ a o, H a = some o → a ∉ os → q ≠ some a → H' a = some o
  ow : ∀ p ∈ os', p ∈ os ∨ H p = none
  th : ∀ a o, H a = some o → H' a ≠ none
section
variable {K : Fg} {cl : Str → Addr} {q : Option Addr} {os os' os1 os2 M : List Addr} {H H' H1 H2 : Hp} {σ : L2.St} {ev ev' : Env'}
theorem Tr.of_ex (x : Ex H H') : Tr q os H os H' := ⟨fun a o h _ _ => x a o h, fun p hp => .inl hp, fun a o h => by rw [x a o h]; simp⟩
theorem Tr.refl : Tr q os H os H := Tr.of_ex Ex0
theorem Tr.trans (a : Tr q os H os1 H1) (b : Tr q os1 H1 os2 H2) : Tr q os H os2 H2 := by
  refine ⟨fun x o h n1 n2 => ?_, fun p hp => ?_, fun x o h => ?_⟩
  · refine b.kp x o (a.kp x o h n1 n2) (fun z => ?_) n2
    rcases a.ow x z with y | y
    · exact n1 y
    · rw [h] at y; cases y
  · rcases b.ow p hp with y | y
    · exact a.ow p y
    · refine .inr ?_
      cases h : H p with
      | none => rfl
      | some o => exact absurd y (a.th p o h)
  · cases h1 : H1 x with
    | none => exact absurd h1 (a.th x o h)
    | some o' => exact b.th x o' h1
/-- the strict view goes on -/
theorem Tr.view (t : Tr q os H os' H') (r : Rl K cl M q os ev σ H) : Ex (hid (os ++ M) H) (hid (os' ++ M) H') := fun a o h => by
  obtain ⟨h1, h2⟩ := hid_some h
  have n1 : a ∉ os := fun z => h1 (List.mem_append_left _ z)
  have n2 : a ∉ M := fun z => h1 (List.mem_append_right _ z)
  have n3 : a ∉ os' ++ M := fun z => by
    rcases List.mem_append.1 z with z | z
    · rcases t.ow a z with y | y
      · exact n1 y
      · rw [h2] at y; cases y
    · exact n2 z
  rw [hid_not n3]
  exact t.kp a o h2 n1 fun z => n2 (r.qm a z)
end

/-! ### expressions that may change what is owned -/
section
variable (X : Cx) (cl : Str → Addr)
def EF (e : Expr) (m : Env' → Option (D × Env')) : Prop :=
  ∃ te, PE X e te ∧ ∀ M q os ev σ H d ev', m ev = some (d, ev') → Rl X.K cl M q os ev σ H → ∀ Q : VK, (∀ v H', Tr q os H os H' → Rl X.K cl M q os ev' σ H' → Rep X.K cl (hid (os ++ M) H') v d → Q v H') → te σ H Q
def EFA (es : List Expr) (m : Env' → Option (List D × Env')) : Prop :=
  ∃ te, PA X es te ∧ ∀ M q os ev σ H d ev', m ev = some (d, ev') → Rl X.K cl M q os ev σ H → ∀ Q : List L2.V → Hp → Prop, (∀ v H', Tr q os H os H' → Rl X.K cl M q os ev' σ H' → Reps X.K cl (hid (os ++ M) H') v d → Q v H') → te σ H Q
def EFT (e : Expr) (m : Env' → Option (Bool × Env')) : Prop :=
  ∃ te, PT X e te ∧ ∀ M q os ev σ H d ev', m ev = some (d, ev') → Rl X.K cl M q os ev σ H → ∀ Q : Bool → Hp → Prop, (∀ H', Tr q os H os H' → Rl X.K cl M q os ev' σ H' → Q d H') → te σ H Q
def EFI (tg it : Expr) (m : Env' → Option (List D × Env')) : Prop :=
  ∃ wi, PI X tg it wi ∧ ∀ M q os ev σ H ds ev', m ev = some (ds, ev') → Rl X.K cl M q os ev σ H → ∀ R : It → Hp → Prop, (∀ J H', Tr q os H os H' → Rl X.K cl M q os ev' σ H' → WalkD X.K cl (os ++ M) J ds H' → R J H') → wi σ H R
end
def lift {α : Type} (m : Env' → Option α) : Env' → Option (α × Env') := fun ev => (m ev).map fun d => (d, ev)
theorem lift_some {α : Type} {m : Env' → Option α} {ev ev' : Env'} {d : α} (h : lift m ev = some (d, ev')) : m ev = some d ∧ ev' = ev := by
  unfold lift at h
  obtain ⟨x, h1, h2⟩ := Option.map_eq_some_iff.1 h
  cases h2
  exact ⟨h1, rfl⟩
section
variable {X : Cx} {cl : Str → Addr} {e a b c : Expr} {es : List Expr} {pos : Pos}
theorem ef_ev {m : Env' → Option D} (h : EV true X cl e m) : EF X cl e (lift m) := by
  obtain ⟨te, hp, h⟩ := h
  refine ⟨te, hp, fun M q os ev σ H d ev' hm rl Q k => ?_⟩
  obtain ⟨h1, rfl⟩ := lift_some hm
  exact h M q os ev' σ H d h1 rl Q fun v H' x r => k v H' (.of_ex x) (rl.ex x) r
theorem eft_et {m : Env' → Option Bool} (h : ET X cl e m) : EFT X cl e (lift m) := by
  obtain ⟨te, hp, h⟩ := h
  refine ⟨te, hp, fun M q os ev σ H d ev' hm rl Q k => ?_⟩
  obtain ⟨h1, rfl⟩ := lift_some hm
  exact h M q os ev' σ H d h1 rl Q fun H' x => k H' (.of_ex x) (rl.ex x)
theorem efi_ei {tg : Expr} {m : Env' → Option (List D)} (h : EI true X cl tg e m) : EFI X cl tg e (lift m) := by
  obtain ⟨te, hp, h⟩ := h
  refine ⟨te, hp, fun M q os ev σ H d ev' hm rl Q k => ?_⟩
  obtain ⟨h1, rfl⟩ := lift_some hm
  exact h M q os ev' σ H d h1 rl Q fun J H' x wk => k J H' (.of_ex x) (rl.ex x) wk
theorem efa_ea {m : Env' → Option (List D)} (h : EA true X cl es m) : EFA X cl es (lift m) := by
  obtain ⟨te, hp, h⟩ := h
  refine ⟨te, hp, fun M q os ev σ H d ev' hm rl Q k => ?_⟩
  obtain ⟨h1, rfl⟩ := lift_some hm
  exact h M q os ev' σ H d h1 rl Q fun v H' x r => k v H' (.of_ex x) (rl.ex x) r
def facons (m : Env' → Option (D × Env')) (n : Env' → Option (List D × Env')) : Env' → Option (List D × Env') := fun ev => do
  let r ← m ev
  let s ← n r.2
  some (r.1 :: s.1, s.2)
theorem efa_cons {m : Env' → Option (D × Env')} {n : Env' → Option (List D × Env')} (h : EF X cl e m) (t : EFA X cl es n) (hs : starEach (e :: es) X.env = (false, eval e X.env) :: starEach es X.env := by rfl) : EFA X cl (e :: es) (facons m n) := by
  obtain ⟨te, hp, h⟩ := h
  obtain ⟨tr, hr, t⟩ := t
  refine ⟨_, pa_cons hp hr hs, fun M q os ev σ H d ev' hm rl Q k => ?_⟩
  obtain ⟨⟨d1, ev1⟩, h1, hm⟩ := bind_some' hm
  obtain ⟨⟨d2, ev2⟩, h2, hm⟩ := bind_some' hm
  cases hm
  exact h M q os ev σ H d1 ev1 h1 rl _ fun v H1 t1 rl1 r1 => t M q os ev1 σ H1 d2 _ h2 rl1 _ fun vs H2 t2 rl2 r2 => k _ _ (t1.trans t2) rl2 (Reps.cons (r1.mono (t2.view rl1)) r2)
theorem efa_nil : EFA X cl [] (lift fun _ => some []) := efa_ea ea_nil
/-- behind the evaluation of operands a rule by values -/
def fL1 (f : List D → Option D) (m : Env' → Option (List D × Env')) : Env' → Option (D × Env') := fun ev => do
  let r ← m ev
  let d ← f r.1
  some (d, r.2)
def f2 (f : D → D → Option D) (m n : Env' → Option (D × Env')) : Env' → Option (D × Env') := fun ev => do
  let r ← m ev
  let s ← n r.2
  let d ← f r.1 s.1
  some (d, s.2)
theorem fop_ok {r : R2} {f : D → D → Option D} {ma mb : Env' → Option (D × Env')} {ta tb : TE} (hr : RD2 X.K cl r f)
    (ha : ∀ M q os ev σ H d ev', ma ev = some (d, ev') → Rl X.K cl M q os ev σ H → ∀ Q : VK, (∀ v H', Tr q os H os H' → Rl X.K cl M q os ev' σ H' → Rep X.K cl (hid (os ++ M) H') v d → Q v H') → ta σ H Q)
    (hb : ∀ M q os ev σ H d ev', mb ev = some (d, ev') → Rl X.K cl M q os ev σ H → ∀ Q : VK, (∀ v H', Tr q os H os H' → Rl X.K cl M q os ev' σ H' → Rep X.K cl (hid (os ++ M) H') v d → Q v H') → tb σ H Q) :
    ∀ M q os ev σ H d ev', f2 f ma mb ev = some (d, ev') → Rl X.K cl M q os ev σ H → ∀ Q : VK, (∀ v H', Tr q os H os H' → Rl X.K cl M q os ev' σ H' → Rep X.K cl (hid (os ++ M) H') v d → Q v H') → tOp r ta tb σ H Q := by
  intro M q os ev σ H d ev' hm rl Q k
  obtain ⟨⟨d1, ev1⟩, h1, hm⟩ := bind_some' hm
  obtain ⟨⟨d2, ev2⟩, h2, hm⟩ := bind_some' hm
  obtain ⟨d3, h3, hm⟩ := bind_some' hm
  cases hm
  exact ha M q os ev σ H d1 ev1 h1 rl _ fun v H1 t1 rl1 r1 => hb M q os ev1 σ H1 d2 _ h2 rl1 _ fun u H2 t2 rl2 r2 => hr _ _ _ _ _ _ _ h3 (rl2.tk true) (r1.mono (t2.view rl1)) r2 _ fun z H3 x3 r3 => k z H3 ((t1.trans t2).trans (.of_ex x3)) (rl2.ex x3) r3
theorem ef_bin {op : Operator} {r : R2} {f : D → D → Option D} {ma mb : Env' → Option (D × Env')} (ho : OpR X (binaryOp op) r) (hr : RD2 X.K cl r f) (ha : EF X cl a ma) (hb : EF X cl b mb) : EF X cl (.BinOp a op b pos) (f2 f ma mb) := by
  obtain ⟨ta, pa, ha⟩ := ha
  obtain ⟨tb, pb, hb⟩ := hb
  exact ⟨_, pe_op ho pa pb, fop_ok hr ha hb⟩
theorem ef_ix {ma mb : Env' → Option (D × Env')} (ha : EF X cl a ma) (hb : EF X cl b mb) (hs : PlainIx b) : EF X cl (.Subscript a b pos) (f2 D.ix ma mb) := by
  obtain ⟨ta, pa, ha⟩ := ha
  obtain ⟨tb, pb, hb⟩ := hb
  exact ⟨_, pe_ix ix_seq pa pb hs, fop_ok rd_ix ha hb⟩
def fc2 (f : D → D → Option Bool) (m n : Env' → Option (D × Env')) : Env' → Option (Bool × Env') := fun ev => do
  let r ← m ev
  let s ← n r.2
  let d ← f r.1 s.1
  some (d, s.2)
theorem fcmp_ok {r : R2} {f : D → D → Option Bool} {ma mb : Env' → Option (D × Env')} {ta tb : TE} (hr : RC2 X.K cl r f)
    (ha : ∀ M q os ev σ H d ev', ma ev = some (d, ev') → Rl X.K cl M q os ev σ H → ∀ Q : VK, (∀ v H', Tr q os H os H' → Rl X.K cl M q os ev' σ H' → Rep X.K cl (hid (os ++ M) H') v d → Q v H') → ta σ H Q)
    (hb : ∀ M q os ev σ H d ev', mb ev = some (d, ev') → Rl X.K cl M q os ev σ H → ∀ Q : VK, (∀ v H', Tr q os H os H' → Rl X.K cl M q os ev' σ H' → Rep X.K cl (hid (os ++ M) H') v d → Q v H') → tb σ H Q) :
    ∀ M q os ev σ H d ev', fc2 f ma mb ev = some (d, ev') → Rl X.K cl M q os ev σ H → ∀ Q : VK, (∀ H', Tr q os H os H' → Rl X.K cl M q os ev' σ H' → Q (.bl d) H') → tOp r ta tb σ H Q := by
  intro M q os ev σ H d ev' hm rl Q k
  obtain ⟨⟨d1, ev1⟩, h1, hm⟩ := bind_some' hm
  obtain ⟨⟨d2, ev2⟩, h2, hm⟩ := bind_some' hm
  obtain ⟨d3, h3, hm⟩ := bind_some' hm
  cases hm
  exact ha M q os ev σ H d1 ev1 h1 rl _ fun v H1 t1 rl1 r1 => hb M q os ev1 σ H1 d2 _ h2 rl1 _ fun u H2 t2 rl2 r2 => hr _ _ _ _ _ _ _ h3 (rl2.tk true) (r1.mono (t2.view rl1)) r2 _ fun H3 x3 => k H3 ((t1.trans t2).trans (.of_ex x3)) (rl2.ex x3)
theorem eft_cmp {op : CmpOp} {r : R2} {f : D → D → Option Bool} {ma mb : Env' → Option (D × Env')} (ho : OpR X (compareOp op) r) (hr : RC2 X.K cl r f) (ha : EF X cl a ma) (hb : EF X cl b mb) (hmk : behindInMarks op b = false) : EFT X cl (.Compare a [op] [b] pos) (fc2 f ma mb) := by
  obtain ⟨ta, pa, ha⟩ := ha
  obtain ⟨tb, pb, hb⟩ := hb
  exact ⟨_, pt_cmpR ho pa pb hmk, fun M q os ev σ H d ev' hm rl Q k => fcmp_ok hr ha hb M q os ev σ H d ev' hm rl _ fun H' t r => ⟨d, rfl, k H' t r⟩⟩
def fB (m : Env' → Option (Bool × Env')) : Env' → Option (D × Env') := fun ev => (m ev).map fun r => (.bl r.1, r.2)
theorem ef_cmp {op : CmpOp} {r : R2} {f : D → D → Option Bool} {ma mb : Env' → Option (D × Env')} (ho : OpR X (compareOp op) r) (hr : RC2 X.K cl r f) (ha : EF X cl a ma) (hb : EF X cl b mb) (hmk : behindInMarks op b = false) : EF X cl (.Compare a [op] [b] pos) (fB (fc2 f ma mb)) := by
  obtain ⟨ta, pa, ha⟩ := ha
  obtain ⟨tb, pb, hb⟩ := hb
  refine ⟨_, pe_cmpR ho pa pb hmk, fun M q os ev σ H d ev' hm rl Q k => ?_⟩
  obtain ⟨⟨x, ev1⟩, h1, h2⟩ := Option.map_eq_some_iff.1 hm
  cases h2
  exact fcmp_ok hr ha hb M q os ev σ H x _ h1 rl _ fun H' t r => k _ H' t r (rep_bl.2 rfl)
/-- a value that is a truth value, as a test -/
def fT (m : Env' → Option (D × Env')) : Env' → Option (Bool × Env') := fun ev => match m ev with
  | some (.bl b, ev') => some (b, ev')
  | _ => none
theorem eft_val {m : Env' → Option (D × Env')} (h : EF X cl e m) (he : ∀ whole, isTrue e X.env whole = (do let v ← whole; standAt e.pos; holding [v] (truthy v)) := by intro _; rfl) : EFT X cl e (fT m) := by
  obtain ⟨te, hp, h⟩ := h
  refine ⟨_, pt_val hp he, fun M q os ev σ H d ev' hm rl Q k => ?_⟩
  unfold fT at hm
  split at hm
  · next b ev1 hb =>
    cases hm
    exact h M q os ev σ H _ _ hb rl _ fun v H' t r r' => ⟨_, rep_bl.1 r', k H' t r⟩
  · cases hm
def fnB (m : Env' → Option (Bool × Env')) : Env' → Option (Bool × Env') := fun ev => (m ev).map fun r => (!r.1, r.2)
theorem eft_not {t : Env' → Option (Bool × Env')} (h : EFT X cl a t) : EFT X cl (.UnaryOp .Not a pos) (fnB t) := by
  obtain ⟨te, hp, h⟩ := h
  refine ⟨_, pt_not hp, fun M q os ev σ H d ev' hm rl Q k => ?_⟩
  obtain ⟨⟨x, ev1⟩, h1, h2⟩ := Option.map_eq_some_iff.1 hm
  cases h2
  exact h M q os ev σ H x _ h1 rl _ k
def fif (t : Env' → Option (Bool × Env')) (m n : Env' → Option (D × Env')) : Env' → Option (D × Env') := fun ev => do
  let r ← t ev
  if r.1 = true then m r.2 else n r.2
theorem ef_if {t : Env' → Option (Bool × Env')} {ma mb : Env' → Option (D × Env')} (hc : EFT X cl c t) (ha : EF X cl a ma) (hb : EF X cl b mb) : EF X cl (.IfExp c a b pos) (fif t ma mb) := by
  obtain ⟨te, hp, h⟩ := hc
  obtain ⟨ta, pa, ha⟩ := ha
  obtain ⟨tb, pb, hb⟩ := hb
  refine ⟨_, pe_ifExp hp pa pb, fun M q os ev σ H d ev' hm rl Q k => ?_⟩
  obtain ⟨⟨x, ev1⟩, h1, hm⟩ := bind_some' hm
  refine h M q os ev σ H x ev1 h1 rl _ fun H1 t1 rl1 => ?_
  cases x with
  | true => exact iteT (ha M q os ev1 σ H1 d ev' hm rl1 _ fun v H2 t2 rl2 r2 => k v H2 (t1.trans t2) rl2 r2)
  | false => exact iteF (hb M q os ev1 σ H1 d ev' hm rl1 _ fun v H2 t2 rl2 r2 => k v H2 (t1.trans t2) rl2 r2)
def ftup (ma : Env' → Option (List D × Env')) : Env' → Option (D × Env') := fun ev => do let r ← ma ev; if r.1.length ≤ 1000000 then some (.tup r.1, r.2) else none
def flst (ma : Env' → Option (List D × Env')) : Env' → Option (D × Env') := fun ev => do let r ← ma ev; if r.1.length ≤ 1000000 then some (.lst r.1, r.2) else none
theorem ef_tup {ma : Env' → Option (List D × Env')} {x1} (h : EFA X cl es ma) : EF X cl (.Tuple es x1 pos) (ftup ma) := by
  obtain ⟨te, hp, h⟩ := h
  refine ⟨_, pe_tup hp, fun M q os ev σ H d ev' hm rl Q k => ?_⟩
  obtain ⟨⟨ds, ev1⟩, h1, hm⟩ := bind_some' hm
  split at hm
  · next hc =>
    cases hm
    refine h M q os ev σ H ds _ h1 rl _ fun vs H1 t1 rl1 r1 => ⟨?_, fun p hn => ?_⟩
    · simp only at hc
      rw [r1.length, sizeLine_eq]; omega
    · obtain ⟨x1, x2⟩ := new_tup hn (rl1.tk true) r1
      exact k _ _ (t1.trans (.of_ex x1)) (rl1.ex x1) x2
  · cases hm
theorem ef_lst {ma : Env' → Option (List D × Env')} (h : EFA X cl es ma) : EF X cl (.List es pos) (flst ma) := by
  obtain ⟨te, hp, h⟩ := h
  refine ⟨_, pe_lst hp, fun M q os ev σ H d ev' hm rl Q k => ?_⟩
  obtain ⟨⟨ds, ev1⟩, h1, hm⟩ := bind_some' hm
  split at hm
  · next hc =>
    cases hm
    refine h M q os ev σ H ds _ h1 rl _ fun vs H1 t1 rl1 r1 => ⟨?_, fun p hn => ?_⟩
    · simp only at hc
      rw [r1.length, sizeLine_eq]; omega
    · obtain ⟨x1, x2, x3⟩ := new_lst hn (rl1.tk true) r1
      exact k _ _ (t1.trans (.of_ex x1)) (rl1.ex x1) (rep_lst x2 ((rl1.tk true).new hn) x3)
  · cases hm
theorem ef_B {id : String} {x : Str} {p : Pos} {r : List L2.V → Hp → VK → Prop} {f : List D → Option D} {ma : Env' → Option (List D × Env')} (hc : CallR X (.builtin id) r) (hr : RDL X.K cl r f) (hg : Gl X x) (hm : X.mg x = none) (hv : bootBuiltins x = some (.builtin id)) (ha : EFA X cl (e :: es) ma)
    (hn : x ≠ "__name__") (hdb : (x == ("__debug__" : Str)) = false) (he : starEach (e :: es) X.env = (false, eval e X.env) :: starEach es X.env := by rfl) (hpl : (backTo pos (starEach es X.env)).any (·.1) = false := by rfl) :
    EF X cl (.Call (.Name x p) (e :: es) [] pos) (fL1 f ma) := by
  obtain ⟨ta, pa, ha⟩ := ha
  refine ⟨_, pe_callB hc hg hm hv pa hn hdb he hpl, fun M q os ev σ H d ev' hm rl Q k => ?_⟩
  obtain ⟨⟨ds, ev1⟩, h1, hm⟩ := bind_some' hm
  obtain ⟨d', h2, hm⟩ := bind_some' hm
  cases hm
  exact ha M q os ev σ H ds _ h1 rl _ fun vs H1 t1 rl1 r1 => hr _ _ _ _ _ h2 (rl1.tk true) r1 _ fun v H2 x2 r2 => k v H2 (t1.trans (.of_ex x2)) (rl1.ex x2) r2
theorem ef_Ty {T : String} {x : Str} {p : Pos} {r : List L2.V → Hp → VK → Prop} {f : List D → Option D} {ma : Env' → Option (List D × Env')} (hc : CallR X (.type T) r) (hr : RDL X.K cl r f) (hg : Gl X x) (hm : X.mg x = none) (hv : bootBuiltins x = some (.type T)) (ha : EFA X cl (e :: es) ma)
    (hn : x ≠ "__name__") (hdb : (x == ("__debug__" : Str)) = false) (he : starEach (e :: es) X.env = (false, eval e X.env) :: starEach es X.env := by rfl) (hpl : (backTo pos (starEach es X.env)).any (·.1) = false := by rfl) :
    EF X cl (.Call (.Name x p) (e :: es) [] pos) (fL1 f ma) := by
  obtain ⟨ta, pa, ha⟩ := ha
  refine ⟨_, pe_callTy hc hg hm hv pa hn hdb he hpl, fun M q os ev σ H d ev' hm rl Q k => ?_⟩
  obtain ⟨⟨ds, ev1⟩, h1, hm⟩ := bind_some' hm
  obtain ⟨d', h2, hm⟩ := bind_some' hm
  cases hm
  exact ha M q os ev σ H ds _ h1 rl _ fun vs H1 t1 rl1 r1 => hr _ _ _ _ _ h2 (rl1.tk true) r1 _ fun v H2 x2 r2 => k v H2 (t1.trans (.of_ex x2)) (rl1.ex x2) r2
theorem ef_call {x : Str} {p : Pos} {k : Nat} {ps : List Str} {m : List D → Option D} {ma : Env' → Option (List D × Env')} (F : FnG X.prog X.w X.K X.mg X.base x k ps (spP X.K cl m)) (hr : Room k X.A) (hg : Gl X x) (ha : EFA X cl (e :: es) ma) (hdb : (x == ("__debug__" : Str)) = false)
    (he : starEach (e :: es) X.env = (false, eval e X.env) :: starEach es X.env := by rfl) (hpl : (backTo pos (starEach es X.env)).any (·.1) = false := by rfl) : EF X cl (.Call (.Name x p) (e :: es) [] pos) (fL1 m ma) := by
  obtain ⟨f, fd, F, hm, hk, hb⟩ := F.ok
  obtain ⟨ta, pa, ha⟩ := ha
  refine ⟨_, pe_call F hr hg hm hk hb .nil pass0 pa hdb he hpl, fun M q os ev σ H d ev' hm rl Q k => ?_⟩
  obtain ⟨⟨ds, ev1⟩, h1, hm⟩ := bind_some' hm
  obtain ⟨d', h2, hm⟩ := bind_some' hm
  cases hm
  refine ha M q os ev σ H ds _ h1 rl _ fun vs H1 t1 rl1 r1 => ?_
  rw [List.append_nil]
  exact ⟨_, ds, d, h2, rl1.tk true, r1, fun v H2 x2 r2 => k v H2 (t1.trans (.of_ex x2)) (rl1.ex x2) r2⟩
/-- what an owned slot holds is changed -/
def setOwn (ev : Env') (j : Nat) (g : List D) : Env' := match ev[j]? with
  | some (.own _) => ev.set j (.own g)
  | some (.par _) => ev.set j (.par g)
  | _ => ev
def ownAt (ev : Env') (j : Nat) : Option (List D) := match ev[j]? with
  | some (.own g) => some g
  | some (.par g) => some g
  | _ => none
theorem setOwn_cons {s : Slot} {ev : Env'} {j : Nat} {g : List D} : setOwn (s :: ev) (j + 1) g = s :: setOwn ev j g := by
  unfold setOwn
  simp only [List.getElem?_cons_succ, List.set_cons_succ]
  cases ev[j]? with
  | none => rfl
  | some x => cases x <;> rfl
def isPar : Slot → Bool
  | .par _ => true
  | _ => false
def noPar (ev : Env') : Bool := ev.all fun s => !isPar s
section
variable {K : Fg} {V H H' : Hp} {q : Option Addr} {σ : L2.St} {os M : List Addr} {ev : Env'}
theorem SR.mono_np (h : SR K cl V H q ev σ os) (k : ∀ a o, a ∈ os → H a = some o → H' a = some o) (np : noPar ev = true) : SR K cl V H' q ev σ os := by
  induction h with
  | nil => exact .nil
  | emp _ ih => exact .emp (ih k (by simpa [noPar] using (show _ ∧ _ by simpa [noPar] using np).2))
  | val r _ ih => exact .val r (ih k (by simpa [noPar] using (show _ ∧ _ by simpa [noPar] using np).2))
  | own h1 h2 _ ih => exact .own (k _ _ (by simp) h1) h2 (ih (fun a o ha => k a o (by simp [ha])) (by simpa [noPar] using (show _ ∧ _ by simpa [noPar] using np).2))
  | par hq h1 h2 _ ih => simp [noPar, isPar] at np
theorem SR.own_set {g : List D} (h : SR K cl V H q ev σ os) : ∀ {j : Nat}, ownAt ev j = some g → noPar (ev.set j .emp) = true ∨ (∃ xs, ev[j]? = some (.own xs)) → os.Nodup → (∀ a, q = some a → a ∉ os) → ∃ p vs, σ[j]? = some (some (.ref p)) ∧ (p ∈ os ∨ q = some p) ∧ H p = some (.lst vs) ∧ Reps K cl V vs g ∧
    ∀ H' vs' g', (∀ a o, (a ∈ os ∨ q = some a) → a ≠ p → H a = some o → H' a = some o) → H' p = some (.lst vs') → Reps K cl V vs' g' → SR K cl V H' q (setOwn ev j g') σ os := by
  induction h with
  | nil => intro j h; simp [ownAt] at h
  | @emp x e σ os h ih =>
    intro j hj hp nd hq
    cases j with
    | zero => simp [ownAt] at hj
    | succ j =>
      obtain ⟨p, vs, a1, a2, a3, a4, a5⟩ := ih (j := j) (by simpa [ownAt] using hj) (by simpa [noPar, isPar] using hp) nd hq
      refine ⟨p, vs, by simpa using a1, a2, a3, a4, fun H' vs' g' k k2 k3 => ?_⟩
      have := SR.emp (x := x) (a5 H' vs' g' k k2 k3)
      rw [setOwn_cons]
      exact this
  | @val v d e σ os r h ih =>
    intro j hj hp nd hq
    cases j with
    | zero => simp [ownAt] at hj
    | succ j =>
      obtain ⟨p, vs, a1, a2, a3, a4, a5⟩ := ih (j := j) (by simpa [ownAt] using hj) (by simpa [noPar, isPar] using hp) nd hq
      refine ⟨p, vs, by simpa using a1, a2, a3, a4, fun H' vs' g' k k2 k3 => ?_⟩
      have := SR.val r (a5 H' vs' g' k k2 k3)
      rw [setOwn_cons]
      exact this
  | @own p0 vs0 xs0 e σ os h1 h2 h ih =>
    intro j hj hp nd hq
    obtain ⟨nd1, nd2⟩ := List.nodup_cons.1 nd
    cases j with
    | zero =>
      simp [ownAt] at hj
      subst hj
      refine ⟨p0, vs0, rfl, .inl (by simp), h1, h2, fun H' vs' g' k k2 k3 => ?_⟩
      unfold setOwn
      refine .own k2 k3 (h.mono Ex0 fun a o ha => k a o (ha.imp (fun z => by simp [z]) id) fun z => ?_)
      subst z
      rcases ha with ha | ha
      · exact nd1 ha
      · exact hq _ ha (by simp)
    | succ j =>
      obtain ⟨p, vs, a1, a2, a3, a4, a5⟩ := ih (j := j) (by simpa [ownAt] using hj) (by simpa [noPar, isPar] using hp) nd2 (fun a ha z => hq a ha (by simp [z]))
      have hne : p0 ≠ p := fun z => by
        subst z
        rcases a2 with z | z
        · exact nd1 z
        · exact hq _ z (by simp)
      refine ⟨p, vs, by simpa using a1, a2.imp (fun z => by simp [z]) id, a3, a4, fun H' vs' g' k k2 k3 => ?_⟩
      have := SR.own (K := K) (cl := cl) (k p0 _ (.inl (by simp)) hne h1) h2 (a5 H' vs' g' (fun a o ha => k a o (ha.imp (fun z => by simp [z]) id)) k2 k3)
      rw [setOwn_cons]
      exact this
  | @par p0 vs0 xs0 e σ os hq0 h1 h2 h ih =>
    intro j hj hp nd hq
    cases j with
    | zero =>
      simp [ownAt] at hj
      subst hj
      refine ⟨p0, vs0, rfl, .inr hq0, h1, h2, fun H' vs' g' k k2 k3 => ?_⟩
      unfold setOwn
      have np : noPar e = true := by
        rcases hp with hp | ⟨xs, hp⟩
        · simpa [noPar, isPar] using hp
        · simp at hp
      exact .par hq0 k2 k3 (h.mono_np (fun a o ha => k a o (.inl ha) fun z => hq p0 hq0 (z ▸ ha)) np)
    | succ j =>
      obtain ⟨p, vs, a1, a2, a3, a4, a5⟩ := ih (j := j) (by simpa [ownAt] using hj) (by
        rcases hp with hp | hp
        · simp [noPar, isPar] at hp
        · exact .inr (by simpa using hp)) nd hq
      have hne : p0 ≠ p := fun z => by
        subst z
        rcases hp with hp | ⟨xs, hp⟩
        · simp [noPar, isPar] at hp
        · obtain ⟨p', vs', b1, b2, _⟩ := h.get_own (i := j) (by simpa using hp)
          rw [a1] at b1
          cases b1
          exact hq _ hq0 b2
      refine ⟨p, vs, by simpa using a1, a2, a3, a4, fun H' vs' g' k k2 k3 => ?_⟩
      have := SR.par (K := K) (cl := cl) hq0 (k p0 _ (.inr hq0) hne h1) h2 (a5 H' vs' g' k k2 k3)
      rw [setOwn_cons]
      exact this
end
/-- the slot may be changed -/
def mayOwn (ev : Env') (j : Nat) : Bool := match ev[j]? with
  | some (.own _) => true
  | some (.par _) => noPar (ev.set j .emp)
  | _ => false
theorem Rl.own_set {K : Fg} {H : Hp} {q : Option Addr} {σ : L2.St} {os M : List Addr} {ev : Env'} {g : List D} {j : Nat} (r : Rl K cl M q os ev σ H) (h : ownAt ev j = some g) (hm : mayOwn ev j = true) : ∃ p vs, σ[j]? = some (some (.ref p)) ∧ (p ∈ os ∨ q = some p) ∧ H p = some (.lst vs) ∧ Reps K cl (hid (os ++ M) H) vs g ∧
    ∀ H' vs' g', (∀ a o, a ≠ p → H a = some o → H' a = some o) → H' p = some (.lst vs') → Reps K cl (hid (os ++ M) H') vs' g' → Rl K cl M q os (setOwn ev j g') σ H' := by
  have hq : ∀ a, q = some a → a ∉ os := fun a ha z => r.dj a z (r.qm a ha)
  obtain ⟨p, vs, a1, a2, a3, a4, a5⟩ := r.sr.own_set h (by
    unfold mayOwn at hm
    split at hm
    · next xs hx => exact .inr ⟨xs, hx⟩
    · exact .inl hm
    · cases hm) r.nd hq
  have pin : p ∈ os ++ M := by
    rcases a2 with z | z
    · exact List.mem_append_left _ z
    · exact List.mem_append_right _ (r.qm p z)
  refine ⟨p, vs, a1, a2, a3, a4, fun H' vs' g' k k2 k3 => ?_⟩
  have ve : Ex (hid (os ++ M) H) (hid (os ++ M) H') := fun a o h => by
    obtain ⟨h1, h2⟩ := hid_some h
    rw [hid_not h1]
    exact k a o (fun z => h1 (z ▸ pin)) h2
  have rm : SR K cl (hid (os ++ M) H') H q ev σ os := r.sr.mono ve fun _ _ _ h => h
  obtain ⟨p', vs2, b1, b2, b3, b4, b5⟩ := rm.own_set h (by
    unfold mayOwn at hm
    split at hm
    · next xs hx => exact .inr ⟨xs, hx⟩
    · exact .inl hm
    · cases hm) r.nd hq
  rw [a1] at b1
  cases b1
  refine ⟨b5 H' vs' g' (fun a o _ ha => k a o ha) k2 k3, r.nd, r.dj, fun a ha => ?_, r.qm⟩
  by_cases hap : a = p
  · rw [hap, k2]; simp
  · cases h : H a with
    | none => exact absurd h (r.tr a ha)
    | some o => rw [k a o hap h]; simp
/-- a def that changes the list it is handed: an owned slot's -/
def fF (j : Nat) (m : List D → List D → Option (D × List D)) (ma : Env' → Option (List D × Env')) : Env' → Option (D × Env') := fun ev => do
  let _ ← ownAt ev j
  let r ← ma ev
  if mayOwn r.2 j = true then do
    let g ← ownAt r.2 j
    let s ← m g r.1
    some (s.1, setOwn r.2 j s.2)
  else none
theorem slot_ref {K : Fg} {V H : Hp} {q : Option Addr} {σ : L2.St} {os : List Addr} {ev : Env'} {j : Nat} {g : List D} (h : SR K cl V H q ev σ os) (hj : ownAt ev j = some g) : ∃ p, σ[j]? = some (some (.ref p)) := by
  unfold ownAt at hj
  split at hj
  · next x hx =>
    obtain ⟨p, vs, h1, _⟩ := h.get_own hx
    exact ⟨p, h1⟩
  · next x hx =>
    obtain ⟨p, vs, h1, _⟩ := h.get_par hx
    exact ⟨p, h1⟩
  · cases hj
theorem ef_callF {x y : Str} {p p2 : Pos} {j k : Nat} {ps : List Str} {m : List D → List D → Option (D × List D)} {ma : Env' → Option (List D × Env')} (F : FnG X.prog X.w X.K X.mg X.base x k ps (spF X.K cl m)) (hr : Room k X.A) (hg : Gl X x) (hj : VarAt X j y) (ha : EFA X cl es ma) (hdb : (x == ("__debug__" : Str)) = false)
    (he : starEach (.Name y p2 :: es) X.env = (false, eval (.Name y p2) X.env) :: starEach es X.env := by rfl) (hpl : (backTo pos (starEach es X.env)).any (·.1) = false := by rfl) : EF X cl (.Call (.Name x p) (.Name y p2 :: es) [] pos) (fF j m ma) := by
  obtain ⟨f, fd, F, hm, hk, hb⟩ := F.ok
  obtain ⟨ta, pa, ha⟩ := ha
  refine ⟨_, pe_call F hr hg hm hk hb .nil pass0 (pa_cons (pe_var hj.ix hj.vis hj.nd hj.nc) pa he) hdb he hpl, fun M q os ev σ H d ev' hm rl Q k => ?_⟩
  obtain ⟨g0, h0, hm⟩ := bind_some' hm
  obtain ⟨⟨ds, ev1⟩, h1, hm⟩ := bind_some' hm
  split at hm
  · next hmay =>
    obtain ⟨g, h2, hm⟩ := bind_some' hm
    obtain ⟨⟨d', g'⟩, h3, hm⟩ := bind_some' hm
    cases hm
    obtain ⟨p, hp⟩ := slot_ref rl.sr h0
    refine ⟨_, hp, ?_⟩
    refine ha M q os ev σ H ds ev1 h1 rl _ fun us H1 t1 rl1 r1 => ?_
    show spF X.K cl m ((V.ref p :: us) ++ []) H1 Q E0
    rw [List.append_nil]
    obtain ⟨p', vs, a1, a2, a3, a4, a5⟩ := rl1.own_set h2 hmay
    rw [hp] at a1
    cases a1
    have pin : p ∈ os ++ M := by
      rcases a2 with z | z
      · exact List.mem_append_left _ z
      · exact List.mem_append_right _ (rl1.qm p z)
    refine ⟨os ++ M, p, g, vs, ds, us, _, g', rfl, h3, pin, rl1.tr, a3, a4, r1, fun v H2 gv' k1 k2 k3 k4 => ?_⟩
    refine k v H2 (t1.trans ⟨fun a o h n1 n2 => k1 a o h fun z => ?_, fun y hy => .inl hy, fun a o h => ?_⟩) (a5 H2 gv' g' (fun a o n h => k1 a o h n) k2 k3) k4
    · subst z
      rcases a2 with z | z
      · exact n1 z
      · exact n2 z
    · by_cases hap : a = p
      · rw [hap, k2]; simp
      · rw [k1 a o h hap]; simp
  · cases hm
end
/-! ### comprehensions whose elements may change what is owned -/
def cf (K : Fg) (cl : Str → Addr) (m : Env' → Option (D × Env')) : TE := fun σ H Q => ∃ M q os ev d ev', m ev = some (d, ev') ∧ Rl K cl M q os ev σ H ∧ ∀ v H', Tr q os H os H' → Rl K cl M q os ev' σ H' → Rep K cl (hid (os ++ M) H') v d → Q v H'
theorem EF.pe {X : Cx} {cl : Str → Addr} {e : Expr} {m : Env' → Option (D × Env')} (h : EF X cl e m) : PE X e (cf X.K cl m) := by
  obtain ⟨te, hp, h⟩ := h
  exact ⟨fun pins s σ H Q I ⟨M, q, os, ev, d, ev', h1, h2, h3⟩ => hp.run pins s σ H Q I (h M q os ev σ H d ev' h1 h2 Q h3)⟩
def flcGo (t : Tgt) (own : List Nat) (me : Env' → Option (D × Env')) : List D → Env' → Option (List D × Env')
  | [], ev => some ([], ev)
  | d :: r, ev => do
    let ev1 ← t.put d ev
    let y ← me ev1
    if plainAll y.2 own = true then do
      let ys ← flcGo t own me r (wipeE y.2 own)
      some (y.1 :: ys.1, ys.2)
    else none
def flcM (t : Tgt) (own : List Nat) (mi : Env' → Option (List D × Env')) (me : Env' → Option (D × Env')) : Env' → Option (D × Env') := fun ev => do
  let r ← mi ev
  if r.1.length ≤ 1000000 ∧ plainAll r.2 own = true then do
    let s ← flcGo t own me r.1 (wipeE r.2 own)
    some (.lst s.1, s.2)
  else none
section
variable {K : Fg} {cl : Str → Addr} {q : Option Addr} {os M : List Addr} {V H H' : Hp} {σ : L2.St} {e : List Slot}
def empAll (e : List Slot) (is : List Nat) : Prop := ∀ i ∈ is, e[i]? = some .emp
theorem empAll_wipeE {e : List Slot} {is : List Nat} (h : plainAll e is = true) : empAll (wipeE e is) is := by
  have len : ∀ is : List Nat, (wipeE e is).length = e.length := fun is => by
    induction is with
    | nil => rfl
    | cons i is ih => show ((wipeE e is).set i .emp).length = _; rw [List.length_set, ih]
  intro i hi
  have hp : plainAt e i = true := List.all_eq_true.1 h i hi
  have hl : i < e.length := by
    unfold plainAt at hp
    cases he : e[i]? with
    | none => rw [he] at hp; cases hp
    | some x => exact (List.getElem?_eq_some_iff.1 he).1
  clear h hp
  induction is with
  | nil => simp at hi
  | cons j is ih =>
    show ((wipeE e is).set j .emp)[i]? = _
    by_cases hij : j = i
    · subst hij
      rw [List.getElem?_set_self (by rw [len]; exact hl)]
    · rw [List.getElem?_set_ne hij]
      rcases List.mem_cons.1 hi with z | z
      · exact absurd z.symm hij
      · exact ih z
theorem SR.any_emp {x : Option L2.V} (h : SR K cl V H q e σ os) {i : Nat} (hi : e[i]? = some .emp) : SR K cl V H q e (σ.set i x) os := by
  have h1 := h.emp_plain (x := x) (i := i) (by unfold plainAt; rw [hi])
  have h2 : e.set i .emp = e := by
    obtain ⟨hl, he⟩ := List.getElem?_eq_some_iff.1 hi
    rw [← he]
    exact List.set_getElem_self hl
  rw [h2] at h1
  exact h1
theorem SR.unwipe : ∀ {is : List Nat}, SR K cl V H q e (L2.wipe σ is) os → empAll e is → SR K cl V H q e σ os
  | [], h, _ => h
  | i :: is, h, he => by
    have h0 : SR K cl V H q e ((L2.wipe σ is).set i none) os := h
    have hi := he i (by simp)
    refine SR.unwipe (is := is) ?_ fun j hj => he j (by simp [hj])
    by_cases hl : i < (L2.wipe σ is).length
    · have h1 := h0.any_emp (x := (L2.wipe σ is)[i]) hi
      rw [List.set_set, List.set_getElem_self] at h1
      exact h1
    · rw [List.set_eq_of_length_le (l := L2.wipe σ is) (by omega)] at h0
      exact h0
/-- outside of the block the block's names are as they were -/
theorem Rl.unwipe {σ' : L2.St} {is : List Nat} (r : Rl K cl M q os e σ' H) (hp : plainAll e is = true) (hw : L2.wipe σ' is = L2.wipe σ is) : Rl K cl M q os (wipeE e is) σ H := by
  have h := r.wipe hp
  rw [hw] at h
  exact ⟨h.sr.unwipe (empAll_wipeE hp), h.nd, h.dj, h.tr, h.qm⟩
theorem Rl.towipe {is : List Nat} (r : Rl K cl M q os e σ H) (he : empAll e is) : Rl K cl M q os e (L2.wipe σ is) H := by
  refine ⟨?_, r.nd, r.dj, r.tr, r.qm⟩
  have h := r.sr
  revert he
  induction is with
  | nil => intro _; exact h
  | cons i is ih => intro he; exact (ih fun j hj => he j (by simp [hj])).any_emp (he i (by simp))
end
section
variable {X : Cx} {cl : Str → Addr} {elt tg iter : Expr} {scope : Scope} {pos : Pos} {mi : Env' → Option (List D × Env')} {me : Env' → Option (D × Env')} {t : Tgt} {own : List (Str × Nat)}
theorem ef_lc (hc : X.calm = true) (hN : X.N.Nodup) (hi : EFI X cl tg iter mi) (ok : BlkOk X.N X.env.scope scope own) (hsub : ∀ i ∈ t.slots, i ∈ own.map (·.2))
    (hg : ∀ (s : Shared) (H : Hp) (C : Addr) (c : List (Str × Addr)) (fp : List Addr), PGT (X.blk s H scope (compEnvC scope c C X.env) fp) tg t)
    (he : ∀ (s : Shared) (H : Hp) (C : Addr) (c : List (Str × Addr)) (fp : List Addr), EF (X.blk s H scope (compEnvC scope c C X.env) fp) cl elt me) (hs : ∀ x, foldedSetIterable iter X.env x = pure x := by intro _; rfl) :
    EF X cl (.ListComp elt [⟨tg, iter, [], 0⟩] scope pos) (flcM t (own.map (·.2)) mi me) := by
  obtain ⟨wi, hp, h⟩ := hi
  refine ⟨_, pe_lc (g := tgR X.K t) (te := cf X.K cl me) hc hN hp ok hg (fun s H C c fp => pts_nil) (fun s H C c fp => (he s H C c fp).pe) hs, fun M q os ev σ H d ev' hm rl Q k => ?_⟩
  obtain ⟨⟨ds, ev1⟩, h1, hm⟩ := bind_some' hm
  split at hm
  · next hcond =>
    obtain ⟨⟨ys, ev2⟩, h2, hm⟩ := bind_some' hm
    cases hm
    simp only at hcond h2
    refine h M q os ev σ H ds ev1 h1 rl _ fun J H1 t1 rl1 wk Dl hD => ?_
    have pinD : Dl ∉ os ++ M := fun z => rl1.tr _ z hD
    refine ⟨fun i m H' => m = ds.length - i ∧ i ≤ ds.length ∧ Tr q os H1 os H' ∧ ∃ vs acc rest evk, H' Dl = some (.lst vs) ∧ Reps X.K cl (hid (os ++ Dl :: M) H') vs acc ∧ acc.length ≤ i ∧ empAll evk (own.map (·.2)) ∧ Rl X.K cl (Dl :: M) q os evk σ H' ∧ flcGo t (own.map (·.2)) me (ds.drop i) evk = some (rest, ev2) ∧ ys = acc ++ rest,
      ⟨ds.length, by simp, Nat.zero_le _, .of_ex (Evl.Ex.new hD), [], [], ys, wipeE ev1 (own.map (·.2)), upd_same, Reps.nil, Nat.le_refl _, empAll_wipeE hcond.2, (rl1.hide (Evl.Ex.new hD) hD (by rw [upd_same]; simp)).unwipe hcond.2 rfl, by simpa using h2, rfl⟩, fun i m H2 ⟨em, hi, t2, vs, acc, rest, evk, g1, g2, g3, g4, g5, g6, g7⟩ => ?_⟩
    have xv : Ex (hid (os ++ M) H1) (hid (os ++ Dl :: M) H2) := fun a o ha => by
      obtain ⟨n1, n2⟩ := hid_some ha
      have : a ∉ os ++ Dl :: M := fun z => by
        rcases List.mem_append.1 z with z | z
        · exact n1 (List.mem_append_left _ z)
        · rcases List.mem_cons.1 z with rfl | z
          · rw [hD] at n2; cases n2
          · exact n1 (List.mem_append_right _ z)
      rw [hid_not this]
      exact t2.kp a o n2 (fun z => n1 (List.mem_append_left _ z)) fun z => n1 (List.mem_append_right _ (rl1.qm a z))
    obtain ⟨wk1, wk2⟩ := wk _ H2 xv g5.tr
    by_cases hlt : i < ds.length
    · refine .inr ⟨(wk1 i ds[i] (by simp [hlt])).1, fun H' => Tr q os H1 os H' ∧ ∃ vs acc rest evk, H' Dl = some (.lst vs) ∧ Reps X.K cl (hid (os ++ Dl :: M) H') vs acc ∧ acc.length ≤ i + 1 ∧ empAll evk (own.map (·.2)) ∧ Rl X.K cl (Dl :: M) q os evk σ H' ∧ flcGo t (own.map (·.2)) me (ds.drop (i + 1)) evk = some (rest, ev2) ∧ ys = acc ++ rest,
        fun H' ⟨y1, y2⟩ => ⟨ds.length - (i + 1), by omega, rfl, hlt, y1, y2⟩, fun x H3 hy => ?_⟩
      obtain ⟨x3, r3⟩ := (wk1 i ds[i] (by simp [hlt])).2 x H3 hy
      rw [List.drop_eq_getElem_cons hlt] at g6
      unfold flcGo at g6
      obtain ⟨eva, e1, g6⟩ := bind_some' g6
      obtain ⟨⟨y, evb⟩, e2, g6⟩ := bind_some' g6
      split at g6
      · next hpl =>
        obtain ⟨⟨zs, evz⟩, e3, g6⟩ := bind_some' g6
        cases g6
        have rl3 : Rl X.K cl (Dl :: M) q os evk (L2.wipe σ (own.map (·.2))) H3 := (g5.ex x3).towipe g4
        refine tg_ok e1 rl3 r3 fun σ' rl4 hw => ?_
        refine ⟨by rw [hw _ hsub, wipe_wipe _ _ fun _ h => h], ?_⟩
        simp only [tYes, if_true]
        refine ⟨Dl :: M, q, os, eva, y, evb, e2, rl4, fun u H4 t4 rl5 r5 => ?_⟩
        have hDos : Dl ∉ os := fun z => pinD (List.mem_append_left _ z)
        have hDq : q ≠ some Dl := fun z => pinD (List.mem_append_right _ (rl1.qm _ z))
        have k1 : H4 Dl = some (.lst vs) := t4.kp _ _ (x3 _ _ g1) hDos hDq
        have k2 : Reps X.K cl (hid (os ++ Dl :: M) H4) vs acc := (g2.mono (ex_hid x3)).mono (t4.view rl4)
        refine ⟨vs, k1, by rw [k2.length, sizeLine_eq]; have := hcond.1; omega, ?_, vs ++ [u], acc ++ [y], zs, wipeE evb (own.map (·.2)), upd_same, ?_, by rw [List.length_append]; simp; omega, empAll_wipeE hpl, ?_, e3, by rw [g7, List.append_assoc]; rfl⟩
        · have t5 : Tr q os H1 os H4 := (t2.trans (.of_ex x3)).trans t4
          refine ⟨fun a o ha n1 n2 => ?_, fun p hp => .inl hp, fun a o ha => ?_⟩
          · rw [upd_ne (ne_of_none ha hD)]
            exact t5.kp a o ha n1 n2
          · rw [upd_ne (ne_of_none ha hD)]
            exact t5.th a o ha
        · rw [hid_upd (by simp)]
          exact k2.append (Reps.cons r5 Reps.nil)
        · have rl6 : Rl X.K cl (Dl :: M) q os (wipeE evb (own.map (·.2))) σ H4 := rl5.unwipe hpl (by rw [hw _ hsub, wipe_wipe _ _ fun _ h => h])
          refine ⟨?_, rl6.nd, rl6.dj, fun a ha => ?_, rl6.qm⟩
          · rw [hid_upd (by simp)]
            refine rl6.sr.mono Ex0 fun a o ha hb => ?_
            rw [upd_ne fun z => by
              rcases ha with ha | ha
              · exact hDos (z ▸ ha)
              · exact hDq (z ▸ ha)]
            exact hb
          · by_cases hz : a = Dl
            · rw [hz, upd_same]; simp
            · rw [upd_ne hz]; exact rl6.tr a ha
      · cases g6
    · have e : i = ds.length := by omega
      subst e
      rw [List.drop_length] at g6
      cases g6
      rw [List.append_nil] at g7
      subst g7
      refine .inl ⟨wk2, k (.ref Dl) H2 (t1.trans t2) ?_ ?_⟩
      · refine ⟨g5.sr.mono (ex_le fun a ha => ?_) fun _ _ _ h => h, g5.nd, fun p hp z => g5.dj p hp (by simp [z]), fun a ha => g5.tr a ?_, rl1.qm⟩
        · rcases List.mem_append.1 ha with z | z
          · exact List.mem_append_left _ z
          · exact List.mem_append_right _ (by simp [z])
        · rcases List.mem_append.1 ha with z | z
          · exact List.mem_append_left _ z
          · exact List.mem_append_right _ (by simp [z])
      · refine rep_lst g1 pinD (g2.mono (ex_le fun a ha => ?_))
        rcases List.mem_cons.1 ha with rfl | z
        · simp
        · rcases List.mem_append.1 z with z | z
          · exact List.mem_append_left _ z
          · exact List.mem_append_right _ (by simp [z])
  · cases hm
end
/-! iterables that change what is owned: a value that is a list or tuple, a range up to such a number -/
section
variable {X : Cx} {cl : Str → Addr} {tg e a : Expr} {pos : Pos}
def fseq (m : Env' → Option (D × Env')) : Env' → Option (List D × Env') := fun ev => do
  let r ← m ev
  let ds ← iSeqD r.1
  some (ds, r.2)
theorem efi_seq {m : Env' → Option (D × Env')} (ha : EF X cl e m) : EFI X cl tg e (fseq m) := by
  obtain ⟨te, hp, h⟩ := ha
  refine ⟨_, pi_seq hp, fun M q os ev σ H ds ev' hm rl R k => ?_⟩
  obtain ⟨⟨d, ev1⟩, h1, hm⟩ := bind_some' hm
  obtain ⟨ds', h2, hm⟩ := bind_some' hm
  cases hm
  refine h M q os ev σ H d _ h1 rl _ fun v H1 t1 rl1 r1 => ?_
  simp only at h2
  unfold iSeqD at h2
  split at h2
  · cases h2
    obtain ⟨a, vs, rfl, g1, g2⟩ := rep_list.1 r1
    refine .inl ⟨a, rfl, ⟨vs, .of (hid_some g1).2⟩, k _ H1 t1 rl1 fun W' H2 x2 t2 => ?_⟩
    have h2 : SqL X.K H2 a vs := .of (hid_some (x2 _ _ g1)).2
    refine ⟨fun i d hd => ?_, ⟨vs, h2, Nat.le_of_eq g2.length⟩⟩
    obtain ⟨v, e1, e2⟩ := g2.get hd
    refine ⟨⟨vs, v, h2, e1⟩, fun x H3 ⟨y1, y2⟩ => ?_⟩
    subst y1
    have := (y2 vs h2).symm.trans e1
    cases this
    exact ⟨Ex0, e2.mono x2⟩
  · cases h2
    obtain ⟨a, vs, rfl, g1, g2⟩ := rep_tup.1 r1
    refine .inr ⟨a, rfl, ⟨vs, .of (hid_some g1).2⟩, k _ H1 t1 rl1 fun W' H2 x2 t2 => ?_⟩
    have h2 : SqT X.K H2 a vs := .of (hid_some (x2 _ _ g1)).2
    refine ⟨fun i d hd => ?_, ⟨vs, h2, Nat.le_of_eq g2.length⟩⟩
    obtain ⟨v, e1, e2⟩ := g2.get hd
    refine ⟨⟨vs, v, h2, e1⟩, fun x H3 ⟨y1, y2⟩ => ?_⟩
    subst y1
    have := (y2 vs h2).symm.trans e1
    cases this
    exact ⟨Ex0, e2.mono x2⟩
  · cases h2
def frg1 (m : Env' → Option (D × Env')) : Env' → Option (List D × Env') := fun ev => match m ev with
  | some (.int b, ev') => if rgB 0 b = true then some ((rgI 0 b).map D.int, ev') else none
  | _ => none
theorem efi_rg1 {p : Pos} {m : Env' → Option (D × Env')} (hg : Gl X "range") (hm : X.mg "range" = none) (ha : EF X cl a m) (hs : starEach [a] X.env = [(false, eval a X.env)] := by rfl) : EFI X cl tg (.Call (.Name "range" p) [a] [] pos) (frg1 m) := by
  obtain ⟨te, hp, h⟩ := ha
  refine ⟨_, pi_range1 hg hm (pa_cons hp pa_nil hs) hs, fun M q os ev σ H ds ev' hm rl R k => ?_⟩
  unfold frg1 at hm
  split at hm
  · next b ev1 h1 =>
    split at hm
    · next hc =>
      cases hm
      refine h M q os ev σ H _ _ h1 rl _ fun v H1 t1 rl1 r1 => ?_
      rw [rep_int.1 r1]
      refine ⟨b, rfl, (rgB_ok hc).2.2.1, (rgB_ok hc).2.2.2, k _ H1 t1 rl1 ?_⟩
      have := walk_rg (cl := cl) (K := X.K) (W := os ++ M) (H := H1) 0 b
      rw [Int.sub_zero] at this
      exact this
    · cases hm
  · cases hm
end
end Lay

namespace Lay
open PySem PySem.Spec PyProof.Rows L2
open Evl (Ex)
/-! ### statements -/
inductive Rt where
  | val (d : D) | own (xs : List D)
inductive Fl where
  | nx | bk | ct | ret (r : Rt)
abbrev SM := Env' → Option (Fl × Env')
def Post (K : Fg) (cl : Str → Addr) (M : List Addr) (q : Option Addr) (os : List Addr) (H : Hp) (f : Fl) (ev' : Env') (E : Ends) : Prop := match f with
  | .nx => ∀ os' σ' H', Tr q os H os' H' → Rl K cl M q os' ev' σ' H' → E.nx σ' H'
  | .bk => ∀ os' σ' H', Tr q os H os' H' → Rl K cl M q os' ev' σ' H' → E.bk σ' H'
  | .ct => ∀ os' σ' H', Tr q os H os' H' → Rl K cl M q os' ev' σ' H' → E.ct σ' H'
  | .ret (.val d) => ∀ os' σ' H' v, Tr q os H os' H' → Rl K cl M q os' ev' σ' H' → Rep K cl (hid M H') v d → E.rt v H'
  | .ret (.own xs) => ∀ os' σ' H' p vs, Tr q os H os' H' → Rl K cl M q os' ev' σ' H' → (p ∈ os ∨ H p = none) → p ∉ M → H' p = some (.lst vs) → Reps K cl (hid (p :: M) H') vs xs → E.rt (.ref p) H'
theorem Post.from {K : Fg} {cl : Str → Addr} {M : List Addr} {q : Option Addr} {os os1 : List Addr} {H H1 : Hp} {f : Fl} {ev' : Env'} {E : Ends} (t : Tr q os H os1 H1) (h : Post K cl M q os H f ev' E) : Post K cl M q os1 H1 f ev' E := by
  cases f with
  | nx => exact fun os' σ' H' t' r => h os' σ' H' (t.trans t') r
  | bk => exact fun os' σ' H' t' r => h os' σ' H' (t.trans t') r
  | ct => exact fun os' σ' H' t' r => h os' σ' H' (t.trans t') r
  | ret r =>
    cases r with
    | val d => exact fun os' σ' H' v t' r r' => h os' σ' H' v (t.trans t') r r'
    | own xs =>
      refine fun os' σ' H' p vs t' r hp hm h1 h2 => h os' σ' H' p vs (t.trans t') r ?_ hm h1 h2
      rcases hp with z | z
      · exact t.ow p z
      · refine .inr ?_
        cases e : H p with
        | none => rfl
        | some o => exact absurd z (t.th p o e)
section
variable (X : Cx) (cl : Str → Addr)
def S1 (st : Stmt) (m : SM) : Prop :=
  ∃ ts, PS X st ts ∧ ∀ M q os ev σ H f ev', m ev = some (f, ev') → Rl X.K cl M q os ev σ H → ∀ E : Ends, Post X.K cl M q os H f ev' E → ts E σ H
def SS (sts : List Stmt) (m : SM) : Prop :=
  ∃ ts, PSs X sts ts ∧ ∀ M q os ev σ H f ev', m ev = some (f, ev') → Rl X.K cl M q os ev σ H → ∀ E : Ends, Post X.K cl M q os H f ev' E → ts E σ H
end
def sseq (m n : SM) : SM := fun ev => match m ev with
  | some (.nx, ev1) => n ev1
  | some (.ret r, ev1) => some (.ret r, ev1)
  | some (.bk, ev1) => some (.bk, ev1)
  | some (.ct, ev1) => some (.ct, ev1)
  | none => none
def snx : SM := fun ev => some (.nx, ev)
section
variable {X : Cx} {cl : Str → Addr} {e c : Expr} {pos : Pos} {st : Stmt} {rest : List Stmt} {m n : SM}
theorem ss_nil : SS X cl [] snx := ⟨_, pss_nil, fun M q os ev σ H f ev' hm rl E k => by
  cases hm
  exact k os σ H .refl rl⟩
theorem ss_cons (h : S1 X cl st m) (t : SS X cl rest n) : SS X cl (st :: rest) (sseq m n) := by
  obtain ⟨ts, hp, h⟩ := h
  obtain ⟨tt, tp, t⟩ := t
  refine ⟨_, pss_cons hp tp, fun M q os ev σ H f ev' hm rl E k => ?_⟩
  unfold sseq at hm
  show ts { E with nx := tt E } σ H
  split at hm
  · next ev1 h1 => exact h M q os ev σ H _ _ h1 rl _ fun os1 σ1 H1 t1 rl1 => t M q os1 ev1 σ1 H1 f ev' hm rl1 E (k.from t1)
  · next r ev1 h1 =>
    cases hm
    refine h M q os ev σ H _ _ h1 rl _ ?_
    cases r with
    | val d => exact k
    | own xs => exact k
  · next ev1 h1 =>
    cases hm
    exact h M q os ev σ H _ _ h1 rl _ k
  · next ev1 h1 =>
    cases hm
    exact h M q os ev σ H _ _ h1 rl _ k
  · cases hm
theorem ss_one (h : S1 X cl st m) : SS X cl [st] m := by
  obtain ⟨ts, hp, h⟩ := h
  exact ⟨_, pss_one hp, h⟩
/-- what a slot owns is told as a value from here on -/
def frz (i : Nat) (ev : Env') : Env' := match ev[i]? with
  | some (.own xs) => ev.set i (.val (.lst xs))
  | _ => ev
section
variable {K : Fg} {q : Option Addr} {os M : List Addr} {V H H' : Hp} {σ : L2.St} {ev : Env'}
theorem Rl.frz {i : Nat} (r : Rl K cl M q os ev σ H) : ∃ os', Tr q os H os' H ∧ Rl K cl M q os' (Lay.frz i ev) σ H := by
  unfold Lay.frz
  split
  · next xs hx =>
    obtain ⟨p, vs, h1, h2, h3, h4⟩ := r.sr.get_own hx
    -- the view in which p is seen
    let V' := hid ((os.erase p) ++ M) H
    have sub : ∀ a, a ∈ os.erase p → a ∈ os := fun a ha => List.mem_of_mem_erase ha
    have np : p ∉ os.erase p := fun z => (List.Nodup.mem_erase_iff r.nd).1 z |>.1 rfl
    have ve : Ex (hid (os ++ M) H) V' := ex_le fun a ha => by
      rcases List.mem_append.1 ha with z | z
      · exact List.mem_append_left _ (sub a z)
      · exact List.mem_append_right _ z
    have hr : Rep K cl V' (.ref p) (.lst xs) := rep_list.2 ⟨p, vs, rfl, by
      show hid _ _ _ = _
      rw [hid_not]
      · exact h3
      · intro z
        rcases List.mem_append.1 z with z | z
        · exact np z
        · exact r.dj p h2 z, h4.mono ve⟩
    have key : ∀ {V : Hp} {e : Env'} {σ : L2.St} {os : List Addr}, SR K cl V H q e σ os → ∀ {i : Nat}, e[i]? = some (.own xs) → σ[i]? = some (some (.ref p)) → os.Nodup → Rep K cl V (.ref p) (.lst xs) → SR K cl V H q (e.set i (.val (.lst xs))) σ (os.erase p) := by
      intro V e σ os h
      induction h with
      | nil => intro i h; simp at h
      | emp h ih => intro i h1 h2 nd rr; cases i with
        | zero => simp at h1
        | succ i => exact .emp (ih (by simpa using h1) (by simpa using h2) nd rr)
      | val r h ih => intro i h1 h2 nd rr; cases i with
        | zero => simp at h1
        | succ i => exact .val r (ih (by simpa using h1) (by simpa using h2) nd rr)
      | @own p' vs' xs' e σ os g1 g2 h ih => intro i h1 h2 nd rr; cases i with
        | zero =>
          simp at h1 h2
          subst h1; subst h2
          rw [List.erase_cons_head]
          exact .val rr h
        | succ i =>
          obtain ⟨n1, n2⟩ := List.nodup_cons.1 nd
          have hp : p ∈ os := by
            obtain ⟨y, _, b1, b2, _⟩ := h.get_own (i := i) (by simpa using h1)
            have : σ[i]? = some (some (.ref p)) := by simpa using h2
            rw [this] at b1; cases b1; exact b2
          have hne : ¬ (p' == p) = true := fun z => n1 (by rw [eq_of_beq z]; exact hp)
          rw [List.erase_cons_tail hne]
          exact .own g1 g2 (ih (by simpa using h1) (by simpa using h2) n2 rr)
      | par hq g1 g2 h ih => intro i h1 h2 nd rr; cases i with
        | zero => simp at h1
        | succ i => exact .par hq g1 g2 (ih (by simpa using h1) (by simpa using h2) nd rr)
    refine ⟨os.erase p, ⟨fun a o h _ _ => h, fun a ha => .inl (sub a ha), fun a o h => by rw [h]; simp⟩, key (r.sr.mono ve fun _ _ _ h => h) hx h1 r.nd hr, r.nd.erase p, fun a ha => r.dj a (sub a ha), fun a ha => r.tr a ?_, r.qm⟩
    rcases List.mem_append.1 ha with z | z
    · exact List.mem_append_left _ (sub a z)
    · exact List.mem_append_right _ z
  · exact ⟨os, .refl, r⟩
end
theorem ss_frz {i : Nat} {sts : List Stmt} (h : SS X cl sts m) : SS X cl sts (fun ev => m (frz i ev)) := by
  obtain ⟨ts, hp, h⟩ := h
  refine ⟨_, hp, fun M q os ev σ H f ev' hm rl E k => ?_⟩
  obtain ⟨os', t, rl'⟩ := rl.frz (i := i)
  exact h M q os' _ σ H f ev' hm rl' E (k.from t)

/-! assignments -/
/-- the view that is left when less is owned -/
theorem Rl.of_sr {K : Fg} {q : Option Addr} {os' W M : List Addr} {H : Hp} {σ : L2.St} {ev : Env'} (h : SR K cl (hid W H) H q ev σ os') (nd : os'.Nodup) (sub : ∀ a ∈ os' ++ M, a ∈ W) (dj : ∀ p ∈ os', p ∉ M) (tr : ∀ a ∈ W, H a ≠ none) (qm : ∀ a, q = some a → a ∈ M) : Rl K cl M q os' ev σ H :=
  ⟨h.mono (ex_le sub) fun _ _ _ h => h, nd, dj, fun a ha => tr a (sub a ha), qm⟩
theorem Rl.put_val {K : Fg} {q : Option Addr} {os M : List Addr} {H : Hp} {σ : L2.St} {ev : Env'} {v : L2.V} {d : D} (i : Nat) (r : Rl K cl M q os ev σ H) (h : Rep K cl (hid (os ++ M) H) v d) : ∃ os', Tr q os H os' H ∧ Rl K cl M q os' (ev.set i (.val d)) (σ.set i (some v)) H := by
  obtain ⟨os', a, b, c⟩ := r.sr.set_val h i
  refine ⟨os', ⟨fun a o h _ _ => h, fun p hp => .inl (a p hp), fun a o h => by rw [h]; simp⟩, Rl.of_sr c (b r.nd) (fun x hx => ?_) (fun p hp => r.dj p (a p hp)) r.tr r.qm⟩
  rcases List.mem_append.1 hx with z | z
  · exact List.mem_append_left _ (a x z)
  · exact List.mem_append_right _ z
theorem Rl.put_own {K : Fg} {q : Option Addr} {os M : List Addr} {H H' : Hp} {σ : L2.St} {ev : Env'} {p : Addr} {vs : List L2.V} {xs : List D} {i : Nat} (hi : i < ev.length) (r : Rl K cl M q os ev σ H) (hn : H p = none) (x : Ex H H') (hp : H' p = some (.lst vs)) (h : Reps K cl (hid (p :: (os ++ M)) H') vs xs) :
    ∃ os', Tr q os H os' H' ∧ Rl K cl M q os' (ev.set i (.own xs)) (σ.set i (some (.ref p))) H' := by
  have pn : p ∉ os ++ M := fun z => r.tr p z hn
  have s1 : SR K cl (hid (p :: (os ++ M)) H') H' q ev σ os := r.sr.mono (ex_sub (fun a o h _ => x a o h) fun a ha => by
    rcases List.mem_cons.1 ha with rfl | z
    · exact .inr hn
    · exact .inl z) fun a o _ h => x a o h
  obtain ⟨os', a, b, c, s2⟩ := s1.set_own hp h i hi
  have t : Tr q os H os' H' := ⟨fun a o h _ _ => x a o h, fun y hy => (a y hy).elim (fun z => .inr (z ▸ hn)) .inl, fun a o h => by rw [x a o h]; simp⟩
  refine ⟨os', t, Rl.of_sr s2 (c (fun z => pn (List.mem_append_left _ z)) r.nd) (fun y hy => ?_) (fun y hy z => ?_) (fun y hy => ?_) r.qm⟩
  · rcases List.mem_append.1 hy with z | z
    · rcases a y z with z | z
      · simp [z]
      · simp [z]
    · simp [z]
  · rcases a y hy with w | w
    · exact pn (List.mem_append_right _ (w ▸ z))
    · exact r.dj y w z
  · rcases List.mem_cons.1 hy with rfl | z
    · rw [hp]; simp
    · exact (r.ex x).tr y z
def sasg (i : Nat) (m : Env' → Option (D × Env')) : SM := fun ev => do
  let r ← m ev
  some (.nx, r.2.set i (.val r.1))
theorem s_set {i : Nat} {x : Str} {pos' : Pos} {me : Env' → Option (D × Env')} (h : LocAt X i x) (he : EF X cl e me) (hs : swapsWith e (some (.Name x pos')) pos.line X.env = pure false := by rfl) : S1 X cl (.Assign [.Name x pos'] e pos) (sasg i me) := by
  obtain ⟨te, hp, he⟩ := he
  refine ⟨_, ps_set h.nd h.ix h.loc hp hs h.fn, fun M q os ev σ H f ev' hm rl E k => ?_⟩
  obtain ⟨⟨d, ev1⟩, h1, hm⟩ := bind_some' hm
  cases hm
  refine he M q os ev σ H d ev1 h1 rl _ fun v H1 t1 rl1 r1 => ?_
  obtain ⟨os', t2, rl2⟩ := rl1.put_val i r1
  exact k os' _ H1 (t1.trans t2) rl2
def sasgO (i : Nat) (m : Env' → Option (List D)) : SM := fun ev => do
  let r ← m ev
  if i < ev.length then some (.nx, ev.set i (.own r)) else none
theorem s_setO {i : Nat} {x : Str} {pos' : Pos} {me : Env' → Option (List D)} (h : LocAt X i x) (he : EO true X cl e me) (hs : swapsWith e (some (.Name x pos')) pos.line X.env = pure false := by rfl) : S1 X cl (.Assign [.Name x pos'] e pos) (sasgO i me) := by
  obtain ⟨te, hp, he⟩ := he
  refine ⟨_, ps_set h.nd h.ix h.loc hp hs h.fn, fun M q os ev σ H f ev' hm rl E k => ?_⟩
  obtain ⟨d, h1, hm⟩ := bind_some' hm
  split at hm
  · next hi =>
    cases hm
    refine he M q os ev σ H d h1 rl _ fun p H1 vs hn x1 g1 g2 => ?_
    obtain ⟨os', t2, rl2⟩ := rl.put_own hi hn x1 g1 g2
    exact k os' _ H1 t2 rl2
  · cases hm
/-- name = [.. for ..] on one line -/
theorem s_setLc {v fl : Bool} {i : Nat} {x : Str} {py : Pos} {elt tg iter : Expr} {ifs : List Expr} {scope : Scope} {own : List (Str × Nat)} {pos' : Pos} {mi : Env' → Option (List D)} {mt : Env' → Option Bool} {me : Env' → Option D} {t : Tgt}
    (h : LocAt X i x) (hyl : X.env.scope.names.lookup x = some .local) (hsw : swapsWith (.ListComp elt [⟨tg, iter, ifs, 0⟩] scope pos) (some (.Name x py)) pos'.line X.env = pure true)
    (hv : v = true ∨ fl = true) (hc : X.calm = true) (hi : EI v X cl tg iter mi) (ok : BlkOk X.N X.env.scope scope own) (hsub : ∀ i ∈ t.slots, i ∈ own.map (·.2))
    (hg : ∀ (s : Shared) (H : Hp) (C : Addr) (c : List (Str × Addr)) (fp : List Addr), PGT (X.blk s H scope (compEnvC scope c C X.env) fp) tg t) (ht : ∀ (s : Shared) (H : Hp) (C : Addr) (c : List (Str × Addr)) (fp : List Addr), ETs (X.blk s H scope (compEnvC scope c C X.env) fp) cl ifs mt)
    (he : ∀ (s : Shared) (H : Hp) (C : Addr) (c : List (Str × Addr)) (fp : List Addr), EV true (X.blk s H scope (compEnvC scope c C X.env) fp) cl elt me) (hs : ∀ x, foldedSetIterable iter X.env x = pure x := by intro _; rfl) :
    S1 X cl (.Assign [.Name x py] (.ListComp elt [⟨tg, iter, ifs, 0⟩] scope pos) pos') (sasgO i (lcM fl t (own.map (·.2)) mi mt me)) := by
  obtain ⟨wi, hp, hi⟩ := hi
  refine ⟨_, ps_setLc (g := tgR X.K t) (tt := ct X.K cl mt) (te := cv true X.K cl me) hc h.nd h.ix hyl hsw hp ok hg (fun s H C c fp => ht s H C c fp) (fun s H C c fp => (he s H C c fp).pe) hs, fun M q os ev σ H f ev' hm rl E k => ?_⟩
  obtain ⟨d, h1, hm⟩ := bind_some' hm
  split at hm
  · next hi' =>
    cases hm
    refine lc_read (w := true) hv hi hsub M q os ev σ H d h1 rl _ fun p H1 vs hn x1 g1 g2 => ?_
    obtain ⟨os', t2, rl2⟩ := rl.put_own hi' hn x1 g1 g2
    exact k os' _ H1 t2 rl2
  · cases hm
/-- several names at once: values, new lists -/
inductive MR where
  | val (d : D) | own (xs : List D)
inductive MRs (K : Fg) (cl : Str → Addr) (V H : Hp) : List MR → List L2.V → List Addr → Prop
  | nil : MRs K cl V H [] [] []
  | val {d v rs vs ps} : Rep K cl V v d → MRs K cl V H rs vs ps → MRs K cl V H (.val d :: rs) (v :: vs) ps
  | own {xs p us rs vs ps} : H p = some (.lst us) → Reps K cl V us xs → MRs K cl V H rs vs ps → MRs K cl V H (.own xs :: rs) (.ref p :: vs) (p :: ps)
def EM (X : Cx) (cl : Str → Addr) (es : List Expr) (m : Env' → Option (List MR × Env')) : Prop :=
  ∃ ta, PA X es ta ∧ ∀ M q os ev σ H rs ev', m ev = some (rs, ev') → Rl X.K cl M q os ev σ H → ∀ Q : List L2.V → Hp → Prop,
    (∀ vs H' ps, Tr q os H os H' → (∀ p ∈ ps, H p = none ∧ p ∉ M) → ps.Nodup → Rl X.K cl (ps ++ M) q os ev' σ H' → MRs X.K cl (hid (os ++ (ps ++ M)) H') H' rs vs ps → Q vs H') → ta σ H Q
theorem MRs.mono {K : Fg} {V V' H H' : Hp} {rs : List MR} {vs : List L2.V} {ps : List Addr} (h : MRs K cl V H rs vs ps) (v : Ex V V') (k : ∀ p o, p ∈ ps → H p = some o → H' p = some o) : MRs K cl V' H' rs vs ps := by
  induction h with
  | nil => exact .nil
  | val r _ ih => exact .val (r.mono v) (ih k)
  | own h1 h2 _ ih => exact .own (k _ _ (by simp) h1) (h2.mono v) (ih fun p o hp => k p o (by simp [hp]))
theorem em_nil : EM X cl [] (fun ev => some ([], ev)) := by
  refine ⟨_, pa_nil, fun M q os ev σ H rs ev' hm rl Q k => ?_⟩
  cases hm
  exact k [] H [] .refl (by simp) (by simp) rl .nil
def emV (m : Env' → Option (D × Env')) (n : Env' → Option (List MR × Env')) : Env' → Option (List MR × Env') := fun ev => do
  let r ← m ev
  let s ← n r.2
  some (.val r.1 :: s.1, s.2)
def emO (m : Env' → Option (List D)) (n : Env' → Option (List MR × Env')) : Env' → Option (List MR × Env') := fun ev => do
  let r ← m ev
  let s ← n ev
  some (.own r :: s.1, s.2)
theorem em_val {es : List Expr} {me : Env' → Option (D × Env')} {mr : Env' → Option (List MR × Env')} (h : EF X cl e me) (t : EM X cl es mr) (hs : starEach (e :: es) X.env = (false, eval e X.env) :: starEach es X.env := by rfl) : EM X cl (e :: es) (emV me mr) := by
  obtain ⟨te, hp, h⟩ := h
  obtain ⟨tr, hr, t⟩ := t
  refine ⟨_, pa_cons hp hr hs, fun M q os ev σ H rs ev' hm rl Q k => ?_⟩
  obtain ⟨⟨d1, ev1⟩, h1, hm⟩ := bind_some' hm
  obtain ⟨⟨d2, ev2⟩, h2, hm⟩ := bind_some' hm
  cases hm
  refine h M q os ev σ H d1 ev1 h1 rl _ fun v H1 t1 rl1 r1 => t M q os ev1 σ H1 d2 _ h2 rl1 _ fun vs H2 ps t2 g1 g2 rl2 r2 => ?_
  refine k (v :: vs) H2 ps (t1.trans t2) (fun p hp => ⟨?_, (g1 p hp).2⟩) g2 rl2 (.val (r1.mono fun a o ha => ?_) r2)
  · cases e : H p with
    | none => rfl
    | some o => exact absurd (g1 p hp).1 (t1.th p o e)
  · obtain ⟨n1, n2⟩ := hid_some ha
    have n3 : a ∉ os ++ (ps ++ M) := fun z => by
      rcases List.mem_append.1 z with z | z
      · exact n1 (List.mem_append_left _ z)
      · rcases List.mem_append.1 z with z | z
        · rw [(g1 a z).1] at n2; cases n2
        · exact n1 (List.mem_append_right _ z)
    rw [hid_not n3]
    exact t2.kp a o n2 (fun z => n1 (List.mem_append_left _ z)) fun z => n1 (List.mem_append_right _ (rl1.qm a z))
theorem em_own {es : List Expr} {me : Env' → Option (List D)} {mr : Env' → Option (List MR × Env')} (h : EO true X cl e me) (t : EM X cl es mr) (hs : starEach (e :: es) X.env = (false, eval e X.env) :: starEach es X.env := by rfl) : EM X cl (e :: es) (emO me mr) := by
  obtain ⟨te, hp, h⟩ := h
  obtain ⟨tr, hr, t⟩ := t
  refine ⟨_, pa_cons hp hr hs, fun M q os ev σ H rs ev' hm rl Q k => ?_⟩
  obtain ⟨d1, h1, hm⟩ := bind_some' hm
  obtain ⟨⟨d2, ev2⟩, h2, hm⟩ := bind_some' hm
  cases hm
  refine h M q os ev σ H d1 h1 rl _ fun p H1 us hn x1 g1 g2 => ?_
  have rl1 : Rl X.K cl (p :: M) q os ev σ H1 := rl.hide x1 hn (by rw [g1]; simp)
  have pos' : p ∉ os := fun z => rl.tr p (List.mem_append_left _ z) hn
  have pM : p ∉ M := fun z => rl.tr p (List.mem_append_right _ z) hn
  have pq : q ≠ some p := fun z => pM (rl.qm p z)
  refine t (p :: M) q os ev σ H1 d2 _ h2 rl1 _ fun vs H2 ps t2 k1 k2 rl2 r2 => ?_
  have hset : ∀ a, a ∈ os ++ ((p :: ps) ++ M) ↔ a ∈ os ++ (ps ++ p :: M) := fun a => by simp only [List.mem_append, List.mem_cons]; grind
  refine k (.ref p :: vs) H2 (p :: ps) ((Tr.of_ex x1).trans t2) (fun y hy => ?_) (List.nodup_cons.2 ⟨fun z => (k1 p z).2 (by simp), k2⟩) ⟨rl2.sr.mono (ex_le fun a ha => (hset a).1 ha) fun _ _ _ h => h, rl2.nd, fun y hy z => rl2.dj y hy (by simp only [List.mem_append, List.mem_cons] at z ⊢; grind), fun a ha => rl2.tr a ((hset a).1 ha), fun a ha => List.mem_append_right _ (rl.qm a ha)⟩ (.own (t2.kp p _ g1 pos' pq) (g2.mono ?_) (r2.mono (ex_le fun a ha => (hset a).1 ha) fun _ _ _ h => h))
  · rcases List.mem_cons.1 hy with rfl | z
    · exact ⟨hn, pM⟩
    · refine ⟨?_, fun w => (k1 y z).2 (by simp [w])⟩
      cases e : H y with
      | none => rfl
      | some o =>
        have := (k1 y z).1
        rw [x1 y o e] at this
        cases this
  · intro a o ha
    obtain ⟨n1, n2⟩ := hid_some ha
    have n1' : a ≠ p ∧ a ∉ os ∧ a ∉ M := by
      refine ⟨fun z => n1 (by simp [z]), fun z => n1 ?_, fun z => n1 ?_⟩
      · exact List.mem_cons_of_mem _ (List.mem_append_left _ z)
      · exact List.mem_cons_of_mem _ (List.mem_append_right _ z)
    have n3 : a ∉ os ++ ((p :: ps) ++ M) := fun z => by
      rcases List.mem_append.1 z with z | z
      · exact n1'.2.1 z
      · rcases List.mem_append.1 z with z | z
        · rcases List.mem_cons.1 z with z | z
          · exact n1'.1 z
          · rw [(k1 a z).1] at n2; cases n2
        · exact n1'.2.2 z
    rw [hid_not n3]
    exact t2.kp a o n2 n1'.2.1 fun z => n1'.2.2 (rl.qm a z)
def putMR (ev : Env') : List Nat → List MR → Env'
  | i :: is, .val d :: rs => putMR (ev.set i (.val d)) is rs
  | i :: is, .own xs :: rs => putMR (ev.set i (.own xs)) is rs
  | _, _ => ev
theorem Rl.putMR {K : Fg} {q : Option Addr} {W : List Addr} {H : Hp} : ∀ {is : List Nat} {rs : List MR} {vs : List L2.V} {ps : List Addr} {ev : Env'} {σ : L2.St} {os : List Addr}, SR K cl (hid W H) H q ev σ os → os.Nodup → (∀ i ∈ is, i < ev.length) → MRs K cl (hid W H) H rs vs ps → ps.Nodup → (∀ p ∈ ps, p ∉ os) →
    ∃ os', (∀ p ∈ os', p ∈ os ∨ p ∈ ps) ∧ os'.Nodup ∧ SR K cl (hid W H) H q (Lay.putMR ev is rs) (Lay.putV σ is vs) os'
  | [], rs, vs, ps, ev, σ, os, h, nd, hi, hr, np, dj => ⟨os, fun _ z => .inl z, nd, by cases rs <;> cases vs <;> exact h⟩
  | i :: is, [], vs, ps, ev, σ, os, h, nd, hi, hr, np, dj => by
    cases hr
    exact ⟨os, fun _ z => .inl z, nd, h⟩
  | i :: is, .val d :: rs, vs, ps, ev, σ, os, h, nd, hi, hr, np, dj => by
    cases hr with
    | val r hr =>
      obtain ⟨os1, a, b, c⟩ := h.set_val r i
      obtain ⟨os2, a2, b2, c2⟩ := Rl.putMR (is := is) (rs := rs) c (b nd) (fun j hj => by rw [List.length_set]; exact hi j (by simp [hj])) hr np fun p hp z => dj p hp (a p z)
      exact ⟨os2, fun p hp => (a2 p hp).imp (a p) id, b2, c2⟩
  | i :: is, .own xs :: rs, vs, ps, ev, σ, os, h, nd, hi, hr, np, dj => by
    cases hr with
    | @own _ p us _ vs ps h1 h2 hr =>
      obtain ⟨n1, n2⟩ := List.nodup_cons.1 np
      obtain ⟨os1, a, a', b, c⟩ := h.set_own h1 h2 i (hi i (by simp))
      have nd1 := b (dj p (by simp)) nd
      obtain ⟨os2, a2, b2, c2⟩ := Rl.putMR (is := is) (rs := rs) c nd1 (fun j hj => by rw [List.length_set]; exact hi j (by simp [hj])) hr n2 fun y hy z => by
        rcases a y z with w | w
        · exact n1 (w ▸ hy)
        · exact dj y (by simp [hy]) w
      refine ⟨os2, fun y hy => ?_, b2, c2⟩
      rcases a2 y hy with z | z
      · rcases a y z with w | w
        · exact .inr (by simp [w])
        · exact .inl w
      · exact .inr (by simp [z])
theorem Rl.multi {K : Fg} {q : Option Addr} {M os ps : List Addr} {H H' : Hp} {is : List Nat} {rs : List MR} {vs : List L2.V} {ev : Env'} {σ : L2.St} (t : Tr q os H os H') (g : ∀ p ∈ ps, H p = none ∧ p ∉ M) (np : ps.Nodup) (rl : Rl K cl (ps ++ M) q os ev σ H') (h0 : ∀ a ∈ os, H a ≠ none) (qm : ∀ a, q = some a → a ∈ M) (r : MRs K cl (hid (os ++ (ps ++ M)) H') H' rs vs ps) (hi : ∀ i ∈ is, i < ev.length) :
    ∃ os', Tr q os H os' H' ∧ Rl K cl M q os' (Lay.putMR ev is rs) (Lay.putV σ is vs) H' := by
  obtain ⟨os', a, b, c⟩ := Rl.putMR (is := is) rl.sr rl.nd hi r np fun p hp z => h0 p z (g p hp).1
  refine ⟨os', ⟨t.kp, fun p hp => (a p hp).imp id fun z => (g p z).1, t.th⟩, Rl.of_sr c b (fun x hx => ?_) (fun p hp z => ?_) rl.tr qm⟩
  · rcases List.mem_append.1 hx with z | z
    · rcases a x z with w | w
      · exact List.mem_append_left _ w
      · exact List.mem_append_right _ (List.mem_append_left _ w)
    · exact List.mem_append_right _ (List.mem_append_right _ z)
  · rcases a p hp with w | w
    · exact rl.dj p w (List.mem_append_right _ z)
    · exact (g p w).2 z
def smul (is : List Nat) (m : Env' → Option (List MR × Env')) : SM := fun ev => do
  let r ← m ev
  if r.1.length = is.length ∧ is.all (fun i => decide (i < r.2.length)) = true then some (.nx, putMR r.2 is r.1) else none
theorem MRs.len {K : Fg} {V H : Hp} {rs : List MR} {vs : List L2.V} {ps : List Addr} (h : MRs K cl V H rs vs ps) : vs.length = rs.length := by
  induction h with
  | nil => rfl
  | val _ _ ih => simp [ih]
  | own _ _ _ ih => simp [ih]
theorem s_par {i j : Nat} {x y : Str} {a b : Expr} {px py pt : Pos} {kt k2 pt2} {me : Env' → Option (List MR × Env')} (hc : X.calm = true) (hx' : LocAt X i x) (hy' : LocAt X j y) (hij : i ≠ j)
    (hx : X.env.scope.names.lookup x = some .local) (hy : X.env.scope.names.lookup y = some .local) (ha : EM X cl [a, b] me)
    (hw : swappedStores [.Tuple [.Name x px, .Name y py] kt pt] (.Tuple [a, b] k2 pt2) X.env = pure (some [x, y]) := by rfl)
    (hs : swapsWithSole [.Tuple [.Name x px, .Name y py] kt pt] (.Tuple [a, b] k2 pt2) pos.line X.env = pure false := by rfl) :
    S1 X cl (.Assign [.Tuple [.Name x px, .Name y py] kt pt] (.Tuple [a, b] k2 pt2) pos) (smul [i, j] me) := by
  obtain ⟨ta, pa, ha⟩ := ha
  refine ⟨_, ps_par hc hx'.nd hx'.ix hy'.ix hij hx hy pa hw hs, fun M q os ev σ H f ev' hm rl E k => ?_⟩
  obtain ⟨⟨rs, ev1⟩, h1, hm⟩ := bind_some' hm
  split at hm
  · next hcd =>
    cases hm
    simp only at hcd
    refine ha M q os ev σ H rs ev1 h1 rl _ fun vs H1 ps t1 g1 g2 rl1 r1 => ?_
    have hl := r1.len
    rw [hcd.1] at hl
    match vs, hl with
    | [v, w], _ =>
      refine ⟨v, w, rfl, ?_⟩
      obtain ⟨os', t2, rl2⟩ := Rl.multi (is := [i, j]) t1 g1 g2 rl1 (fun a ha => rl.tr a (List.mem_append_left _ ha)) rl.qm r1 fun z hz => of_decide_eq_true (List.all_eq_true.1 hcd.2 z hz)
      exact k os' _ H1 t2 rl2
  · cases hm
theorem s_par3 {i j l : Nat} {x y z : Str} {a b c : Expr} {px py pz pt : Pos} {kt k2 pt2} {me : Env' → Option (List MR × Env')} (hc : X.calm = true) (hx' : LocAt X i x) (hy' : LocAt X j y) (hz' : LocAt X l z) (hij : i ≠ j) (hil : i ≠ l) (hjl : j ≠ l)
    (hx : X.env.scope.names.lookup x = some .local) (hy : X.env.scope.names.lookup y = some .local) (hz : X.env.scope.names.lookup z = some .local) (ha : EM X cl [a, b, c] me)
    (hw : swappedStores [.Tuple [.Name x px, .Name y py, .Name z pz] kt pt] (.Tuple [a, b, c] k2 pt2) X.env = pure (some [x, y, z]) := by rfl)
    (hs : swapsWithSole [.Tuple [.Name x px, .Name y py, .Name z pz] kt pt] (.Tuple [a, b, c] k2 pt2) pos.line X.env = pure false := by rfl) :
    S1 X cl (.Assign [.Tuple [.Name x px, .Name y py, .Name z pz] kt pt] (.Tuple [a, b, c] k2 pt2) pos) (smul [i, j, l] me) := by
  obtain ⟨ta, pa, ha⟩ := ha
  refine ⟨_, ps_par3 hc hx'.nd hx'.ix hy'.ix hz'.ix hij hil hjl hx hy hz pa hw hs, fun M q os ev σ H f ev' hm rl E k => ?_⟩
  obtain ⟨⟨rs, ev1⟩, h1, hm⟩ := bind_some' hm
  split at hm
  · next hcd =>
    cases hm
    simp only at hcd
    refine ha M q os ev σ H rs ev1 h1 rl _ fun vs H1 ps t1 g1 g2 rl1 r1 => ?_
    have hl := r1.len
    rw [hcd.1] at hl
    match vs, hl with
    | [u, v, w], _ =>
      refine ⟨u, v, w, rfl, ?_⟩
      obtain ⟨os', t2, rl2⟩ := Rl.multi (is := [i, j, l]) t1 g1 g2 rl1 (fun a ha => rl.tr a (List.mem_append_left _ ha)) rl.qm r1 fun z hz => of_decide_eq_true (List.all_eq_true.1 hcd.2 z hz)
      exact k os' _ H1 t2 rl2
  · cases hm
end
end Lay

namespace Lay
open PySem PySem.Spec PyProof.Rows L2
open Evl (Ex)
/-! ### targets of assignments -/
def ST (X : Cx) (cl : Str → Addr) (tg : Expr) (f : D → Env' → Option Env') : Prop :=
  ∃ g, PG X tg g ∧ ∀ M q os ev σ H v d ev', f d ev = some ev' → Rl X.K cl M q os ev σ H → Rep X.K cl (hid (os ++ M) H) v d → ∀ Q : L2.St → Hp → Prop, (∀ os' σ' H', Tr q os H os' H' → Rl X.K cl M q os' ev' σ' H' → Q σ' H') → g v σ H Q
def STs (X : Cx) (cl : Str → Addr) (tgs : List Expr) (f : List D → Env' → Option Env') : Prop :=
  ∃ g, PGs X tgs g ∧ ∀ M q os ev σ H vs ds ev', f ds ev = some ev' → Rl X.K cl M q os ev σ H → Reps X.K cl (hid (os ++ M) H) vs ds → ∀ Q : L2.St → Hp → Prop, (∀ os' σ' H', Tr q os H os' H' → Rl X.K cl M q os' ev' σ' H' → Q σ' H') → g vs σ H Q
section
variable {X : Cx} {cl : Str → Addr} {e c o : Expr} {pos : Pos} {st : Stmt} {rest : List Stmt} {m n : SM}
def gN (i : Nat) : D → Env' → Option Env' := fun d ev => some (ev.set i (.val d))
theorem st_name {i : Nat} {x : Str} (h : LocAt X i x) : ST X cl (.Name x pos) (gN i) := by
  refine ⟨_, pg_name h.nd h.ix h.loc h.fn, fun M q os ev σ H v d ev' hf rl hv Q k => ?_⟩
  cases hf
  obtain ⟨os', t, rl'⟩ := rl.put_val i hv
  exact k os' _ H t rl'
/-- x[j] = .., x an owned slot -/
def gS (i : Nat) (mj : Env' → Option D) : D → Env' → Option Env' := fun d ev => match ownAt ev i, mj ev with
  | some g, some (.int k) => (match ixN g.length k with
    | some j => if mayOwn ev i = true then some (setOwn ev i (g.set j d)) else none
    | none => none)
  | _, _ => none
theorem st_sub {i : Nat} {x : Str} {p2 : Pos} {mj : Env' → Option D} (h : VarAt X i x) (hj : EV true X cl e mj)
    (ha : ∀ v, assign (.Subscript (.Name x p2) e pos) X.env v = (do
      let ov ← holding [v] (eval (.Name x p2) X.env)
      let iv ← holding [v, ov] (eval e X.env)
      standAt pos
      holding [v, ov, iv] (setItem ov iv v)
      release [v, ov, iv] []) := by intro _; rfl) : ST X cl (.Subscript (.Name x p2) e pos) (gS i mj) := by
  obtain ⟨te, hp, hj⟩ := hj
  refine ⟨_, pg_sub (pe_var h.ix h.vis h.nd h.nc) hp set_list ha, fun M q os ev σ H v d ev' hf rl hv Q k => ?_⟩
  unfold gS at hf
  split at hf
  · next g kk h1 h2 =>
    split at hf
    · next j hjx =>
      split at hf
      · next hmay =>
        cases hf
        obtain ⟨p, hp'⟩ := slot_ref rl.sr h1
        refine ⟨_, hp', hj M q os ev σ H _ h2 rl _ fun u H1 x1 r1 => ?_⟩
        obtain ⟨p', vs, a1, a2, a3, a4, a5⟩ := (rl.ex x1).own_set h1 hmay
        rw [hp'] at a1
        cases a1
        refine ⟨p, vs, kk, j, rfl, rep_int.1 r1, a3, by rw [a4.length]; exact hjx, ?_⟩
        have pin : p ∈ os ++ M := by
          rcases a2 with z | z
          · exact List.mem_append_left _ z
          · exact List.mem_append_right _ (rl.qm p z)
        refine k os σ _ ⟨fun a o ha n1 n2 => ?_, fun y hy => .inl hy, fun a o ha => ?_⟩ (a5 _ _ _ (fun a o n ha => by rw [upd_ne n]; exact ha) upd_same ?_)
        · rw [upd_ne fun z => by
            subst z
            rcases a2 with w | w
            · exact n1 w
            · exact n2 w]
          exact x1 a o ha
        · by_cases hz : a = p
          · rw [hz, upd_same]; simp
          · rw [upd_ne hz, x1 a o ha]; simp
        · rw [hid_upd pin]
          exact a4.set j (hv.mono (ex_hid x1))
      · cases hf
    · cases hf
  · cases hf
def gs0 : List D → Env' → Option Env' := fun ds ev => match ds with
  | [] => some ev
  | _ => none
def gs1 (f : D → Env' → Option Env') (g : List D → Env' → Option Env') : List D → Env' → Option Env' := fun ds ev => match ds with
  | d :: r => (f d ev).bind (g r)
  | [] => none
theorem sts_nil : STs X cl [] gs0 := by
  refine ⟨_, pgs_nil, fun M q os ev σ H vs ds ev' hf rl hv Q k => ?_⟩
  unfold gs0 at hf
  split at hf
  · cases hf
    exact ⟨Reps.nil_iff.1 hv, k os σ H .refl rl⟩
  · cases hf
theorem sts_cons {t : Expr} {ts : List Expr} {f : D → Env' → Option Env'} {g : List D → Env' → Option Env'} (h : ST X cl t f) (hs : STs X cl ts g) (ha : (assignEach (t :: ts) X.env).map (·.2) = assign t X.env :: (assignEach ts X.env).map (·.2) := by rfl) : STs X cl (t :: ts) (gs1 f g) := by
  obtain ⟨t1, p1, h⟩ := h
  obtain ⟨t2, p2, hs⟩ := hs
  refine ⟨_, pgs_cons p1 p2 ha, fun M q os ev σ H vs ds ev' hf rl hv Q k => ?_⟩
  unfold gs1 at hf
  split at hf
  · next d r =>
    obtain ⟨ev1, h1, h2⟩ := Option.bind_eq_some_iff.1 hf
    obtain ⟨v, us, rfl, r1, r2⟩ := Reps.cons_iff.1 hv
    refine ⟨v, us, rfl, h M q os ev σ H v d ev1 h1 rl r1 _ fun os1 σ1 H1 t1 rl1 => ?_⟩
    exact hs M q os1 ev1 σ1 H1 us r ev' h2 rl1 (r2.mono (t1.view rl)) _ fun os2 σ2 H2 t2 rl2 => k os2 σ2 H2 (t1.trans t2) rl2
  · cases hf
def gT (g : List D → Env' → Option Env') : D → Env' → Option Env' := fun d ev => match d with
  | .tup ds => g ds ev
  | _ => none
def gLs (n : Nat) (g : List D → Env' → Option Env') : D → Env' → Option Env' := fun d ev => match d with
  | .lst ds => if ds.length = n then g ds ev else none
  | _ => none
def gTn (n : Nat) (g : List D → Env' → Option Env') : D → Env' → Option Env' := fun d ev => match d with
  | .tup ds => if ds.length = n then g ds ev else none
  | _ => none
theorem st_tup {es : List Expr} {kk n : Nat} {g : List D → Env' → Option Env'} (hc : X.calm = true) (h : STs X cl es g) (hn : (assignEach es X.env).length = n := by rfl) (hst : (assignEach es X.env).findIdx? (·.1) = none := by rfl) : ST X cl (.Tuple es kk pos) (gTn n g) := by
  obtain ⟨t1, p1, h⟩ := h
  refine ⟨_, pg_tup hc p1 hn hst, fun M q os ev σ H v d ev' hf rl hv Q k => ?_⟩
  unfold gTn at hf
  split at hf
  · next ds =>
    split at hf
    · next hl =>
      obtain ⟨a, vs, rfl, g1, g2⟩ := rep_tup.1 hv
      exact ⟨a, vs, rfl, .of (hid_some g1).2, by rw [g2.length, hl], h M q os ev σ H vs ds ev' hf rl g2 Q k⟩
    · cases hf
  · cases hf
theorem st_lst {es : List Expr} {kk n : Nat} {g : List D → Env' → Option Env'} (hc : X.calm = true) (h : STs X cl es g) (hn : (assignEach es X.env).length = n := by rfl) (hst : (assignEach es X.env).findIdx? (·.1) = none := by rfl) : ST X cl (.Tuple es kk pos) (gLs n g) := by
  obtain ⟨t1, p1, h⟩ := h
  refine ⟨_, pg_unl hc p1 hn hst, fun M q os ev σ H v d ev' hf rl hv Q k => ?_⟩
  unfold gLs at hf
  split at hf
  · next ds =>
    split at hf
    · next hl =>
      obtain ⟨a, vs, rfl, g1, g2⟩ := rep_list.1 hv
      exact ⟨a, vs, rfl, .of (hid_some g1).2, by rw [g2.length, hl], h M q os ev σ H vs ds ev' hf rl g2 Q k⟩
    · cases hf
  · cases hf
def sput (f : D → Env' → Option Env') (me : Env' → Option (D × Env')) : SM := fun ev => do
  let r ← me ev
  let ev' ← f r.1 r.2
  some (.nx, ev')
theorem s_asg {tg : Expr} {f : D → Env' → Option Env'} {me : Env' → Option (D × Env')} (he : EF X cl e me) (hg : ST X cl tg f) (hs : swapsWithSole [tg] e pos.line X.env = pure false := by rfl) (hw : swappedStores [tg] e X.env = pure none := by rfl)
    (h1 : (assignEach [tg] X.env).map (·.2) = [assign tg X.env] := by rfl) : S1 X cl (.Assign [tg] e pos) (sput f me) := by
  obtain ⟨te, hp, he⟩ := he
  obtain ⟨g, gp, hg⟩ := hg
  refine ⟨_, ps_asg hp gp hs hw h1, fun M q os ev σ H fl ev' hm rl E k => ?_⟩
  obtain ⟨⟨d, ev1⟩, g1, hm⟩ := bind_some' hm
  obtain ⟨ev2, g2, hm⟩ := bind_some' hm
  cases hm
  exact he M q os ev σ H d ev1 g1 rl _ fun v H1 t1 rl1 r1 => hg M q os ev1 σ H1 v d _ g2 rl1 r1 _ fun os2 σ2 H2 t2 rl2 => k os2 σ2 H2 (t1.trans t2) rl2

/-! other statements -/
def sdrop (me : Env' → Option (D × Env')) : SM := fun ev => do
  let r ← me ev
  some (.nx, r.2)
theorem s_expr {me : Env' → Option (D × Env')} (he : EF X cl e me) (hs : swapsWith e none pos.line X.env = pure false := by rfl) : S1 X cl (.Expr e pos) (sdrop me) := by
  obtain ⟨te, hp, he⟩ := he
  refine ⟨_, ps_expr hp hs, fun M q os ev σ H fl ev' hm rl E k => ?_⟩
  obtain ⟨⟨d, ev1⟩, g1, hm⟩ := bind_some' hm
  cases hm
  exact he M q os ev σ H d _ g1 rl _ fun v H1 t1 rl1 r1 => k os σ H1 t1 rl1
/-- x.append(e) -/
def sapp (i : Nat) (me : Env' → Option D) : SM := fun ev => match ownAt ev i, me ev with
  | some g, some d => if g.length ≤ 1000000 ∧ mayOwn ev i = true then some (.nx, setOwn ev i (g ++ [d])) else none
  | _, _ => none
theorem rl_upd {K : Fg} {M : List Addr} {q : Option Addr} {os : List Addr} {ev : Env'} {σ : L2.St} {H H1 : Hp} {i : Nat} {g g' : List D} {p : Addr} {vs' : List L2.V} (rl : Rl K cl M q os ev σ H) (x1 : Ex H H1) (h1 : ownAt ev i = some g) (hmay : mayOwn ev i = true) (hp : σ[i]? = some (some (.ref p)))
    (hr : Reps K cl (hid (os ++ M) H1) vs' g') : Tr q os H os (upd H1 p (.lst vs')) ∧ Rl K cl M q os (setOwn ev i g') σ (upd H1 p (.lst vs')) := by
  obtain ⟨p', vs, a1, a2, a3, a4, a5⟩ := (rl.ex x1).own_set h1 hmay
  rw [hp] at a1
  cases a1
  have pin : p ∈ os ++ M := by
    rcases a2 with z | z
    · exact List.mem_append_left _ z
    · exact List.mem_append_right _ (rl.qm p z)
  refine ⟨⟨fun a o ha n1 n2 => ?_, fun y hy => .inl hy, fun a o ha => ?_⟩, a5 _ _ _ (fun a o n ha => by rw [upd_ne n]; exact ha) upd_same ?_⟩
  · rw [upd_ne fun z => by
      subst z
      rcases a2 with w | w
      · exact n1 w
      · exact n2 w]
    exact x1 a o ha
  · by_cases hz : a = p
    · rw [hz, upd_same]; simp
    · rw [upd_ne hz, x1 a o ha]; simp
  · rw [hid_upd pin]
    exact hr
theorem own_at {K : Fg} {M : List Addr} {q : Option Addr} {os : List Addr} {ev : Env'} {σ : L2.St} {H : Hp} {i : Nat} {g : List D} {p : Addr} (rl : Rl K cl M q os ev σ H) (h1 : ownAt ev i = some g) (hmay : mayOwn ev i = true) (hp : σ[i]? = some (some (.ref p))) : ∃ vs, H p = some (.lst vs) ∧ Reps K cl (hid (os ++ M) H) vs g := by
  obtain ⟨p', vs, a1, a2, a3, a4, a5⟩ := rl.own_set h1 hmay
  rw [hp] at a1
  cases a1
  exact ⟨vs, a3, a4⟩
theorem s_append {i : Nat} {x : Str} {p2 apos pos' : Pos} {me : Env' → Option D} {t0 : TE} (h : VarAt X i x) (he : EV true X cl e me)
    (hpe : ∀ te, PE X e te → PE X (.Call (.Attribute (.Name x p2) "append" apos) [e] [] pos) (tBM X.K "list" rAppend (tVar i) (tCons te tNil)))
    (hs : swapsWith (.Call (.Attribute (.Name x p2) "append" apos) [e] [] pos) none pos'.line X.env = pure false := by rfl) : S1 X cl (.Expr (.Call (.Attribute (.Name x p2) "append" apos) [e] [] pos) pos') (sapp i me) := by
  obtain ⟨te, hp, he⟩ := he
  refine ⟨_, ps_expr (hpe te hp) hs, fun M q os ev σ H fl ev' hm rl E k => ?_⟩
  unfold sapp at hm
  split at hm
  · next g d h1 h2 =>
    split at hm
    · next hc =>
      cases hm
      obtain ⟨p, hp'⟩ := slot_ref rl.sr h1
      obtain ⟨vs, a3, a4⟩ := own_at rl h1 hc.2 hp'
      refine ⟨_, hp', .inl ⟨rfl, _, .of a3⟩, he M q os ev σ H _ h2 rl _ fun u H1 x1 r1 => ?_⟩
      obtain ⟨t, rl'⟩ := rl_upd (g' := g ++ [d]) (vs' := vs ++ [u]) rl x1 h1 hc.2 hp' ((a4.mono (ex_hid x1)).append (Reps.cons r1 Reps.nil))
      exact ⟨p, vs, u, rfl, rfl, x1 _ _ a3, by rw [a4.length, sizeLine_eq]; omega, k os σ _ t rl'⟩
    · cases hm
  · cases hm
/-- x.pop() -/
def xpop (i : Nat) : Env' → Option (D × Env') := fun ev => match ownAt ev i with
  | some g => (match g[g.length - 1]? with
    | some d => if mayOwn ev i = true then some (d, setOwn ev i g.dropLast) else none
    | none => none)
  | none => none
theorem ef_pop {i : Nat} {x : Str} {p2 apos : Pos} (h : VarAt X i x) (hpe : PE X (.Call (.Attribute (.Name x p2) "pop" apos) [] [] pos) (tBM0 X.K "list" rPop (tVar i))) : EF X cl (.Call (.Attribute (.Name x p2) "pop" apos) [] [] pos) (xpop i) := by
  refine ⟨_, hpe, fun M q os ev σ H d ev' hm rl Q k => ?_⟩
  unfold xpop at hm
  split at hm
  · next g h1 =>
    split at hm
    · next y hy =>
      split at hm
      · next hc =>
        cases hm
        obtain ⟨p, hp'⟩ := slot_ref rl.sr h1
        obtain ⟨vs, a3, a4⟩ := own_at rl h1 hc hp'
        obtain ⟨u, e1, e2⟩ := a4.get hy
        obtain ⟨t, rl'⟩ := rl_upd (g' := g.dropLast) (vs' := vs.dropLast) rl Ex0 h1 hc hp' a4.dropLast
        refine ⟨_, hp', .inl ⟨rfl, _, .of a3⟩, p, vs, u, rfl, rfl, a3, by rw [a4.length]; exact e1, k u _ t rl' ?_⟩
        exact e2.mono (t.view rl)
      · cases hm
    · cases hm
  · cases hm
def sif (t : Env' → Option (Bool × Env')) (m n : SM) : SM := fun ev => do
  let r ← t ev
  if r.1 = true then m r.2 else n r.2
theorem s_if {t : Env' → Option (Bool × Env')} {a b : List Stmt} (hc : EFT X cl c t) (ha : SS X cl a m) (hb : SS X cl b n) : S1 X cl (.If c a b pos) (sif t m n) := by
  obtain ⟨te, hp, h⟩ := hc
  obtain ⟨ta, pa, ha⟩ := ha
  obtain ⟨tb, pb, hb⟩ := hb
  refine ⟨_, ps_if hp pa pb, fun M q os ev σ H f ev' hm rl E k => ?_⟩
  obtain ⟨⟨x, ev1⟩, h1, hm⟩ := bind_some' hm
  refine h M q os ev σ H x ev1 h1 rl _ fun H1 t1 rl1 => ?_
  cases x with
  | true => exact iteT (ha M q os ev1 σ H1 f ev' hm rl1 E (k.from t1))
  | false => exact iteF (hb M q os ev1 σ H1 f ev' hm rl1 E (k.from t1))
def sret (m : Env' → Option D) : SM := fun ev => do
  let d ← m ev
  some (.ret (.val d), ev)
theorem s_ret {me : Env' → Option D} (he : EV false X cl e me) : S1 X cl (.Return (some e) pos) (sret me) := by
  obtain ⟨te, hp, he⟩ := he
  refine ⟨_, ps_ret hp, fun M q os ev σ H f ev' hm rl E k => ?_⟩
  obtain ⟨d, h1, hm⟩ := bind_some' hm
  cases hm
  exact he M q os _ σ H d h1 rl _ fun v H1 x1 r1 => k os σ H1 v (.of_ex x1) (rl.ex x1) r1
def sretF (m : Env' → Option (D × Env')) : SM := fun ev => do
  let r ← m ev
  some (.ret (.val r.1), r.2)
theorem s_retF {me : Env' → Option (D × Env')} (he : EF X cl e me) : S1 X cl (.Return (some e) pos) (sretF me) := by
  obtain ⟨te, hp, he⟩ := he
  refine ⟨_, ps_ret hp, fun M q os ev σ H f ev' hm rl E k => ?_⟩
  obtain ⟨⟨d, ev1⟩, h1, hm⟩ := bind_some' hm
  cases hm
  exact he M q os _ σ H d _ h1 rl _ fun v H1 t1 rl1 r1 => k os σ H1 v t1 rl1 (r1.mono (ex_le fun a ha => List.mem_append_right _ ha))
def sretO (m : Env' → Option (List D)) : SM := fun ev => do
  let d ← m ev
  some (.ret (.own d), ev)
theorem s_retO {me : Env' → Option (List D)} (he : EO false X cl e me) : S1 X cl (.Return (some e) pos) (sretO me) := by
  obtain ⟨te, hp, he⟩ := he
  refine ⟨_, ps_ret hp, fun M q os ev σ H f ev' hm rl E k => ?_⟩
  obtain ⟨d, h1, hm⟩ := bind_some' hm
  cases hm
  exact he M q os _ σ H d h1 rl _ fun p H1 vs hn x1 g1 g2 => k os σ H1 p vs (.of_ex x1) (rl.ex x1) (.inr hn) (fun z => rl.tr p (List.mem_append_right _ z) hn) g1 g2
/-- return x, x an owned slot -/
def sretV (i : Nat) : SM := fun ev => match ev[i]? with
  | some (.own xs) => some (.ret (.own xs), ev)
  | _ => none
theorem s_retV {i : Nat} {x : Str} {p2 : Pos} (h : VarAt X i x) : S1 X cl (.Return (some (.Name x p2)) pos) (sretV i) := by
  refine ⟨_, ps_ret (pe_var h.ix h.vis h.nd h.nc), fun M q os ev σ H f ev' hm rl E k => ?_⟩
  unfold sretV at hm
  split at hm
  · next xs hx =>
    cases hm
    obtain ⟨p, vs, a1, a2, a3, a4⟩ := rl.sr.get_own hx
    refine ⟨_, a1, k os σ H p vs .refl rl (.inl a2) (rl.dj p a2) a3 (a4.mono (ex_le fun a ha => ?_))⟩
    rcases List.mem_cons.1 ha with rfl | z
    · exact List.mem_append_left _ a2
    · exact List.mem_append_right _ z
  · cases hm
theorem s_retN : S1 X cl (.Return none pos) (sret fun _ => some .non) := ⟨_, ps_retN, fun M q os ev σ H f ev' hm rl E k => by
  cases hm
  exact k os σ H .non .refl rl (rep_non.2 rfl)⟩
def snever : SM := fun _ => none
theorem s_never : S1 X cl st snever := ⟨_, ps_never, fun _ _ _ _ _ _ _ _ hm => by cases hm⟩
theorem s_break : S1 X cl (.Break pos) (fun ev => some (.bk, ev)) := ⟨_, ps_break, fun M q os ev σ H f ev' hm rl E k => by
  cases hm
  exact k os σ H .refl rl⟩
theorem s_continue : S1 X cl (.Continue pos) (fun ev => some (.ct, ev)) := ⟨_, ps_continue, fun M q os ev σ H f ev' hm rl E k => by
  cases hm
  exact k os σ H .refl rl⟩
theorem s_pass : S1 X cl (.Pass pos) snx := ⟨_, ps_pass, fun M q os ev σ H f ev' hm rl E k => by
  cases hm
  exact k os σ H .refl rl⟩
/-! loops -/
def whileGo (c : Env' → Option Bool) (b : SM) : Nat → SM
  | 0, _ => none
  | n + 1, ev => match c ev with
    | some true => (match b ev with
      | some (.nx, ev1) => whileGo c b n ev1
      | some (.ct, ev1) => whileGo c b n ev1
      | some (.bk, ev1) => some (.nx, ev1)
      | some (.ret r, ev1) => some (.ret r, ev1)
      | none => none)
    | some false => some (.nx, ev)
    | none => none
theorem whileGo_mono {c : Env' → Option Bool} {b : SM} : ∀ {n m : Nat} {ev : Env'} {r : Fl × Env'}, n ≤ m → whileGo c b n ev = some r → whileGo c b m ev = some r
  | 0, _, _, _, _, h => by cases h
  | n + 1, 0, _, _, hl, _ => by omega
  | n + 1, m + 1, ev, r, hl, h => by
    unfold whileGo at h ⊢
    cases hc : c ev with
    | none => rw [hc] at h; cases h
    | some t =>
      rw [hc] at h
      cases t with
      | false => exact h
      | true =>
        simp only at h ⊢
        cases hb : b ev with
        | none => rw [hb] at h; cases h
        | some s =>
          obtain ⟨f, ev1⟩ := s
          rw [hb] at h
          cases f with
          | nx => exact whileGo_mono (by omega) h
          | ct => exact whileGo_mono (by omega) h
          | bk => exact h
          | ret r => exact h
/-- turns enough -/
def FUEL : Nat := 1000000000
def swhile (c : Env' → Option Bool) (b : SM) : SM := whileGo c b FUEL
theorem swhile_of {c : Env' → Option Bool} {b : SM} {n : Nat} {ev : Env'} {r : Fl × Env'} (hn : n ≤ 1000000000) (h : whileGo c b n ev = some r) : swhile c b ev = some r := whileGo_mono hn h
theorem s_while {t : Env' → Option Bool} {body : List Stmt} (hx : X.xe = fun _ _ => False) (hc : ET X cl c t) (hb : SS X cl body m) : S1 X cl (.While c body [] pos) (swhile t m) := by
  obtain ⟨te, hp, h⟩ := hc
  obtain ⟨tb, pb, hb⟩ := hb
  refine ⟨_, ps_while (by rw [hx]; exact PassesOwn.never) hp pb, fun M q os ev σ H f ev' hm rl E k => ?_⟩
  refine ⟨fun n σ' H' => ∃ os' ev1, Tr q os H os' H' ∧ Rl X.K cl M q os' ev1 σ' H' ∧ whileGo t m n ev1 = some (f, ev'), ⟨FUEL, os, ev, .refl, rl, hm⟩, fun n σ1 H1 ⟨os1, ev1, t1, rl1, hw⟩ => ?_⟩
  cases n with
  | zero => cases hw
  | succ n =>
    unfold whileGo at hw
    split at hw
    · next hc1 =>
      refine h M q os1 ev1 σ1 H1 true hc1 rl1 _ fun H2 x2 => iteT ?_
      refine ⟨fun σ' H' => ∃ os' ev1, Tr q os H os' H' ∧ Rl X.K cl M q os' ev1 σ' H' ∧ whileGo t m n ev1 = some (f, ev'), fun σ' H' hN => ⟨n, Nat.lt_succ_self n, hN⟩, ?_⟩
      have t2 : Tr q os H os1 H2 := t1.trans (.of_ex x2)
      split at hw
      · next ev2 h2 => exact hb M q os1 ev1 σ1 H2 _ _ h2 (rl1.ex x2) _ fun os3 σ3 H3 t3 rl3 => ⟨os3, ev2, t2.trans t3, rl3, hw⟩
      · next ev2 h2 => exact hb M q os1 ev1 σ1 H2 _ _ h2 (rl1.ex x2) _ fun os3 σ3 H3 t3 rl3 => ⟨os3, ev2, t2.trans t3, rl3, hw⟩
      · next ev2 h2 =>
        cases hw
        exact hb M q os1 ev1 σ1 H2 _ _ h2 (rl1.ex x2) _ fun os3 σ3 H3 t3 rl3 => k os3 σ3 H3 (t2.trans t3) rl3
      · next r ev2 h2 =>
        cases hw
        refine hb M q os1 ev1 σ1 H2 _ _ h2 (rl1.ex x2) _ ?_
        have k2 := k.from t2
        cases r with
        | val d => exact k2
        | own xs => exact k2
      · cases hw
    · next hc1 =>
      cases hw
      exact h M q os1 _ σ1 H1 false hc1 rl1 _ fun H2 x2 => iteF (k os1 σ1 H2 (t1.trans (.of_ex x2)) (rl1.ex x2))
    · cases hw
def forGo (f : D → Env' → Option Env') (b : SM) : List D → SM
  | [], ev => some (.nx, ev)
  | d :: r, ev => match f d ev with
    | none => none
    | some ev0 => (match b ev0 with
      | some (.nx, ev1) => forGo f b r ev1
      | some (.ct, ev1) => forGo f b r ev1
      | some (.bk, ev1) => some (.nx, ev1)
      | some (.ret r, ev1) => some (.ret r, ev1)
      | none => none)
def sfor (mi : Env' → Option (List D × Env')) (f : D → Env' → Option Env') (b : SM) : SM := fun ev => do
  let r ← mi ev
  forGo f b r.1 r.2
theorem s_for {mi : Env' → Option (List D × Env')} {fp : D → Env' → Option Env'} {tg iter : Expr} {body : List Stmt} (hx : X.xe = fun _ _ => False) (hc : X.calm = true) (hi : EFI X cl tg iter mi) (hg : ST X cl tg fp) (hb : SS X cl body m) (hs : ∀ x, foldedSetIterable iter X.env x = pure x := by intro _; rfl) :
    S1 X cl (.For tg iter body [] pos) (sfor mi fp m) := by
  obtain ⟨wi, wp, hi⟩ := hi
  obtain ⟨g, gp, hg⟩ := hg
  obtain ⟨tb, pb, hb⟩ := hb
  refine ⟨_, ps_for (by rw [hx]; exact PassesOwn.never) hc wp gp pb hs, fun M q os ev σ H f ev' hm rl E k => ?_⟩
  obtain ⟨⟨ds, ev1⟩, h1, hm⟩ := bind_some' hm
  simp only at hm
  refine hi M q os ev σ H ds ev1 h1 rl _ fun J H1 t1 rl1 wk => ?_
  refine ⟨fun i n σ' H' => n = ds.length - i ∧ i ≤ ds.length ∧ ∃ os' ev2, Tr q os H1 os' H' ∧ Rl X.K cl M q os' ev2 σ' H' ∧ forGo fp m (ds.drop i) ev2 = some (f, ev'), ⟨ds.length, by simp, Nat.zero_le _, os, ev1, .refl, rl1, by simpa using hm⟩, fun i n σ2 H2 ⟨en, hi2, os2, ev2, t2, rl2, hw⟩ => ?_⟩
  obtain ⟨wk1, wk2⟩ := wk _ H2 (t2.view rl1) rl2.tr
  by_cases hlt : i < ds.length
  · rw [List.drop_eq_getElem_cons hlt] at hw
    unfold forGo at hw
    refine .inr ⟨(wk1 i ds[i] (by simp [hlt])).1, fun σ' H' => ∃ os' ev2, Tr q os H1 os' H' ∧ Rl X.K cl M q os' ev2 σ' H' ∧ forGo fp m (ds.drop (i + 1)) ev2 = some (f, ev'), fun σ' H' hN => ⟨ds.length - (i + 1), by omega, rfl, hlt, hN⟩, fun x H3 hy => ?_⟩
    obtain ⟨x3, r3⟩ := (wk1 i ds[i] (by simp [hlt])).2 x H3 hy
    split at hw
    · cases hw
    · next ev0 h0 =>
      refine hg M q os2 ev2 σ2 H3 x ds[i] ev0 h0 (rl2.ex x3) r3 _ fun os4 σ4 H4 t4 rl4 => ?_
      have t5 : Tr q os H1 os4 H4 := (t2.trans (.of_ex x3)).trans t4
      split at hw
      · next ev5 h5 => exact hb M q os4 ev0 σ4 H4 _ _ h5 rl4 _ fun os6 σ6 H6 t6 rl6 => ⟨os6, ev5, t5.trans t6, rl6, hw⟩
      · next ev5 h5 => exact hb M q os4 ev0 σ4 H4 _ _ h5 rl4 _ fun os6 σ6 H6 t6 rl6 => ⟨os6, ev5, t5.trans t6, rl6, hw⟩
      · next ev5 h5 =>
        cases hw
        exact hb M q os4 ev0 σ4 H4 _ _ h5 rl4 _ fun os6 σ6 H6 t6 rl6 => k os6 σ6 H6 ((t1.trans t5).trans t6) rl6
      · next r ev5 h5 =>
        cases hw
        refine hb M q os4 ev0 σ4 H4 _ _ h5 rl4 _ ?_
        have k2 := k.from (t1.trans t5)
        cases r with
        | val d => exact k2
        | own xs => exact k2
      · cases hw
  · have e : i = ds.length := by omega
    subst e
    rw [List.drop_length] at hw
    cases hw
    exact .inl ⟨wk2, k os2 σ2 H2 (t1.trans t2) rl2⟩
end
end Lay

namespace Lay
open PySem PySem.Spec PyProof.Rows L2
open Evl (Ex)
/-! ### where code stands: a def's body, a comprehension's block -/
structure ScR (raw : Scope) (X : Cx) : Prop where
  kind : X.env.scope.kind = .function
  keep : ∀ x k, raw.names.lookup x = some k → k ≠ .free → X.env.scope.names.lookup x = some k
  free : ∀ x, raw.names.lookup x = some .free → X.env.scope.names.lookup x = some .free ∨ X.env.scope.names.lookup x = some .cell
structure CXo (X : Cx) (N : List Str) (raw : Scope) (k : Nat) : Prop where
  n : X.N = N
  sc : ScR raw X
  calm : X.calm = true
  xe : X.xe = fun _ _ => False
  room : Room k X.A
  nd : X.N.Nodup
  fn : ∀ x, raw.names.lookup x = some .cell → X.fn x = true
theorem lk_free (c : Str → NameKind → Bool) : ∀ (names : List (Str × NameKind)) (x : Str), names.lookup x = some .free → (names.map fun p => if c p.1 p.2 = true then (p.1, NameKind.cell) else p).lookup x = some .free ∨ (names.map fun p => if c p.1 p.2 = true then (p.1, NameKind.cell) else p).lookup x = some .cell
  | [], x, h => by simp at h
  | (n, k) :: r, x, h => by
    rw [List.map_cons]
    have ih := lk_free c r x
    cases hx : x == n with
    | true =>
      simp only [List.lookup_cons, hx] at h
      cases h
      by_cases hc : c n .free = true
      · simp only [hc, if_true, List.lookup_cons, hx]
        exact .inr trivial
      · simp only [hc, Bool.false_eq_true, if_false, List.lookup_cons, hx]
        exact .inl trivial
    | false =>
      simp only [List.lookup_cons, hx] at h
      by_cases hc : c n k = true
      · simp only [hc, if_true, List.lookup_cons, hx]
        exact ih h
      · simp only [hc, Bool.false_eq_true, if_false, List.lookup_cons, hx]
        exact ih h
section
variable {X : Cx} {N : List Str} {raw scope : Scope} {k : Nat}
theorem CXo.blk (h : CXo X N raw k) (hk : scope.kind = .function) (s : Shared) (H : Hp) (C : Addr) (c : List (Str × Addr)) (fp : List Addr) : CXo (X.blk s H scope (compEnvC scope c C X.env) fp) N scope k := by
  have hs : (X.blk s H scope (compEnvC scope c C X.env) fp).env.scope = relS scope X.env.scope := rfl
  refine ⟨h.n, ⟨?_, fun x kk e n => ?_, fun x e => ?_⟩, h.calm, rfl, h.room, h.nd, fun x e => ?_⟩
  · rw [hs]; exact hk
  · rw [hs]; exact lookup_relS_keep n e
  · rw [hs]
    exact lk_free (fun n k => k == NameKind.free && X.env.scope.kind == .function && X.env.scope.names.lookup n == some .cell) scope.names x e
  · show (scope.names.lookup x == some .cell) = true
    rw [e]
    rfl
/-! names, looked up by the kernel -/
def visB (sc : Scope) (x : Str) : Bool := match sc.names.lookup x with
  | some .local => true
  | some .cell => true
  | some .free => true
  | _ => false
def locB (sc : Scope) (x : Str) : Bool := match sc.names.lookup x with
  | some .local => true
  | some .cell => true
  | _ => false
def ordB (x : Str) : Bool := !(x == ("__debug__" : Str)) && !(x == ("__classdict__" : Str))
def varB (N : List Str) (sc : Scope) (i : Nat) : Bool := match N[i]? with
  | some x => visB sc x && ordB x
  | none => false
def lcB (N : List Str) (sc : Scope) (i : Nat) : Bool := match N[i]? with
  | some x => locB sc x
  | none => false
def plB (N : List Str) (sc : Scope) (i : Nat) : Bool := match N[i]? with
  | some x => (match sc.names.lookup x with
    | some .local => true
    | _ => false)
  | none => false
def glB (sc : Scope) (x : Str) : Bool := match sc.names.lookup x with
  | some .globalImplicit => !(x == ("__debug__" : Str))
  | _ => false
/-- the names of a body: places that are read, that are stored, that are stored plainly; globals -/
structure Nms where
  vs : List Nat
  ls : List Nat
  ps : List Nat
  gs : List Str
def Nms.ok (n : Nms) (N : List Str) (sc : Scope) : Bool := n.vs.all (varB N sc) && (n.ls.all (lcB N sc) && (n.ps.all (plB N sc) && n.gs.all (glB sc)))
variable {n : Nms}
theorem CXo.var (h : CXo X N raw k) (b : n.ok N raw = true) {i : Nat} {x : Str} (hi : n.vs.contains i = true) (hx : N[i]? = some x) : VarAt X i x := by
  unfold Nms.ok at b
  simp only [Bool.and_eq_true] at b
  have h1 : varB N raw i = true := List.all_eq_true.1 b.1 i (by simpa using hi)
  unfold varB at h1
  rw [hx] at h1
  simp only [Bool.and_eq_true] at h1
  obtain ⟨h2, h3⟩ := h1
  unfold ordB at h3
  simp only [Bool.and_eq_true, Bool.not_eq_true'] at h3
  refine ⟨by rw [h.n]; exact hx, ?_, h3.1, h3.2⟩
  unfold visB at h2
  split at h2
  · next e => exact .inl (h.sc.keep x _ e (by intro z; cases z))
  · next e => exact .inr (.inl (h.sc.keep x _ e (by intro z; cases z)))
  · next e => exact (h.sc.free x e).elim (fun z => .inr (.inr z)) fun z => .inr (.inl z)
  · cases h2
theorem CXo.loc (h : CXo X N raw k) (b : n.ok N raw = true) {i : Nat} {x : Str} (hi : n.ls.contains i = true) (hx : N[i]? = some x) : LocAt X i x := by
  unfold Nms.ok at b
  simp only [Bool.and_eq_true] at b
  have h1 : lcB N raw i = true := List.all_eq_true.1 b.2.1 i (by simpa using hi)
  unfold lcB at h1
  rw [hx] at h1
  simp only at h1
  unfold locB at h1
  split at h1
  · next e =>
    have := h.sc.keep x _ e (by intro z; cases z)
    exact ⟨h.nd, by rw [h.n]; exact hx, .inl this, .inr this⟩
  · next e => exact ⟨h.nd, by rw [h.n]; exact hx, .inr (h.sc.keep x _ e (by intro z; cases z)), .inl (h.fn x e)⟩
  · cases h1
theorem CXo.pl (h : CXo X N raw k) (b : n.ok N raw = true) {i : Nat} {x : Str} (hi : n.ps.contains i = true) (hx : N[i]? = some x) : X.env.scope.names.lookup x = some .local := by
  unfold Nms.ok at b
  simp only [Bool.and_eq_true] at b
  have h1 : plB N raw i = true := List.all_eq_true.1 b.2.2.1 i (by simpa using hi)
  unfold plB at h1
  rw [hx] at h1
  simp only at h1
  split at h1
  · next e => exact h.sc.keep x _ e (by intro z; cases z)
  · cases h1
theorem CXo.gl (h : CXo X N raw k) (b : n.ok N raw = true) {j : Nat} {x : Str} (hx : n.gs[j]? = some x) : Gl X x ∧ (x == ("__debug__" : Str)) = false := by
  unfold Nms.ok at b
  simp only [Bool.and_eq_true] at b
  have h1 : glB raw x = true := List.all_eq_true.1 b.2.2.2 x (List.mem_of_getElem? hx)
  unfold glB at h1
  split at h1
  · next e => exact ⟨h.sc.keep x _ e (by intro z; cases z), by simpa using h1⟩
  · cases h1
theorem CXo.blkOk {own : List (Str × Nat)} (h : CXo X N raw k) (b : blkC N raw scope own = true) : BlkOk X.N X.env.scope scope own := by
  have q := blkOk_by b
  refine ⟨q.kind, q.uniq, by rw [h.n]; exact q.ix, fun y hy e => ?_, by rw [h.n]; exact q.own⟩
  rcases q.free y hy e with z | z
  · exact .inl (h.sc.keep _ _ z (by intro w; cases w))
  · exact (h.sc.free _ z).symm
end
/-! ### how assignments of pairs store -/
def notStar : Expr → Bool
  | .Starred .. => false
  | _ => true
section
variable {X : Cx}
theorem swapped2 {x y : Str} {px py pt : Pos} {kt k2 : Nat} {pt2 : Pos} {a b : Expr} (hk : X.env.scope.kind = .function) (hx : X.env.scope.names.lookup x = some .local) (hy : X.env.scope.names.lookup y = some .local) (hne : (x == y) = false) (hl : (py.line == px.line) = true)
    (h1 : notStar a = true ∧ notStar b = true) (h2 : [a, b].all (foldedForSure 8) = false) (h3 : [a, b].all (constantsAlone 8) = false) :
    swappedStores [.Tuple [.Name x px, .Name y py] kt pt] (.Tuple [a, b] k2 pt2) X.env = pure (some [x, y]) := by
  have hb : X.env.blockKind = .function := by unfold Env.blockKind; rw [hk]; rfl
  have kx : X.env.kindOf x = some .local := hx
  have ky : X.env.kindOf y = some .local := hy
  have hl' : px.line = py.line := (eq_of_beq hl).symm
  have hne' : (y == x) = false := by
    rw [Bool.eq_false_iff] at hne ⊢
    intro z
    exact hne (by rw [eq_of_beq z]; simp)
  unfold swappedStores
  simp [hb, kx, ky, hl', Expr.pos, h2, h3, List.eraseDups_cons, List.filter, hne, hne']
  intro h
  rcases h with h | h
  · cases a <;> first | (exact absurd h Bool.false_ne_true) | (exact absurd h1.1 Bool.false_ne_true)
  · cases b <;> first | (exact absurd h Bool.false_ne_true) | (exact absurd h1.2 Bool.false_ne_true)
theorem swapped3 {x y z : Str} {px py pz pt : Pos} {kt k2 : Nat} {pt2 : Pos} {a b c : Expr} (hk : X.env.scope.kind = .function) (hx : X.env.scope.names.lookup x = some .local) (hy : X.env.scope.names.lookup y = some .local) (hz : X.env.scope.names.lookup z = some .local) (hne : (x == y) = false) (hne2 : (x == z) = false) (hne3 : (y == z) = false) (hl : (py.line == px.line) = true) (hl2 : (pz.line == px.line) = true)
    (h1 : notStar a = true ∧ notStar b = true ∧ notStar c = true) (h2 : [a, b, c].all (foldedForSure 8) = false) (h3 : [a, b, c].all (constantsAlone 8) = false) :
    swappedStores [.Tuple [.Name x px, .Name y py, .Name z pz] kt pt] (.Tuple [a, b, c] k2 pt2) X.env = pure (some [x, y, z]) := by
  have hb : X.env.blockKind = .function := by unfold Env.blockKind; rw [hk]; rfl
  have kx : X.env.kindOf x = some .local := hx
  have ky : X.env.kindOf y = some .local := hy
  have kz : X.env.kindOf z = some .local := hz
  have hl' : py.line = px.line := eq_of_beq hl
  have hl2' : pz.line = px.line := eq_of_beq hl2
  have sw : ∀ {u v : Str}, (u == v) = false → (v == u) = false := fun {u v} h => by
    rw [Bool.eq_false_iff] at h ⊢
    intro z
    exact h (by rw [eq_of_beq z]; simp)
  unfold swappedStores
  simp [hb, kx, ky, kz, hl', hl2', Expr.pos, h2, h3, List.eraseDups_cons, List.filter, hne, hne2, hne3, sw hne, sw hne2, sw hne3]
  intro h
  rcases h with h | h | h
  · cases a <;> first | (exact absurd h Bool.false_ne_true) | (exact absurd h1.1 Bool.false_ne_true)
  · cases b <;> first | (exact absurd h Bool.false_ne_true) | (exact absurd h1.2.1 Bool.false_ne_true)
  · cases c <;> first | (exact absurd h Bool.false_ne_true) | (exact absurd h1.2.2 Bool.false_ne_true)
/-- a name that takes a comprehension on its line, the name a cell -/
theorem sw_false {elt : Expr} {gs : List Comprehension} {scope : Scope} {pos py : Pos} {y : Str} {l : Nat} (hy : X.env.scope.names.lookup y = some .cell) : swapsWith (.ListComp elt gs scope pos) (some (.Name y py)) l X.env = pure false := by
  have ky : X.env.kindOf y = some .cell := hy
  unfold swapsWith
  simp [ky, show (NameKind.cell == NameKind.local) = false from rfl]
/-- .. that the block names too -/
theorem sw_own {elt : Expr} {gs : List Comprehension} {scope : Scope} {pos py : Pos} {y : Str} {l : Nat} (ha : (scope.names.any fun (n, k) => n == y && (k == .local || k == .cell)) = true) : swapsWith (.ListComp elt gs scope pos) (some (.Name y py)) l X.env = pure false := by
  unfold swapsWith
  simp [ha]
end
/-! ### defs -/
def start' (np n : Nat) (ds : List D) : Env' := ds.map .val ++ List.replicate (n - np) .emp
def outP (r : Option (Fl × Env')) : Option D := match r with
  | some (.ret (.val d), _) => some d
  | some (.ret (.own xs), _) => some (.lst xs)
  | some (.nx, _) => some .non
  | _ => none
def outO (r : Option (Fl × Env')) : Option (List D) := match r with
  | some (.ret (.own xs), _) => some xs
  | _ => none
def outF (r : Option (Fl × Env')) : Option (D × List D) := match r with
  | some (.ret (.val d), ev) => (match (show Option Slot from ev[0]?) with
    | some (Slot.par g) => some (d, g)
    | _ => none)
  | some (.nx, ev) => (match (show Option Slot from ev[0]?) with
    | some (Slot.par g) => some (.non, g)
    | _ => none)
  | _ => none
/-- np parameters, n names -/
def pdef (np n : Nat) (m : SM) : List D → Option D := fun ds => if ds.length = np then outP (m (start' np n ds)) else none
def odef (np n : Nat) (m : SM) : List D → Option (List D) := fun ds => if ds.length = np then outO (m (start' np n ds)) else none
def fdef (np n : Nat) (m : SM) : List D → List D → Option (D × List D) := fun g ds => if ds.length + 1 = np then outF (m (.par g :: start' (np - 1) (n - 1) ds)) else none
section
variable {K : Fg} {cl : Str → Addr}
theorem sr_emps {V H : Hp} {q : Option Addr} : ∀ (n : Nat), SR K cl V H q (List.replicate n .emp) (List.replicate n none) []
  | 0 => .nil
  | n + 1 => by
    rw [List.replicate_succ, List.replicate_succ]
    exact .emp (sr_emps n)
theorem sr_start {V H : Hp} {q : Option Addr} (n : Nat) : ∀ {ds : List D} {vs : List L2.V}, Reps K cl V vs ds → SR K cl V H q (ds.map .val ++ List.replicate n .emp) (vs.map some ++ List.replicate n none) []
  | [], vs, h => by rw [Reps.nil_iff.1 h]; exact sr_emps n
  | d :: ds, vs, h => by
    obtain ⟨v, r, rfl, h1, h2⟩ := Reps.cons_iff.1 h
    exact .val h1 (sr_start n h2)
variable {P : Program} {w : World} {mg : Str → Option Value} {base : Heap} {x qual : Str} {params : Arguments} {body : List Stmt} {scope : Scope} {f : Addr} {fd : FuncData} {N ps : List Str} {k : Nat} {m : SM}
/-- a body that computes m in each such context -/
def Body (P : Program) (w : World) (K : Fg) (cl : Str → Addr) (mg : Str → Option Value) (base : Heap) (N : List Str) (scope : Scope) (k : Nat) (body : List Stmt) (m : SM) : Prop :=
  ∀ X : Cx, X.prog = P → X.w = w → X.K = K → X.mg = mg → X.base = base → CXo X N scope k → SS X cl body m
theorem cxo_of {cdv : Value} {A : Around} {outer : List Env} {s : Shared} {H : Hp} {E : XK} (S : FnScope N ps scope) (hr : Room k (A.deeper (envOfC qual scope s.heap.objs.size f cdv))) : CXo (cxOf CX0 P w K mg base N qual scope f cdv A outer s H E).nox N scope k :=
  ⟨rfl, ⟨S.kind, fun _ _ e _ => e, fun _ e => .inl e⟩, rfl, rfl, hr, S.nd, fun _ _ => rfl⟩
theorem start_eq (S : FnScope N ps scope) {vs : List L2.V} (h : vs.length = ps.length)  : L2.start N vs = vs.map some ++ List.replicate (N.length - ps.length) none := by
  unfold L2.start
  rw [h]
theorem tk_rl {M : List Addr} {H : Hp} {ev : Env'} {σ : L2.St} (t : Tk M H) (h : SR K cl (hid M H) H none ev σ []) : Rl K cl M none [] ev σ H := ⟨h, List.nodup_nil, by simp, t, by intro a h; cases h⟩
theorem fn_P (F : FunD K x qual params body scope [] [] f fd) (S : FnScope N ps scope) (h : Body P w K cl mg base N scope k body m) : FnOk P w K mg base CX0 (k + 1) f fd ps (spP K cl (pdef ps.length N.length m)) := by
  refine F.ok S (fun vs H Q E hs => ?_) (fun cdv A outer s H vs Q E hr hs => ?_)
  · obtain ⟨M, ds, d, h1, _, h2, _⟩ := hs
    unfold pdef at h1
    split at h1
    · next hl => rw [h2.length, hl]
    · cases h1
  · obtain ⟨M, ds, d, h1, h2, h3, h4⟩ := hs
    obtain ⟨t, p, ht⟩ := h _ rfl rfl rfl rfl rfl (cxo_of (E := E) (outer := outer) (H := H) (P := P) (w := w) (K := K) (mg := mg) (base := base) S hr)
    refine ⟨t, PSs.nox p, ?_⟩
    unfold pdef at h1
    split at h1
    · next hl =>
      have hv : vs.length = ps.length := by rw [h3.length, hl]
      rw [start_eq S hv]
      have rl : Rl K cl M none [] (start' ps.length N.length ds) (vs.map some ++ List.replicate (N.length - ps.length) none) H := tk_rl h2 (sr_start _ h3)
      unfold outP at h1
      split at h1
      · next d' ev' he =>
        cases h1
        exact ht M none [] _ _ H _ _ he rl _ fun os' σ' H' v t rl' r => h4 v H' (fun a o e => t.kp a o e (by simp) (by intro z; cases z)) r
      · next xs ev' he =>
        cases h1
        refine ht M none [] _ _ H _ _ he rl _ fun os' σ' H' p us t rl' hp hm g1 g2 => h4 _ H' (fun a o e => t.kp a o e (by simp) (by intro z; cases z)) (rep_lst g1 hm g2)
      · next ev' he =>
        cases h1
        exact ht M none [] _ _ H _ _ he rl _ fun os' σ' H' t rl' => h4 _ H' (fun a o e => t.kp a o e (by simp) (by intro z; cases z)) (rep_non.2 rfl)
      · cases h1
    · cases h1
theorem fn_O (F : FunD K x qual params body scope [] [] f fd) (S : FnScope N ps scope) (h : Body P w K cl mg base N scope k body m) : FnOk P w K mg base CX0 (k + 1) f fd ps (spO K cl (odef ps.length N.length m)) := by
  refine F.ok S (fun vs H Q E hs => ?_) (fun cdv A outer s H vs Q E hr hs => ?_)
  · obtain ⟨M, ds, d, h1, _, h2, _⟩ := hs
    unfold odef at h1
    split at h1
    · next hl => rw [h2.length, hl]
    · cases h1
  · obtain ⟨M, ds, d, h1, h2, h3, h4⟩ := hs
    obtain ⟨t, p, ht⟩ := h _ rfl rfl rfl rfl rfl (cxo_of (E := E) (outer := outer) (H := H) (P := P) (w := w) (K := K) (mg := mg) (base := base) S hr)
    refine ⟨t, PSs.nox p, ?_⟩
    unfold odef at h1
    split at h1
    · next hl =>
      have hv : vs.length = ps.length := by rw [h3.length, hl]
      rw [start_eq S hv]
      have rl : Rl K cl M none [] (start' ps.length N.length ds) (vs.map some ++ List.replicate (N.length - ps.length) none) H := tk_rl h2 (sr_start _ h3)
      unfold outO at h1
      split at h1
      · next xs ev' he =>
        cases h1
        exact ht M none [] _ _ H _ _ he rl _ fun os' σ' H' p us t rl' hp hm g1 g2 => h4 p H' us (hp.elim (fun z => by simp at z) id) (fun a o e => t.kp a o e (by simp) (by intro z; cases z)) g1 g2
      · cases h1
    · cases h1
theorem fn_F (F : FunD K x qual params body scope [] [] f fd) (S : FnScope N ps scope) (hps : 0 < ps.length) (hN : ps.length ≤ N.length) (h : Body P w K cl mg base N scope k body m) : FnOk P w K mg base CX0 (k + 1) f fd ps (spF K cl (fdef ps.length N.length m)) := by
  refine F.ok S (fun vs H Q E hs => ?_) (fun cdv A outer s H vs Q E hr hs => ?_)
  · obtain ⟨M, q, g, gv, ds, us, d, g', rfl, h1, _, _, _, _, h2, _⟩ := hs
    unfold fdef at h1
    split at h1
    · next hl => rw [List.length_cons, h2.length, hl]
    · cases h1
  · obtain ⟨M, q, g, gv, ds, us, d, g', rfl, h1, h2, h3, h4, h5, h6, h7⟩ := hs
    obtain ⟨t, p, ht⟩ := h _ rfl rfl rfl rfl rfl (cxo_of (E := E) (outer := outer) (H := H) (P := P) (w := w) (K := K) (mg := mg) (base := base) S hr)
    refine ⟨t, PSs.nox p, ?_⟩
    unfold fdef at h1
    split at h1
    · next hl =>
      have hv : (V.ref q :: us).length = ps.length := by rw [List.length_cons, h6.length, hl]
      rw [start_eq S hv]
      have e1 : (N.length - 1) - (ps.length - 1) = N.length - ps.length := by omega
      have rl : Rl K cl M (some q) [] (.par g :: start' (ps.length - 1) (N.length - 1) ds) ((V.ref q :: us).map some ++ List.replicate (N.length - ps.length) none) H := by
        refine ⟨?_, List.nodup_nil, by simp, h3, fun a ha => by cases ha; exact h2⟩
        unfold start'
        rw [e1]
        exact .par rfl h4 h5 (sr_start _ h6)
      have fin : ∀ {os' : List Addr} {σ' : L2.St} {H' : Hp} {ev' : Env'} {v : L2.V}, Tr (some q) [] H os' H' → Rl K cl M (some q) os' ev' σ' H' → ev'[0]? = some (.par g') → Rep K cl (hid M H') v d → Q v H' := by
        intro os' σ' H' ev' v t rl' h0 r
        obtain ⟨y, vs', a1, a2, a3, a4⟩ := rl'.sr.get_par h0
        cases a2
        exact h7 v H' vs' (fun a o e n => t.kp a o e (by simp) fun z => n (Option.some.inj z).symm) a3 (a4.mono (ex_le fun a ha => List.mem_append_right _ ha)) r
      unfold outF at h1
      split at h1
      · next d' ev' he =>
        split at h1
        · next g2 h0 =>
          cases h1
          exact ht M (some q) [] _ _ H _ _ he rl _ fun os' σ' H' v t rl' r => fin t rl' h0 r
        · cases h1
      · next ev' he =>
        split at h1
        · next g2 h0 =>
          cases h1
          exact ht M (some q) [] _ _ H _ _ he rl _ fun os' σ' H' t rl' => fin t rl' h0 (rep_non.2 rfl)
        · cases h1
      · cases h1
    · cases h1
end
end Lay

namespace Lay
open PySem PySem.Spec PyProof.Rows L2
open Evl (Ex)
/-! ### one name at a time -/
section
variable {X : Cx} {N : List Str} {raw scope : Scope} {k : Nat}
theorem CXo.v (h : CXo X N raw k) {i : Nat} {x : Str} (b : varB N raw i = true) (hx : N[i]? = some x) : VarAt X i x := by
  refine h.var (n := ⟨[i], [], [], []⟩) ?_ ?_ hx
  · simp [Nms.ok, b]
  · simp
theorem CXo.l (h : CXo X N raw k) {i : Nat} {x : Str} (b : lcB N raw i = true) (hx : N[i]? = some x) : LocAt X i x := by
  refine h.loc (n := ⟨[], [i], [], []⟩) ?_ ?_ hx
  · simp [Nms.ok, b]
  · simp
theorem CXo.p (h : CXo X N raw k) {i : Nat} {x : Str} (b : plB N raw i = true) (hx : N[i]? = some x) : X.env.scope.names.lookup x = some .local := by
  refine h.pl (n := ⟨[], [], [i], []⟩) ?_ (i := i) ?_ hx
  · simp [Nms.ok, b]
  · simp
theorem CXo.g (h : CXo X N raw k) {x : Str} (b : glB raw x = true) : Gl X x :=
  (h.gl (n := ⟨[], [], [], [x]⟩) (j := 0) (by simp [Nms.ok, b]) rfl).1
def clB (sc : Scope) (x : Str) : Bool := match sc.names.lookup x with
  | some .cell => true
  | _ => false
theorem CXo.c (h : CXo X N raw k) {x : Str} (b : clB raw x = true) : X.env.scope.names.lookup x = some .cell := by
  unfold clB at b
  split at b
  · next e => exact h.sc.keep x _ e (by intro z; cases z)
  · cases b
theorem CXo.rm (h : CXo X N raw k) {j : Nat} (hj : j ≤ k := by decide) : Room j X.A := h.room.mono hj
end
/-! ### chains of comparisons -/
def ch2 (f g : D → D → Option Bool) (ma mb mc : Env' → Option D) : Env' → Option Bool := fun ev => do
  let a ← ma ev
  let b ← mb ev
  let r ← f a b
  if r = true then do
    let c ← mc ev
    g b c
  else some false
section
variable {w : Bool} {X : Cx} {cl : Str → Addr} {a b c : Expr} {pos : Pos} {ma mb mc : Env' → Option D}
theorem chain_ok {r r' : R2} {f g : D → D → Option Bool} {ta tb tc : TE} (hr : RC2 X.K cl r f) (hr' : RC2 X.K cl r' g)
    (ha : ∀ M q os ev σ H d, ma ev = some d → Rl X.K cl M q os ev σ H → ∀ Q : VK, (∀ v H', Ex H H' → Rep X.K cl (hid (vw false os M) H') v d → Q v H') → ta σ H Q)
    (hb : ∀ M q os ev σ H d, mb ev = some d → Rl X.K cl M q os ev σ H → ∀ Q : VK, (∀ v H', Ex H H' → Rep X.K cl (hid (vw false os M) H') v d → Q v H') → tb σ H Q)
    (hc : ∀ M q os ev σ H d, mc ev = some d → Rl X.K cl M q os ev σ H → ∀ Q : VK, (∀ v H', Ex H H' → Rep X.K cl (hid (vw false os M) H') v d → Q v H') → tc σ H Q) :
    ∀ M q os ev σ H d, ch2 f g ma mb mc ev = some d → Rl X.K cl M q os ev σ H → ∀ Q : VK, (∀ H', Ex H H' → Q (.bl d) H') → tChain r r' ta tb tc σ H Q := by
  intro M q os ev σ H d hm rl Q k
  obtain ⟨x, h1, hm⟩ := bind_some' hm
  obtain ⟨y, h2, hm⟩ := bind_some' hm
  obtain ⟨z, h3, hm⟩ := bind_some' hm
  refine ha M q os ev σ H x h1 rl _ fun v H1 x1 r1 => hb M q os ev σ H1 y h2 (rl.ex x1) _ fun u H2 x2 r2 => hr _ _ _ _ _ _ _ h3 ((rl.ex (x1.trans x2)).tk false) (r1.mono (ex_hid x2)) r2 _ fun H3 x3 => ⟨z, rfl, ?_⟩
  have x13 := (x1.trans x2).trans x3
  cases z with
  | true =>
    rw [if_pos rfl] at hm
    obtain ⟨t, h4, hm⟩ := bind_some' hm
    exact iteT (hc M q os ev σ H3 t h4 (rl.ex x13) _ fun w' H4 x4 r4 => hr' _ _ _ _ _ _ _ hm ((rl.ex (x13.trans x4)).tk false) (r2.mono (ex_hid (x3.trans x4))) r4 _ fun H5 x5 => k H5 ((x13.trans x4).trans x5))
  | false =>
    rw [if_neg Bool.false_ne_true] at hm
    cases hm
    exact iteF (k H3 x13)
theorem ev_chain {op op' : CmpOp} {r r' : R2} {f g : D → D → Option Bool} (ho : OpR X (compareOp op) r) (hr : RC2 X.K cl r f) (ho' : OpR X (compareOp op') r') (hr' : RC2 X.K cl r' g) (ha : EV false X cl a ma) (hb : EV false X cl b mb) (hc : EV false X cl c mc)
    (hm : lastMarks [op, op'] [b, c] = false := by with_unfolding_all rfl) : EV w X cl (.Compare a [op, op'] [b, c] pos) (vB (ch2 f g ma mb mc)) := by
  obtain ⟨ta, pa, ha⟩ := ha
  obtain ⟨tb, pb, hb⟩ := hb
  obtain ⟨tc, pc, hc⟩ := hc
  refine ⟨_, pe_chain ho ho' pa pb pc hm, fun M q os ev σ H d hm rl Q k => ?_⟩
  obtain ⟨x, h1, rfl⟩ := Option.map_eq_some_iff.1 hm
  exact chain_ok hr hr' ha hb hc M q os ev σ H x h1 rl _ fun H' x' => k _ H' x' (rep_bl.2 rfl)
theorem et_chain {op op' : CmpOp} {r r' : R2} {f g : D → D → Option Bool} (ho : OpR X (compareOp op) r) (hr : RC2 X.K cl r f) (ho' : OpR X (compareOp op') r') (hr' : RC2 X.K cl r' g) (ha : EV false X cl a ma) (hb : EV false X cl b mb) (hc : EV false X cl c mc)
    (hm : lastMarks [op, op'] [b, c] = false := by with_unfolding_all rfl) : ET X cl (.Compare a [op, op'] [b, c] pos) (ch2 f g ma mb mc) := by
  obtain ⟨ta, pa, ha⟩ := ha
  obtain ⟨tb, pb, hb⟩ := hb
  obtain ⟨tc, pc, hc⟩ := hc
  refine ⟨_, pt_chain ho ho' pa pb pc hm, fun M q os ev σ H d hm rl Q k => ?_⟩
  exact chain_ok hr hr' ha hb hc M q os ev σ H d hm rl _ fun H' x' => ⟨d, rfl, k H' x'⟩
/-! ### list.index -/
def idxD (e : D) : List D → Option Nat
  | [] => none
  | y :: ys => if D.eqF y e = true then some 0 else (idxD e ys).map (· + 1)
def D.index : D → D → Option D
  | .lst xs, e => if e.flat = true ∧ xs.all D.flat = true then (idxD e xs).map (fun (i : Nat) => D.int (i : Int)) else none
  | _, _ => none
theorem idxD_get {e : D} : ∀ {ds : List D} {j : Nat}, idxD e ds = some j → (∃ z, ds[j]? = some z ∧ D.eqF z e = true) ∧ ∀ m z, m < j → ds[m]? = some z → D.eqF z e = false
  | [], j, h => by simp [idxD] at h
  | y :: ys, j, h => by
    unfold idxD at h
    split at h
    · next he =>
      cases h
      exact ⟨⟨y, rfl, he⟩, fun m z hm => by omega⟩
    · next he =>
      obtain ⟨i, h1, rfl⟩ := Option.map_eq_some_iff.1 h
      obtain ⟨⟨z, h2, h3⟩, h4⟩ := idxD_get h1
      refine ⟨⟨z, by simpa using h2, h3⟩, fun m z' hm hz => ?_⟩
      cases m with
      | zero => simp at hz; subst hz; simpa using he
      | succ m => exact h4 m z' (by omega) (by simpa using hz)
theorem ev_index {apos : Pos} (ha : EV false X cl a ma) (hb : EV false X cl b mb)
    (hpe : ∀ ta te, PE X a ta → PE X b te → PE X (.Call (.Attribute a "index" apos) [b] [] pos) (tBM X.K "list" (rIndex X.K) ta (tCons te tNil))) : EV w X cl (.Call (.Attribute a "index" apos) [b] [] pos) (m2 D.index ma mb) := by
  obtain ⟨ta, pa, ha⟩ := ha
  obtain ⟨tb, pb, hb⟩ := hb
  refine ⟨_, hpe _ _ pa pb, fun M q os ev σ H d hm rl Q k => ?_⟩
  obtain ⟨x, h1, hm⟩ := bind_some' hm
  obtain ⟨y, h2, hm⟩ := bind_some' hm
  refine ha M q os ev σ H x h1 rl _ fun v H1 x1 r1 => ?_
  unfold D.index at hm
  split at hm
  · split at hm
    · next hf =>
      obtain ⟨j, h3, rfl⟩ := Option.map_eq_some_iff.1 hm
      obtain ⟨⟨z, g1, g2⟩, g3⟩ := idxD_get h3
      obtain ⟨p, vs, rfl, ha1, ra⟩ := rep_list.1 r1
      have hp1 := (hid_some ha1).2
      refine ⟨.inl ⟨rfl, _, .of hp1⟩, hb M q os ev σ H1 y h2 (rl.ex x1) _ fun u H2 x2 r2 => ?_⟩
      have ra2 := ra.mono (ex_hid (M := vw false os M) x2)
      obtain ⟨zv, e1, e2⟩ := ra2.get g1
      have fz := List.all_eq_true.1 hf.2
      refine ⟨p, vs, u, j, zv, rfl, rfl, .of (x2 _ _ hp1), flat_V r2 hf.1, flat_Vs ra2 hf.2, e1, ?_, fun m z' hm hz => ?_, k _ H2 (x1.trans x2) (rep_int.2 rfl)⟩
      · rw [eqF_V e2 r2 (fz _ (List.mem_of_getElem? g1)) hf.1]; exact g2
      · obtain ⟨d', e3, e4⟩ := ra2.getV hz
        rw [eqF_V e4 r2 (fz _ (List.mem_of_getElem? e3)) hf.1]
        exact g3 m d' hm e3
    · cases hm
  · cases hm
end
end Lay

namespace Lay
open PySem PySem.Spec PyProof.Rows L2
open Evl (Ex)
/-! ### what the printed walks use -/
def anil : Env' → Option (List D) := fun _ => some []
def xl (m : Env' → Option (List D)) : Env' → Option D := fun ev => (m ev).map D.lst
def sfz (i : Nat) (m : SM) : SM := fun ev => m (frz i ev)
def emN : Env' → Option (List MR × Env') := fun ev => some ([], ev)
def sbk : SM := fun ev => some (.bk, ev)
def sct : SM := fun ev => some (.ct, ev)
def fL1o (f : List D → Option (List D)) (m : Env' → Option (List D × Env')) : Env' → Option (D × Env') := fun ev => do
  let r ← m ev
  let d ← f r.1
  some (.lst d, r.2)
theorem fl_int : fL bInt := by
  intro ds d h
  unfold bInt at h
  split at h
  · cases h; rfl
  · cases h; rfl
  · cases h
theorem fl_abs : fL bAbs := by
  intro ds d h
  unfold bAbs at h
  split at h
  · cases h; rfl
  · cases h
theorem fl_max : fL bMax := by
  intro ds d h
  unfold bMax at h
  split at h
  · cases h; rfl
  · cases h
theorem fl_min : fL bMin := by
  intro ds d h
  unfold bMin at h
  split at h
  · cases h; rfl
  · cases h
theorem fl_sum : fL bSum := by
  intro ds d h
  unfold bSum at h
  split at h
  · obtain ⟨x, h1, h2⟩ := Option.map_eq_some_iff.1 h
    cases h2; rfl
  · cases h
/-- built-in names are free -/
structure Bs (mg : Str → Option Value) : Prop where
  len_ : mg "len" = none
  int_ : mg "int" = none
  abs_ : mg "abs" = none
  max_ : mg "max" = none
  min_ : mg "min" = none
  sum_ : mg "sum" = none
  sorted_ : mg "sorted" = none
  list_ : mg "list" = none
  tuple_ : mg "tuple" = none
  range_ : mg "range" = none
  enumerate_ : mg "enumerate" = none
  zip_ : mg "zip" = none
  reversed_ : mg "reversed" = none
  isinstance_ : mg "isinstance" = none
  repr_ : mg "repr" = none
  bool_ : mg "bool" = none
  str_ : mg "str" = none
section
variable {X : Cx} {N : List Str} {raw scope : Scope} {k : Nat} {cl : Str → Addr} {e : Expr} {es : List Expr} {pos : Pos}
theorem CXo.un (h : CXo X N raw k) : X.A.units + 64 < cLine := by have := h.room.un; omega
theorem ef_callO {x : Str} {p : Pos} {k : Nat} {ps : List Str} {m : List D → Option (List D)} {ma : Env' → Option (List D × Env')} (F : FnG X.prog X.w X.K X.mg X.base x k ps (spO X.K cl m)) (hr : Room k X.A) (hg : Gl X x) (ha : EFA X cl (e :: es) ma) (hdb : (x == ("__debug__" : Str)) = false)
    (he : starEach (e :: es) X.env = (false, eval e X.env) :: starEach es X.env := by rfl) (hpl : (backTo pos (starEach es X.env)).any (·.1) = false := by rfl) : EF X cl (.Call (.Name x p) (e :: es) [] pos) (fL1o m ma) := by
  obtain ⟨f, fd, F, hm, hk, hb⟩ := F.ok
  obtain ⟨ta, pa, ha⟩ := ha
  refine ⟨_, pe_call F hr hg hm hk hb .nil pass0 pa hdb he hpl, fun M q os ev σ H d ev' hm rl Q k => ?_⟩
  obtain ⟨⟨ds, ev1⟩, h1, hm⟩ := bind_some' hm
  obtain ⟨d', h2, hm⟩ := bind_some' hm
  cases hm
  refine ha M q os ev σ H ds _ h1 rl _ fun vs H1 t1 rl1 r1 => ?_
  rw [List.append_nil]
  refine ⟨_, ds, d', h2, rl1.tk true, r1, fun p H2 us hn x2 g1 g2 => k _ H2 (t1.trans (.of_ex x2)) (rl1.ex x2) (rep_lst g1 ((rl1.tk true).new hn) g2)⟩
end
end Lay

namespace Lay
open PySem PySem.Spec PyProof.Rows L2
open Evl (Ex)
/-! ### the one class of the program -/
def tyNames : List String := ["NoneType", "bool", "int", "str", "list", "tuple"]
structure ClsG (K : Fg) (C : Addr) : Prop where
  cls : Cls K C
  ha : PySem.W.findIn K (.ref C) "__class__" = some (some (.builtin "object.__class__"))
  hn : PySem.W.specialIn K (.builtin "object.__class__") "__get__" = some (some (.builtin "getset_descriptor.__get__"))
  htk : PySem.W.takesIn K (.builtin "object.__class__") = some true
  hm : PySem.W.mroIn K C (.type "object") = some true
  me : PySem.W.kitOne K (.ref C) (.ref C) = some true
  no : ∀ t ∈ tyNames, PySem.W.kitOne K (.type t) (.ref C) = some false
  nf : ∀ t ∈ tyNames, PySem.W.subIn K (.type t) (.ref C) = some false
def D.tn : D → Option String
  | .non => some "NoneType"
  | .bl _ => some "bool"
  | .int _ => some "int"
  | .str _ => some "str"
  | .lst _ => some "list"
  | .tup _ => some "tuple"
  | _ => none
theorem tn_mem {d : D} {t : String} (h : d.tn = some t) : t ∈ tyNames := by
  cases d <;> first | (cases h; decide) | cases h
theorem tyx {K : Fg} {cl : Str → Addr} {M : List Addr} {H : Hp} {d : D} {v : L2.V} {t : String} (h : Rep K cl (hid M H) v d) (e : d.tn = some t) : TyX K H v (.type t) := by
  cases d with
  | non => cases e; rw [rep_non.1 h]; exact .base .non
  | bl b => cases e; rw [rep_bl.1 h]; exact .base (.bl b)
  | int b => cases e; rw [rep_int.1 h]; exact .base (.int b)
  | str b => cases e; rw [rep_str.1 h]; exact .base (.str b)
  | lst xs =>
    cases e
    obtain ⟨a, vs, rfl, h1, _⟩ := rep_list.1 h
    exact .base (.lst (hid_some h1).2)
  | tup xs =>
    cases e
    obtain ⟨a, vs, rfl, h1, _⟩ := rep_tup.1 h
    exact .base (.tup (hid_some h1).2)
  | scr _ => cases e
  | obj _ _ _ => cases e
/-- isinstance(d, T) -/
def D.isT (T : String) (d : D) : Option D := d.tn.bind fun t => (kitB t T).map D.bl
def D.isC (c : Str) : D → Option D
  | .obj c' _ _ => if c' = c then some (.bl true) else none
  | d => d.tn.map fun _ => .bl false
section
variable {w : Bool} {X : Cx} {cl : Str → Addr} {a : Expr} {p p2 pos : Pos} {ma : Env' → Option D}
theorem ev_isT {x : Str} {T : String} (hg : Gl X "isinstance") (hm : X.mg "isinstance" = none) (hg2 : Gl X x) (hm2 : X.mg x = none) (hv : bootBuiltins x = some (.type T)) (ha : EV false X cl a ma) (hn : x ≠ "__name__") (hd : (x == ("__debug__" : Str)) = false)
    (he : starEach [a, .Name x p2] X.env = (false, eval a X.env) :: starEach [.Name x p2] X.env := by rfl) (hpl : (backTo pos (starEach [.Name x p2] X.env)).any (·.1) = false := by rfl) (he2 : starEach [.Name x p2] X.env = (false, eval (.Name x p2) X.env) :: starEach [] X.env := by rfl) :
    EV w X cl (.Call (.Name "isinstance" p) [a, .Name x p2] [] pos) (m1 (D.isT T) ma) := by
  obtain ⟨ta, pa, ha⟩ := ha
  refine ⟨_, pe_callB call_isi hg hm (by decide +kernel) (pa_cons pa (pa_cons (pe_bltn hg2 hm2 hv (v := .ty T) rfl hn hd) pa_nil he2) he) (by decide +kernel) (by decide +kernel) he hpl, fun M q os ev σ H d hm rl Q k => ?_⟩
  obtain ⟨x, h1, hm⟩ := bind_some' hm
  refine ha M q os ev σ H x h1 rl _ fun v H1 x1 r1 => ?_
  obtain ⟨t, h2, h3⟩ := Option.bind_eq_some_iff.1 hm
  obtain ⟨b, h4, rfl⟩ := Option.map_eq_some_iff.1 h3
  exact ⟨v, .ty T, _, _, b, rfl, .ty T, tyx r1 h2, kit_ty h4, k _ H1 x1 (rep_bl.2 rfl)⟩
theorem ev_isC {x : Str} (G : ClsG X.K (cl x)) (hg : Gl X "isinstance") (hm : X.mg "isinstance" = none) (hg2 : Gl X x) (hm2 : X.mg x = some (.ref (cl x))) (ha : EV false X cl a ma) (hd : (x == ("__debug__" : Str)) = false)
    (he : starEach [a, .Name x p2] X.env = (false, eval a X.env) :: starEach [.Name x p2] X.env := by rfl) (hpl : (backTo pos (starEach [.Name x p2] X.env)).any (·.1) = false := by rfl) (he2 : starEach [.Name x p2] X.env = (false, eval (.Name x p2) X.env) :: starEach [] X.env := by rfl) :
    EV w X cl (.Call (.Name "isinstance" p) [a, .Name x p2] [] pos) (m1 (D.isC x) ma) := by
  obtain ⟨ta, pa, ha⟩ := ha
  refine ⟨_, pe_callB call_isi hg hm (by decide +kernel) (pa_cons pa (pa_cons (pe_glob hg2 hm2 (v := .ref (cl x)) rfl hd) pa_nil he2) he) (by decide +kernel) (by decide +kernel) he hpl, fun M q os ev σ H d hm rl Q k => ?_⟩
  obtain ⟨y, h1, hm⟩ := bind_some' hm
  refine ha M q os ev σ H y h1 rl _ fun v H1 x1 r1 => ?_
  have no : ∀ {t : String}, y.tn = some t → d = .bl false → rIsi X.K [v, .ref (cl x)] H1 Q := fun {t} ht hd => ⟨v, .ref (cl x), _, _, false, rfl, .own _, tyx r1 ht, G.no t (tn_mem ht), k _ H1 x1 (by rw [hd]; exact rep_bl.2 rfl)⟩
  unfold D.isC at hm
  split at hm
  · next c' ns ds =>
    split at hm
    · next hc =>
      cases hm
      unfold Rep at r1
      obtain ⟨b, dx, vs, rfl, hb, _, _⟩ := r1
      rw [hc] at hb
      exact ⟨_, .ref (cl x), _, _, true, rfl, .own _, .base (.ins (hid_some hb).2 G.cls G.ha G.hn G.htk G.hm), G.me, k _ H1 x1 (rep_bl.2 rfl)⟩
    · cases hm
  · obtain ⟨t, h2, rfl⟩ := Option.map_eq_some_iff.1 hm
    exact no h2 rfl
/-! repr of a number, of None -/
def D.repr : D → Option D
  | .int i => if i.natAbs < 1000000 then some (.str (toString i)) else none
  | .non => some (.str "None")
  | _ => none
def rReprD : List L2.V → Hp → VK → Prop := fun xs H Q => (∃ i, xs = [.int i] ∧ i.natAbs.log2 < 1920 ∧ Q (.str (toString i)) H) ∨ (xs = [.non] ∧ Q (.str "None") H)
theorem call_reprD : CallR X (.builtin "repr") rReprD := SkE.call_repr_int.or (by
  intro pins s σ H xs us Q I r h
  obtain ⟨rfl, q⟩ := h
  obtain ⟨u, rfl, hu⟩ := vals1 r
  cases (show u = Value.none from hu)
  exact PySem.P.repr_of_none ⟨.str _, H, I.tok _, ⟨_, rfl⟩, q⟩)
def bRepr : List D → Option D
  | [d] => d.repr
  | _ => none
theorem rdl_repr {K : Fg} : RDL K cl rReprD bRepr := by
  intro M H x d d' hf t hx Q k
  unfold bRepr at hf
  split at hf
  · obtain ⟨v, rfl, h⟩ := reps1 hx
    unfold D.repr at hf
    split at hf
    · next i =>
      split at hf
      · next hi =>
        cases hf
        rw [rep_int.1 h]
        refine .inl ⟨i, rfl, ?_, k _ H Ex0 (rep_str.2 rfl)⟩
        by_cases h0 : i.natAbs = 0
        · rw [h0]; decide
        · refine (Nat.log2_lt h0).2 (Nat.lt_of_lt_of_le hi ?_)
          exact Nat.le_trans (by decide : 1000000 ≤ 2 ^ 20) (Nat.pow_le_pow_right (by decide) (by decide))
      · cases hf
    · cases hf
      rw [rep_non.1 h]
      exact .inr ⟨rfl, k _ H Ex0 (rep_str.2 rfl)⟩
    · cases hf
  · cases hf
theorem fl_repr : fL bRepr := by
  intro ds d h
  unfold bRepr at h
  split at h
  · unfold D.repr at h
    split at h
    · split at h
      · cases h; rfl
      · cases h
    · cases h; rfl
    · cases h
  · cases h
end
/-! ### keywords -/
def reordL {α : Type} (is : List Nat) (xs : List α) : List α := is.filterMap fun i => xs[i]?
theorem reordL_reps {K : Fg} {cl : Str → Addr} {H : Hp} {vs : List L2.V} {ds : List D} (h : Reps K cl H vs ds) : ∀ is : List Nat, Reps K cl H (reordL is vs) (reordL is ds)
  | [] => Reps.nil
  | i :: is => by
    unfold reordL
    have ih := reordL_reps h is
    cases hd : ds[i]? with
    | none =>
      have hv : vs[i]? = none := by
        rw [List.getElem?_eq_none_iff] at hd ⊢
        rw [h.length]; exact hd
      rw [List.filterMap_cons_none hv, List.filterMap_cons_none hd]
      exact ih
    | some d =>
      obtain ⟨v, h1, h2⟩ := h.get hd
      rw [List.filterMap_cons_some h1, List.filterMap_cons_some hd]
      exact Reps.cons h2 ih
theorem vals_get {vs : List L2.V} {us : List Value} (h : Vals vs us) : ∀ i : Nat, (vs[i]? = none ∧ us[i]? = none) ∨ ∃ v u, vs[i]? = some v ∧ us[i]? = some u ∧ RelV v u := by
  induction h with
  | nil => intro i; exact .inl ⟨rfl, rfl⟩
  | cons r t ih =>
    intro i
    cases i with
    | zero => exact .inr ⟨_, _, rfl, rfl, r⟩
    | succ i => simpa using ih i
theorem reordL_vals {vs : List L2.V} {us : List Value} (h : Vals vs us) : ∀ is : List Nat, Vals (reordL is vs) (reordL is us)
  | [] => .nil
  | i :: is => by
    unfold reordL
    have ih := reordL_vals h is
    rcases vals_get h i with ⟨a, b⟩ | ⟨v, u, a, b, r⟩
    · rw [List.filterMap_cons_none a, List.filterMap_cons_none b]
      exact ih
    · rw [List.filterMap_cons_some a, List.filterMap_cons_some b]
      exact .cons r ih
section
variable {K : Fg} {x qual : Str} {params : Arguments} {body : List Stmt} {scope : Scope} {f : Addr} {fd : FuncData} {ps ks : List Str}
theorem kb_of (F : FunD K x qual params body scope [] [] f fd) (n : Nat) (is : List Nat)
    (h : ∀ (kV doc pm : Value) (an : Option Addr) (cdv ct : Value) (us ws : List Value), us.length = n → ws.length = ks.length → bindArgs (PySem.W.fnOf x qual params body scope .none kV doc pm an cdv ct) ⟨us, ks.zip ws⟩ = pure (ps.zip (reordL is (us ++ ws)))) :
    KBn K fd ps n ks (fun us ws => reordL is (us ++ ws)) (fun vs zs => reordL is (vs ++ zs)) := by
  obtain ⟨oc, od, dV, kV, doc, pm, an, cdv, ct, osl, rfl, lk, hcd, hD, hK⟩ := F.ex
  rcases hD with ⟨_, rfl⟩ | ⟨e, _⟩
  · exact ⟨fun s us ws _ l1 l2 => .of_eq (h kV doc pm an cdv ct us ws l1 l2), fun r1 r2 => reordL_vals (r1.append r2) is⟩
  · exact absurd rfl e
end
/-- a def that may be called by keywords: n values by position, keywords ks; is: where each parameter's value stands -/
structure FnK (P : Program) (w : World) (K : Fg) (mg : Str → Option Value) (base : Heap) (x : Str) (k : Nat) (ps : List Str) (sp : Sp) (n : Nat) (ks : List Str) (is : List Nat) : Prop where
  ok : ∃ f fd, FnOk P w K mg base CX0 k f fd ps sp ∧ mg x = some (.ref f) ∧ PySem.W.keepIn K (.ref f) = true ∧ KBn K fd ps n ks (fun us ws => reordL is (us ++ ws)) (fun vs zs => reordL is (vs ++ zs))
section
variable (w : Bool) (X : Cx) (cl : Str → Addr)
def EK (kws : List Keyword) (m : Env' → Option (List D)) : Prop :=
  ∃ te, PK X kws te ∧ ∀ M q os ev σ H d, m ev = some d → Rl X.K cl M q os ev σ H → ∀ Q : List L2.V → Hp → Prop, (∀ v H', Ex H H' → Reps X.K cl (hid (vw w os M) H') v d → Q v H') → te σ H Q
end
section
variable {w : Bool} {X : Cx} {cl : Str → Addr} {e : Expr} {es : List Expr} {kws : List Keyword} {p pos kpos : Pos} {nm : Option Str} {m ma : Env' → Option D} {n mk mp : Env' → Option (List D)}
theorem ek_nil : EK w X cl [] anil := by
  refine ⟨_, pk_nil, fun M q os ev σ H d hm r Q k => ?_⟩
  cases hm
  exact k _ _ Ex0 Reps.nil
theorem ek_cons (h : EV w X cl e m) (t : EK w X cl kws n) : EK w X cl (⟨nm, e, kpos⟩ :: kws) (acons m n) := by
  obtain ⟨te, hp, h⟩ := h
  obtain ⟨tr, hr, t⟩ := t
  refine ⟨_, pk_cons hp hr, fun M q os ev σ H d hm r Q k => ?_⟩
  obtain ⟨d, ds, h1, h2, rfl⟩ := acons_some hm
  exact h M q os ev σ H d h1 r _ fun v H1 e1 r1 => t M q os ev σ H1 ds h2 (r.ex e1) _ fun vs H2 e2 r2 => k _ _ (e1.trans e2) (Reps.cons (r1.mono (ex_hid e2)) r2)
/-- f(e, .., k = v, ..) -/
def mK (is : List Nat) (n l : Nat) (f : List D → Option D) (mp mk : Env' → Option (List D)) : Env' → Option D := fun ev => do
  let a ← mp ev
  let b ← mk ev
  if a.length = n ∧ b.length = l then f (reordL is (a ++ b)) else none
theorem pe_callN0 {CX : CXT} {k : Nat} {f : Addr} {fd : FuncData} {ps ks : List Str} {sp : Sp} {E : XK} {x : Str} {tk : TA} {g : List Value → List Value → List Value} {gV : List L2.V → List L2.V → List L2.V}
    (F : FnOk X.prog X.w X.K X.mg X.base CX k f fd ps sp) (hr : Room k X.A) (hg : Gl X x) (hm : X.mg x = some (.ref f)) (hk : PySem.W.keepIn X.K (.ref f) = true) (hb : KBn X.K fd ps 0 ks g gV) (hx : Passes CX X E) (hkw : PK X kws tk)
    (hall : (backToKw pos (keywordEach kws X.env)).all (·.1.isSome) = true := by rfl) (hks : (backToKw pos (keywordEach kws X.env)).filterMap (·.1) = ks := by rfl) (hdb : (x == ("__debug__" : Str)) = false := by decide)
    (hpl : ((backTo pos (starEach [] X.env)).any (·.1) || (backToKw pos (keywordEach kws X.env)).any (·.1.isNone)) = false := by rfl) :
    PE X (.Call (.Name x p) [] kws pos) (tCallN 0 ks.length sp gV E tNil tk) := by
  refine ⟨fun pins s σ H Q I h => ?_⟩
  refine wpAny_Call_Name_kw (ld_glob I hg hm ?_ hdb)
  refine PySem.W.callWith_KW0 (h₀ := X.base) I.ok.mod.kin hk hall ?_ hpl
  refine thn (hkw.run pos pins s σ H _ I h) fun ws s2 ⟨zs, H2, I2, rz, l1, l2, q2⟩ => ⟨I2.kIn, ?_⟩
  rw [hks]
  exact run_fnN (us := []) (vs := []) F hr hb hx I2 .nil rz rfl l2 q2
theorem ev_callK0 {x : Str} {k : Nat} {ps ks : List Str} {is : List Nat} {m : List D → Option D} (F : FnK X.prog X.w X.K X.mg X.base x k ps (spP X.K cl m) 0 ks is) (hr : Room k X.A) (hg : Gl X x) (ha : EK w X cl kws mk) (hdb : (x == ("__debug__" : Str)) = false)
    (hall : (backToKw pos (keywordEach kws X.env)).all (·.1.isSome) = true := by rfl) (hks : (backToKw pos (keywordEach kws X.env)).filterMap (·.1) = ks := by rfl)
    (hpl : ((backTo pos (starEach [] X.env)).any (·.1) || (backToKw pos (keywordEach kws X.env)).any (·.1.isNone)) = false := by rfl) :
    EV w X cl (.Call (.Name x p) [] kws pos) (mK is 0 ks.length m anil mk) := by
  obtain ⟨f, fd, F, hm, hk, hb⟩ := F.ok
  obtain ⟨ta, pa, ha⟩ := ha
  refine ⟨_, pe_callN0 F hr hg hm hk hb pass0 pa hall hks hdb hpl, fun M q os ev σ H d hm rl Q k => ?_⟩
  obtain ⟨a, h0, hm⟩ := bind_some' hm
  obtain ⟨ds, h1, hm⟩ := bind_some' hm
  cases h0
  split at hm
  · next hl =>
    refine ha M q os ev σ H ds h1 rl _ fun vs H1 x1 r1 => ⟨rfl, by rw [r1.length]; exact hl.2, ?_⟩
    exact ⟨_, _, d, hm, (rl.ex x1).tk w, reordL_reps (Reps.nil.append r1) is, fun v H2 x2 r2 => k v H2 (x1.trans x2) r2⟩
  · cases hm
theorem ev_callKN {x : Str} {k j : Nat} {ps ks : List Str} {is : List Nat} {m : List D → Option D} (F : FnK X.prog X.w X.K X.mg X.base x k ps (spP X.K cl m) j ks is) (hr : Room k X.A) (hg : Gl X x) (hp : EA w X cl (e :: es) mp) (ha : EK w X cl kws mk) (hdb : (x == ("__debug__" : Str)) = false)
    (hall : (backToKw pos (keywordEach kws X.env)).all (·.1.isSome) = true := by rfl) (hks : (backToKw pos (keywordEach kws X.env)).filterMap (·.1) = ks := by rfl) (he : starEach (e :: es) X.env = (false, eval e X.env) :: starEach es X.env := by rfl)
    (hpl : ((backTo pos (starEach (e :: es) X.env)).any (·.1) || (backToKw pos (keywordEach kws X.env)).any (·.1.isNone)) = false := by rfl) :
    EV w X cl (.Call (.Name x p) (e :: es) kws pos) (mK is j ks.length m mp mk) := by
  obtain ⟨f, fd, F, hm, hk, hb⟩ := F.ok
  obtain ⟨tp, pp, hp⟩ := hp
  obtain ⟨ta, pa, ha⟩ := ha
  refine ⟨_, pe_callN F hr hg hm hk hb pass0 pp pa hall hks hdb he hpl, fun M q os ev σ H d hm rl Q k => ?_⟩
  obtain ⟨a, h0, hm⟩ := bind_some' hm
  obtain ⟨ds, h1, hm⟩ := bind_some' hm
  split at hm
  · next hl =>
    refine hp M q os ev σ H a h0 rl _ fun us H0 x0 r0 => ha M q os ev σ H0 ds h1 (rl.ex x0) _ fun vs H1 x1 r1 => ⟨by rw [r0.length]; exact hl.1, by rw [r1.length]; exact hl.2, ?_⟩
    exact ⟨_, _, d, hm, (rl.ex (x0.trans x1)).tk w, reordL_reps ((r0.mono (ex_hid x1)).append r1) is, fun v H2 x2 r2 => k v H2 ((x0.trans x1).trans x2) r2⟩
  · cases hm
end
end Lay

namespace Lay
open PySem PySem.Spec PyProof.Rows L2
open Evl (Ex)
/-! ### the table of kinds -/
def bndI (z : Str) : Option (Int × Int) := if z = "plain" then some (1, 7) else if z = "mirror" then some (1, 5) else if z = "ring" then some (2, 5) else none
structure BndG (w : World) (K : Fg) (mg : Str → Option Value) : Prop where
  ok : ∃ d es n, mg "BOUNDS" = some (.ref d) ∧ KDict K w d es n ∧ ∀ z a b, bndI z = some (a, b) → ∃ t, PySem.W.nsIn K d z = some (some (.ref t)) ∧ ∀ H, SqT K H t [.int a, .int b]
def D.bnot : D → Option Bool
  | .str z => if (bndI z).isSome = true then some false else none
  | _ => none
def tbnot (m : Env' → Option D) : Env' → Option Bool := fun ev => do let d ← m ev; d.bnot
def D.bix : D → D → Option D
  | .str z, .int i => (match bndI z with
    | some (a, b) => if i = 0 then some (.int a) else if i = 1 then some (.int b) else none
    | none => none)
  | _, _ => none
section
variable {w : Bool} {X : Cx} {cl : Str → Addr} {a b : Expr} {p p2 p3 pos : Pos} {ma mb : Env' → Option D}
theorem et_bnot (B : BndG X.w X.K X.mg) (hg : Gl X "BOUNDS") (ha : EV false X cl a ma) (hmk : behindInMarks .NotIn (.Name "BOUNDS" p) = false := by rfl) : ET X cl (.Compare a [.NotIn] [.Name "BOUNDS" p] pos) (tbnot ma) := by
  obtain ⟨d, es, n, hm, hd, hv⟩ := B.ok
  obtain ⟨ta, pa, ha⟩ := ha
  refine ⟨_, pt_cmpR (op_notIn_kd hd) pa (pe_glob hg hm (v := .ref d) rfl) hmk, fun M q os ev σ H r hm rl Q k => ?_⟩
  obtain ⟨x, h1, hm⟩ := bind_some' hm
  refine ha M q os ev σ H x h1 rl _ fun v H1 x1 r1 => ?_
  unfold D.bnot at hm
  split at hm
  · next z =>
    split at hm
    · next hz =>
      cases hm
      obtain ⟨⟨a, b⟩, hab⟩ := Option.isSome_iff_exists.1 hz
      obtain ⟨t, h2, _⟩ := hv z a b hab
      exact ⟨z, _, rep_str.1 r1, rfl, h2, false, rfl, k H1 x1⟩
    · cases hm
  · cases hm
theorem ev_bix (B : BndG X.w X.K X.mg) (hg : Gl X "BOUNDS") (ha : EV w X cl a ma) (hb : EV w X cl b mb) (hs : PlainIx a) (hs2 : PlainIx b) : EV w X cl (.Subscript (.Subscript (.Name "BOUNDS" p) a p2) b pos) (m2 D.bix ma mb) := by
  obtain ⟨d, es, n, hm, hd, hv⟩ := B.ok
  obtain ⟨ta, pa, ha⟩ := ha
  obtain ⟨tb, pb, hb⟩ := hb
  refine ⟨_, pe_ix ix_seq (pe_ix ix_kdict (pe_glob hg hm (v := .ref d) rfl) pa hs) pb hs2, fun M q os ev σ H r hm rl Q k => ?_⟩
  obtain ⟨x, h1, hm⟩ := bind_some' hm
  obtain ⟨y, h2, hm⟩ := bind_some' hm
  refine ha M q os ev σ H x h1 rl _ fun v H1 x1 r1 => ?_
  unfold D.bix at hm
  split at hm
  · next z i _ =>
    split at hm
    · next a' b' hab =>
      obtain ⟨t, h3, h4⟩ := hv z a' b' hab
      refine ⟨d, z, .ref t, rfl, rep_str.1 r1, ⟨es, n, _, hd.at_, hd.lit, h3, rfl⟩, ?_⟩
      refine hb M q os ev σ H1 _ h2 (rl.ex x1) _ fun u H2 x2 r2 => ?_
      split at hm
      · next hi =>
        cases hm
        exact .inr (.inl ⟨t, _, i, .int a', rfl, rep_int.1 r2, h4 H2, by rw [hi]; rfl, k _ H2 (x1.trans x2) (rep_int.2 rfl)⟩)
      · split at hm
        · next hi =>
          cases hm
          exact .inr (.inl ⟨t, _, i, .int b', rfl, rep_int.1 r2, h4 H2, by rw [hi]; rfl, k _ H2 (x1.trans x2) (rep_int.2 rfl)⟩)
        · cases hm
    · cases hm
  · cases hm
end
/-! ### new objects -/
/-- what an __init__ promises: the new object is told by its data -/
def spI (K : Fg) (cl : Str → Addr) (m : List D → Option D) : Sp := fun vs H Q _ => ∃ M x dx us ds c ns fs, vs = .ref x :: us ∧ m ds = some (.obj c ns fs) ∧ Tk M H ∧ x ∉ M ∧ H x = some (.ins (cl c) dx []) ∧ Reps K cl (hid (x :: M) H) us ds ∧
  ∀ H', (∀ a o, H a = some o → a ≠ x → H' a = some o) → Rep K cl (hid M H') (.ref x) (.obj c ns fs) → Q .non H'
structure MkG (P : Program) (w : World) (K : Fg) (cl : Str → Addr) (mg : Str → Option Value) (base : Heap) (x : Str) (k : Nat) (ps : List Str) (m : List D → Option D) : Prop where
  ok : ∃ f fd, FnOk P w K mg base CX0 k f fd ps (spI K cl m) ∧ mg x = some (.ref (cl x)) ∧ Mk K (cl x) f ∧ Binds K fd ps []
  cl : ∀ ds c ns fs, m ds = some (.obj c ns fs) → c = x
  ob : ∀ ds d, m ds = some d → ∃ c ns fs, d = .obj c ns fs
structure MkK (P : Program) (w : World) (K : Fg) (cl : Str → Addr) (mg : Str → Option Value) (base : Heap) (x : Str) (k : Nat) (ps : List Str) (m : List D → Option D) (n : Nat) (ks : List Str) (is : List Nat) : Prop where
  ok : ∃ f fd, FnOk P w K mg base CX0 k f fd ps (spI K cl m) ∧ mg x = some (.ref (cl x)) ∧ Mk K (cl x) f ∧ KBn K fd ps (n + 1) ks (fun us ws => reordL is (us ++ ws)) (fun vs zs => reordL is (vs ++ zs))
  cl : ∀ ds c ns fs, m ds = some (.obj c ns fs) → c = x
  ob : ∀ ds d, m ds = some d → ∃ c ns fs, d = .obj c ns fs
theorem spI_of {K : Fg} {cl : Str → Addr} {m : List D → Option D} {M : List Addr} {H1 : Hp} {x dx : Addr} {us : List L2.V} {ds : List D} {c : Str} {ns : List Str} {fs : List D} {Q : VK} {E : XK} (hx : H1 x = none) (hdx : H1 dx = none) (hne : dx ≠ x) (h1 : m ds = some (.obj c ns fs)) (t : Tk M H1) (r : Reps K cl (hid M H1) us ds)
    (k : ∀ H2, Ex H1 H2 → Rep K cl (hid M H2) (.ref x) (.obj c ns fs) → Q (.ref x) H2) : spI K cl m (.ref x :: us) (upd (upd H1 dx (.own x)) x (.ins (cl c) dx [])) (fun v H2 => v = .non ∧ Q (.ref x) H2) E := by
  have x0 : Ex H1 (upd (upd H1 dx (.own x)) x (.ins (cl c) dx [])) := (Evl.Ex.new hdx).trans (Evl.Ex.new (by rw [upd_ne fun z => hne z.symm]; exact hx))
  refine ⟨M, x, dx, us, ds, c, ns, fs, rfl, h1, t.ex x0, t.new hx, upd_same, r.mono (ex_sub (fun a o h _ => x0 a o h) fun a ha => by
    rcases List.mem_cons.1 ha with rfl | z
    · exact .inr hx
    · exact .inl z), fun H' k1 k2 => ⟨rfl, k H' (fun a o ha => k1 a o (x0 a o ha) fun z => ?_) k2⟩⟩
  rw [z, hx] at ha
  cases ha
section
variable {w : Bool} {X : Cx} {cl : Str → Addr} {e : Expr} {es : List Expr} {kws : List Keyword} {p pos : Pos} {ma mk : Env' → Option (List D)}
theorem ev_make {x : Str} {k : Nat} {ps : List Str} {m : List D → Option D} (F : MkG X.prog X.w X.K cl X.mg X.base x k ps m) (hr : Room (k + 1) X.A) (hg : Gl X x) (ha : EA w X cl (e :: es) ma) (hdb : (x == ("__debug__" : Str)) = false)
    (he : starEach (e :: es) X.env = (false, eval e X.env) :: starEach es X.env := by rfl) (hpl : (backTo pos (starEach es X.env)).any (·.1) = false := by rfl) : EV w X cl (.Call (.Name x p) (e :: es) [] pos) (mL m ma) := by
  obtain ⟨f, fd, F1, hmg, hk, hb⟩ := F.ok
  obtain ⟨ta, pa, ha⟩ := ha
  refine ⟨_, pe_make hk F1 hr hg hmg hb .nil pass0 pa hdb he hpl, fun M q os ev σ H d hm rl Q k => ?_⟩
  obtain ⟨ds, h1, hm⟩ := bind_some' hm
  obtain ⟨c, ns, fs, rfl⟩ := F.ob _ _ hm
  obtain rfl := F.cl _ _ _ _ hm
  refine ha M q os ev σ H ds h1 rl _ fun vs H1 x1 r1 y dy hy hdy hne => ?_
  rw [List.append_nil]
  exact spI_of hy hdy hne hm ((rl.ex x1).tk w) r1 fun H2 x2 r2 => k _ H2 (x1.trans x2) r2
theorem ev_makeK0 {x : Str} {k : Nat} {ps ks : List Str} {is : List Nat} {m : List D → Option D} (F : MkK X.prog X.w X.K cl X.mg X.base x k ps m 0 ks (0 :: is.map (· + 1))) (hr : Room (k + 1) X.A) (hg : Gl X x) (ha : EK w X cl kws mk) (hdb : (x == ("__debug__" : Str)) = false)
    (hall : (backToKw pos (keywordEach kws X.env)).all (·.1.isSome) = true := by rfl) (hks : (backToKw pos (keywordEach kws X.env)).filterMap (·.1) = ks := by rfl)
    (hpl : ((backTo pos (starEach [] X.env)).any (·.1) || (backToKw pos (keywordEach kws X.env)).any (·.1.isNone)) = false := by rfl) :
    EV w X cl (.Call (.Name x p) [] kws pos) (mK is 0 ks.length m anil mk) := by
  obtain ⟨f, fd, F1, hmg, hk, hb⟩ := F.ok
  obtain ⟨ta, pa, ha⟩ := ha
  refine ⟨_, pe_makeK0 hk F1 hr hg hmg hb pass0 pa hall hks hdb hpl, fun M q os ev σ H d hm rl Q k => ?_⟩
  obtain ⟨a, h0, hm⟩ := bind_some' hm
  obtain ⟨ds, h1, hm⟩ := bind_some' hm
  cases h0
  split at hm
  · next hl =>
    obtain ⟨c, ns, fs, rfl⟩ := F.ob _ _ hm
    obtain rfl := F.cl _ _ _ _ hm
    refine ha M q os ev σ H ds h1 rl _ fun vs H1 x1 r1 => ⟨rfl, by rw [r1.length]; exact hl.2, fun y dy hy hdy hne => ?_⟩
    have e1 : reordL (0 :: is.map (· + 1)) ([V.ref y] ++ vs) = V.ref y :: reordL is vs := by
      unfold reordL
      rw [List.filterMap_cons_some (by rfl), List.filterMap_map]
      congr 1
    show spI X.K cl m (reordL (0 :: is.map (· + 1)) ([V.ref y] ++ vs)) _ _ _
    rw [e1]
    exact spI_of hy hdy hne hm ((rl.ex x1).tk w) (reordL_reps r1 is) fun H2 x2 r2 => k _ H2 (x1.trans x2) r2
  · cases hm
end
/-- __init__ of two fields -/
def initM (c f1 f2 : Str) (mc : Env' → Option Bool) (me : Env' → Option D) : List D → Option D
  | [d1, d2] => if mc [.emp, .val d1, .val d2] = some false ∧ (me [.emp, .val d1, .val d2]).isSome = true then some (.obj c [f1, f2] [d1, d2]) else none
  | _ => none
theorem initM_cl {c f1 f2 : Str} {mc : Env' → Option Bool} {me : Env' → Option D} : ∀ ds c' ns fs, initM c f1 f2 mc me ds = some (.obj c' ns fs) → c' = c := by
  intro ds c' ns fs h
  unfold initM at h
  split at h
  · split at h
    · cases h; rfl
    · cases h
  · cases h
theorem initM_ob {c f1 f2 : Str} {mc : Env' → Option Bool} {me : Env' → Option D} : ∀ ds d, initM c f1 f2 mc me ds = some d → ∃ c ns fs, d = .obj c ns fs := by
  intro ds d h
  unfold initM at h
  split at h
  · split at h
    · cases h; exact ⟨_, _, _, rfl⟩
    · cases h
  · cases h
section
variable {P : Program} {w : World} {K : Fg} {cl : Str → Addr} {mg : Str → Option Value} {base : Heap} {x qual : Str} {params : Arguments} {scope : Scope} {f : Addr} {fd : FuncData} {k : Nat}
theorem fn_I {c f1 f2 y0 y1 y2 : Str} {ce ee : Expr} {ra : List Stmt} {p1 p2 p3 p4 q1 q2 q3 q4 q5 q6 : Pos} {mc : Env' → Option Bool} {me : Env' → Option D}
    (F : FunD K x qual params [.If ce ra [] p1, .Expr ee p2, .Assign [.Attribute (.Name y0 q1) f1 q2] (.Name y1 q3) p3, .Assign [.Attribute (.Name y0 q4) f2 q5] (.Name y2 q6) p4] scope [] [] f fd) (S : FnScope [y0, y1, y2] [y0, y1, y2] scope)
    (G : Cls K (cl c)) (n1 : NoAttr K (cl c) f1) (n2 : NoAttr K (cl c) f2) (hf : (f2 == f1) = false)
    (v0 : varB [y0, y1, y2] scope 0 = true) (v1 : varB [y0, y1, y2] scope 1 = true) (v2 : varB [y0, y1, y2] scope 2 = true)
    (h : ∀ X : Cx, X.prog = P → X.w = w → X.K = K → X.mg = mg → X.base = base → CXo X [y0, y1, y2] scope k → ET X cl ce mc ∧ EV true X cl ee me ∧ swapsWith ee none p2.line X.env = pure false ∧ swapsWith (.Name y1 q3) (some (.Attribute (.Name y0 q1) f1 q2)) p3.line X.env = pure false ∧ swapsWith (.Name y2 q6) (some (.Attribute (.Name y0 q4) f2 q5)) p4.line X.env = pure false) :
    FnOk P w K mg base CX0 (k + 1) f fd [y0, y1, y2] (spI K cl (initM c f1 f2 mc me)) := by
  refine F.ok S (fun vs H Q E hs => ?_) (fun cdv A outer s H vs Q E hr hs => ?_)
  · obtain ⟨M, x, dx, us, ds, c', ns, fs, rfl, h1, _, _, _, h2, _⟩ := hs
    unfold initM at h1
    split at h1
    · rw [List.length_cons, h2.length]; rfl
    · cases h1
  · obtain ⟨M, x, dx, us, ds, c', ns, fs, rfl, h1, h2, h3, h4, h5, h6⟩ := hs
    have C := cxo_of (E := E) (outer := outer) (H := H) (P := P) (w := w) (K := K) (mg := mg) (base := base) (qual := qual) (f := f) (cdv := cdv) (s := s) S hr
    obtain ⟨⟨tc, pc, hc⟩, ⟨te, pe, he⟩, w1, w2, w3⟩ := h _ rfl rfl rfl rfl rfl C
    have V0 := C.v (i := 0) v0 rfl
    have V1 := C.v (i := 1) v1 rfl
    have V2 := C.v (i := 2) v2 rfl
    refine ⟨_, PSs.nox (pss_cons (ps_if pc pss_never pss_nil) (pss_cons (ps_expr pe w1) (pss_cons (ps_fld (pe_var V0.ix V0.vis V0.nd V0.nc) (pe_var V1.ix V1.vis V1.nd V1.nc) w2) (pss_one (ps_fld (pe_var V0.ix V0.vis V0.nd V0.nc) (pe_var V2.ix V2.vis V2.nd V2.nc) w3))))), ?_⟩
    unfold initM at h1
    split at h1
    · next d1 d2 =>
      split at h1
      · next hcd =>
        cases h1
        obtain ⟨u1, us', rfl, r1, r2⟩ := Reps.cons_iff.1 h5
        obtain ⟨u2, us'', rfl, r3, r4⟩ := Reps.cons_iff.1 r2
        obtain rfl := Reps.nil_iff.1 r4
        obtain ⟨de, hde⟩ := Option.isSome_iff_exists.1 hcd.2
        have t2 : Tk (x :: M) H := fun a ha => by
          rcases List.mem_cons.1 ha with rfl | z
          · rw [h4]; simp
          · exact h2 a z
        have rl : Rl K cl (x :: M) none [] [.emp, .val d1, .val d2] [some (.ref x), some u1, some u2] H := tk_rl t2 (.emp (.val r1 (.val r3 .nil)))
        have e0 : L2.start [y0, y1, y2] [V.ref x, u1, u2] = [some (.ref x), some u1, some u2] := rfl
        rw [e0]
        refine hc (x :: M) none [] _ _ H false hcd.1 rl _ fun H1 x1 => iteF ?_
        refine he (x :: M) none [] _ _ H1 de hde (rl.ex x1) _ fun v H2 x2 r5 => ?_
        have hx2 : H2 x = some (.ins (cl c) dx []) := x2 _ _ (x1 _ _ h4)
        refine ⟨u1, rfl, _, rfl, x, cl c, dx, [], rfl, hx2, G, n1, by decide, ?_⟩
        refine ⟨u2, rfl, _, rfl, x, cl c, dx, _, rfl, upd_same, G, n2, by show (1 : Nat) < 1000; decide, ?_⟩
        have xx := x1.trans x2
        refine h6 _ (fun a o ha hne => by rw [upd_ne hne, upd_ne hne]; exact xx a o ha) ?_
        have vw : ∀ fs : List (Str × L2.V), Ex (hid (x :: M) H) (hid M (upd (upd H2 x (.ins (cl c) dx (putF f1 u1 []))) x (.ins (cl c) dx fs))) := fun fs a o ha => by
          obtain ⟨m1, m2⟩ := hid_some ha
          rw [hid_not fun z => m1 (List.mem_cons_of_mem _ z), upd_ne fun z => m1 (by rw [z]; exact List.mem_cons_self), upd_ne fun z => m1 (by rw [z]; exact List.mem_cons_self)]
          exact xx a o m2
        have hne : ¬ f1 = f2 := fun z => by rw [z] at hf; simp at hf
        have ep : putF f2 u2 (putF f1 u1 []) = [f1, f2].zip [u1, u2] := by simp [putF, hne]
        unfold Rep
        exact ⟨x, dx, [u1, u2], rfl, by rw [hid_not h3, upd_same, ep], rfl, Reps.cons (r1.mono (vw _)) (Reps.cons (r3.mono (vw _)) Reps.nil)⟩
      · cases h1
    · cases h1
end
end Lay

namespace Lay
open PySem PySem.Spec PyProof.Rows L2
open Evl (Ex)
/-! ### == by an own __eq__ -/
structure EqG (P : Program) (w : World) (K : Fg) (mg : Str → Option Value) (base : Heap) (C : Addr) (k : Nat) (ps : List Str) (sp : Sp) : Prop where
  ok : ∃ f fd, FnOk P w K mg base CX0 k f fd ps sp ∧ PySem.W.findIn K (.ref C) "__eq__" = some (some (.ref f)) ∧ PySem.W.isFn K (.ref f) = true ∧ Binds K fd ps []
/-- what may stand on the right -/
def rightOk (c : Str) : D → Bool
  | .obj c' _ _ => decide (c' = c)
  | .lst _ => true
  | .tup _ => true
  | _ => false
def isO (c : Str) : D → Bool
  | .obj c' _ _ => decide (c' = c)
  | _ => false
def D.eqO (c : Str) (m : List D → Option D) (d e : D) : Option Bool := if isO c d = true ∧ rightOk c e = true then (match m [d, e] with
  | some (.bl b) => some b
  | _ => none) else none
section
variable {X : Cx} {cl : Str → Addr} {c : Str} {k : Nat} {ps : List Str} {m : List D → Option D}
def rEqO (K : Fg) (cl : Str → Addr) (c : Str) (m : List D → Option D) : R2 := fun x y H Q => ∃ M d e b, D.eqO c m d e = some b ∧ Tk M H ∧ Rep K cl (hid M H) x d ∧ Rep K cl (hid M H) y e ∧ ∀ H', Ex H H' → Q (.bl b) H'
theorem look_ty {M : Model} {h : Heap} {x : Addr} {o : Obj} {t : Value} (e : h.get? x = some o) (c : o.cls = t) : PySem.W.Looks M h (typeOf (.ref x)) t := c ▸ (PySem.W.Looks.ld e).andThen .now
theorem op_eqO (G : ClsG X.K (cl c)) (F : EqG X.prog X.w X.K X.mg X.base (cl c) k ps (spP X.K cl m)) (hr : Room k X.A) : OpR X (compareOp .Eq) (rEqO X.K cl c m) := by
  intro pins s σ H x y v u Q I rx ry ⟨M, d, e, b, h1, t, r1, r2, q⟩
  unfold D.eqO at h1
  split at h1
  · next hc =>
    have hm : m [d, e] = some (.bl b) := by
      split at h1
      · next b' hb => cases h1; exact hb
      · cases h1
    obtain ⟨f, fd, F1, hs, hf, hb⟩ := F.ok
    show wpAny (model X.prog X.w) X.A (richCompare .Eq v u) (L2.EP X pins σ Q) X.xe s
    cases d with
    | obj c' ns fs =>
      have ec : c' = c := of_decide_eq_true hc.1
      subst ec
      have r1' := r1
      unfold Rep at r1
      obtain ⟨a, dx, vs, rfl, ha, hl, _⟩ := r1
      obtain rfl : v = Value.ref a := rx
      obtain ⟨mA, J, _⟩ := ins_get I.hok (hid_some ha).2
      obtain ⟨od, J, _⟩ := J.look
      obtain ⟨mm, hF⟩ := I.fr
      have right : ∃ tb, PySem.W.Looks (model X.prog X.w) s.heap (typeOf u) tb ∧ PySem.W.notFirst X.K (cl c') tb = true := by
        cases e with
        | obj c2 ns2 fs2 =>
          have ec : c2 = c' := of_decide_eq_true hc.2
          subst ec
          unfold Rep at r2
          obtain ⟨a2, dx2, vs2, rfl, ha2, hl2, _⟩ := r2
          obtain rfl : u = Value.ref a2 := ry
          obtain ⟨mB, J', _⟩ := ins_get I.hok (hid_some ha2).2
          obtain ⟨od', J', _⟩ := J'.look
          exact ⟨_, J'.type, by simp [PySem.W.notFirst]⟩
        | lst xs =>
          obtain ⟨a2, vs2, rfl, ha2, _⟩ := rep_list.1 r2
          obtain rfl : u = Value.ref a2 := ry
          obtain ⟨_, _, n, _, h1⟩ := (show ObjOk X.prog X.w H s.heap a2 (.lst vs2) from I.hok a2 _ (hid_some ha2).2)
          exact ⟨_, look_ty h1 rfl, by unfold PySem.W.notFirst; rw [G.nf "list" (by decide)]; simp⟩
        | tup xs =>
          obtain ⟨a2, vs2, rfl, ha2, _⟩ := rep_tup.1 r2
          obtain rfl : u = Value.ref a2 := ry
          obtain ⟨_, _, _, o, h1, h2, _⟩ := (show ObjOk X.prog X.w H s.heap a2 (.tup vs2) from I.hok a2 _ (hid_some ha2).2)
          exact ⟨_, look_ty h1 h2, by unfold PySem.W.notFirst; rw [G.nf "tuple" (by decide)]; simp⟩
        | non => cases hc.2
        | bl _ => cases hc.2
        | int _ => cases hc.2
        | str _ => cases hc.2
        | scr _ => cases hc.2
      obtain ⟨tb, hlook, hnf⟩ := right
      refine PySem.W.cmp_K (op := .Eq) (tb := tb) hr.units0 hF I.ok.mod.kin J hlook hnf hs hf ?_
      have hsp : spP X.K cl m [.ref a, y] H (fun v H' => v = .bl b ∧ Ex H H') E0 := ⟨M, _, _, hm, t, Reps.cons r1' (Reps.cons r2 Reps.nil), fun v H' x' r' => ⟨rep_bl.1 r', x'⟩⟩
      have hl := F1.len _ _ _ _ hsp
      have r2v : Vals [V.ref a, y] [Value.ref a, u] := .cons rfl (.cons ry .nil)
      refine wpAny_call (codeAny_mono (F1.run X.A X.stack s H ⟨[.ref a, u], []⟩ [.ref a, u] [.ref a, y] _ E0 hr I.env0 (by
        have := hb s [.ref a, u] I.kIn (by simpa using hl)
        simpa using this) r2v hsp) fun r s' hq => ?_)
      cases r with
      | error e => exact pass0 pins σ H s e s' I hq
      | ok fl =>
        cases fl with
        | ret w =>
          obtain ⟨z, H', I', rz, ez, ex⟩ := I.after hq
          subst ez
          cases rz
          exact ⟨.bl b, H', I', rfl, q H' ex⟩
        | next => exact False.elim hq
        | brk => exact False.elim hq
        | cont => exact False.elim hq
    | _ => cases hc.1
  · cases h1
theorem rc_eqO {K : Fg} : RC2 K cl (rEqO K cl c m) (D.eqO c m) := fun M H x y d e b h t r1 r2 Q k => ⟨M, d, e, b, h, t, r1, r2, k⟩
end
/-! ### append to a list that is let go -/
section
variable {X : Cx} {cl : Str → Addr} {o e : Expr} {pos : Pos}
def sappN (mo : Env' → Option (List D)) (me : Env' → Option D) : SM := fun ev => do
  let g ← mo ev
  let _ ← me ev
  if g.length ≤ 1000000 then some (.nx, ev) else none
theorem s_appN {apos pos' : Pos} {mo : Env' → Option (List D)} {me : Env' → Option D} (ho : EO true X cl o mo) (he : EV true X cl e me)
    (hpe : ∀ to te, PE X o to → PE X e te → PE X (.Call (.Attribute o "append" apos) [e] [] pos) (tBM X.K "list" rAppend to (tCons te tNil)))
    (hs : swapsWith (.Call (.Attribute o "append" apos) [e] [] pos) none pos'.line X.env = pure false := by rfl) : S1 X cl (.Expr (.Call (.Attribute o "append" apos) [e] [] pos) pos') (sappN mo me) := by
  obtain ⟨to, po, ho⟩ := ho
  obtain ⟨te, hp, he⟩ := he
  refine ⟨_, ps_expr (hpe to te po hp) hs, fun M q os ev σ H fl ev' hm rl E k => ?_⟩
  obtain ⟨g, h1, hm⟩ := bind_some' hm
  obtain ⟨d, h2, hm⟩ := bind_some' hm
  split at hm
  · next hc =>
    cases hm
    refine ho M q os ev σ H g h1 rl _ fun p H1 vs hn x1 g1 g2 => ⟨.inl ⟨rfl, _, .of g1⟩, ?_⟩
    refine he M q os ev σ H1 d h2 (rl.ex x1) _ fun u H2 x2 r2 => ?_
    refine ⟨p, vs, u, rfl, rfl, x2 _ _ g1, by rw [g2.length, sizeLine_eq]; omega, ?_⟩
    have xx : Ex H (upd H2 p (.lst (vs ++ [u]))) := Evl.Ex.mut (x1.trans x2) hn
    exact k os σ _ (.of_ex xx) (rl.ex xx)
  · cases hm
end
end Lay

namespace Lay
open PySem PySem.Spec PyProof.Rows L2
open Evl (Ex)
/-- what is used of the class Kind and of the table BOUNDS -/
structure KG (w : World) (K : Fg) (cl : Str → Addr) (mg : Str → Option Value) : Prop where
  g : ClsG K (cl "Kind")
  mgK : mg "Kind" = some (.ref (cl "Kind"))
  na1 : NoAttr K (cl "Kind") "_name"
  na2 : NoAttr K (cl "Kind") "_size"
  bnd : BndG w K mg
end Lay

namespace Lay
open PySem PySem.Spec PyProof.Rows L2
open Evl (Ex)
/-! ### facts that the head tells -/
def clK (K : Fg) : Str → Addr := fun c => He.ga K c
def clsB (K : Fg) (C : Addr) : Bool :=
  decide (PySem.W.findIn K (.ref C) "__class__" = some (some (.builtin "object.__class__"))) &&
  (decide (PySem.W.specialIn K (.builtin "object.__class__") "__get__" = some (some (.builtin "getset_descriptor.__get__"))) &&
  (decide (PySem.W.takesIn K (.builtin "object.__class__") = some true) &&
  (decide (PySem.W.mroIn K C (.type "object") = some true) &&
  (decide (PySem.W.kitOne K (.ref C) (.ref C) = some true) &&
  (tyNames.all (fun t => decide (PySem.W.kitOne K (.type t) (.ref C) = some false)) && tyNames.all (fun t => decide (PySem.W.subIn K (.type t) (.ref C) = some false)))))))
theorem clsG_of {K : Fg} {C : Addr} (c : Cls K C) (h : clsB K C = true) : ClsG K C := by
  unfold clsB at h
  simp only [Bool.and_eq_true, decide_eq_true_eq, List.all_eq_true] at h
  obtain ⟨h1, h2, h3, h4, h5, h6, h7⟩ := h
  exact ⟨c, h1, h2, h3, h4, h5, h6, h7⟩
def tupAt (K : Fg) (a : Addr) (x y : Int) : Bool := match K.lookup a with
  | some ⟨.type c, _, .seq its _, _⟩ => decide (c = "tuple") && (decide (its.size ≤ sizeLine) && He.relAll [.int x, .int y] its.toList)
  | _ => false
theorem tupAt_ok {K : Fg} {a : Addr} {x y : Int} (h : tupAt K a x y = true) (H : Hp) : SqT K H a [.int x, .int y] := by
  unfold tupAt at h
  split at h
  · next c od its n sl q =>
    obtain ⟨h1, h2⟩ := He.ba h
    obtain ⟨h3, h4⟩ := He.ba h2
    exact .inr ⟨_, its, n, q, congrArg Value.type (of_decide_eq_true h1), rfl, of_decide_eq_true h3, He.relAll_ok h4⟩
  · cases h
def bndB1 (K : Fg) (z : Str) (x y : Int) : Bool := match PySem.W.nsIn K (He.ga K "BOUNDS") z with
  | some (some (.ref t)) => tupAt K t x y
  | _ => false
theorem bndB1_ok {K : Fg} {z : Str} {x y : Int} (h : bndB1 K z x y = true) : ∃ t, PySem.W.nsIn K (He.ga K "BOUNDS") z = some (some (.ref t)) ∧ ∀ H, SqT K H t [.int x, .int y] := by
  unfold bndB1 at h
  split at h
  · next t q => exact ⟨t, q, tupAt_ok h⟩
  · cases h
def exK (K : Fg) : Bool := clsB K (He.ga K "Kind") && (bndB1 K "plain" 1 7 && (bndB1 K "mirror" 1 5 && bndB1 K "ring" 2 5))
def tsK : List He.Tab := [(fun K => He.ga K "BOUNDS", ["plain", "mirror", "ring"])]
theorem kg_of {w : World} {K : Fg} {mg : Str → Option Value} (c : Cls K (He.ga K "Kind")) (h : exK K = true) (mgK : mg "Kind" = some (.ref (He.ga K "Kind"))) (na1 : NoAttr K (He.ga K "Kind") "_name") (na2 : NoAttr K (He.ga K "Kind") "_size") (mgB : mg "BOUNDS" = some (.ref (He.ga K "BOUNDS"))) (t : ∃ es n, KDict K w (He.ga K "BOUNDS") es n) : KG w K (clK K) mg := by
  obtain ⟨h1, h2⟩ := He.ba h
  obtain ⟨h2, h3⟩ := He.ba h2
  obtain ⟨h3, h4⟩ := He.ba h3
  obtain ⟨es, n, t⟩ := t
  refine ⟨clsG_of c h1, mgK, na1, na2, ⟨_, es, n, mgB, t, fun z a b hz => ?_⟩⟩
  unfold bndI at hz
  split at hz
  · next e => cases hz; rw [e]; exact bndB1_ok h2
  · split at hz
    · next e => cases hz; rw [e]; exact bndB1_ok h3
    · split at hz
      · next e => cases hz; rw [e]; exact bndB1_ok h4
      · cases hz
def freeNames : List Str := ["len", "int", "abs", "max", "min", "sum", "sorted", "list", "tuple", "range", "enumerate", "zip", "reversed", "isinstance", "repr", "bool", "str"]
theorem bs_of {mg : Str → Option Value} (h : ∀ x ∈ freeNames, mg x = none) : Bs mg :=
  ⟨h _ (by decide), h _ (by decide), h _ (by decide), h _ (by decide), h _ (by decide), h _ (by decide), h _ (by decide), h _ (by decide), h _ (by decide), h _ (by decide), h _ (by decide), h _ (by decide), h _ (by decide), h _ (by decide), h _ (by decide), h _ (by decide), h _ (by decide)⟩
theorem cls_of {K : Fg} {x : Str} (c : (He.Fa.cls x).ok K = true) : Cls K (He.ga K x) := He.cls_ok c
end Lay

namespace Lay
open PySem
/-! ### plain laws of the data -/
theorem eq_int (a b : Int) : D.eq (.int a) (.int b) = some (a == b) := by
  simp [D.eq, D.toPy, SeqAt.shaped, PyData.canLay0, PyData.depth, PyData.eqv]
theorem eq_str {a b : Str} (ha : PyData.strOk a = true) (hb : PyData.strOk b = true) : D.eq (.str a) (.str b) = some (a == b) := by
  simp [D.eq, D.toPy, SeqAt.shaped, PyData.canLay0, PyData.depth, PyData.eqv, ha, hb]
theorem toPys_ints : ∀ as : List Int, D.toPys (as.map D.int) = some (as.map PyData.int)
  | [] => by simp [D.toPys]
  | a :: as => by simp [D.toPys, D.toPy, toPys_ints as]
theorem lay_ints : ∀ as : List Int, PyData.canLayAll0 (as.map PyData.int) = true
  | [] => by simp [PyData.canLayAll0]
  | a :: as => by simp [PyData.canLayAll0, PyData.canLay0, lay_ints as]
theorem depth_ints : ∀ as : List Int, PyData.depthAll (as.map PyData.int) = 0
  | [] => by simp [PyData.depthAll]
  | a :: as => by simp [PyData.depthAll, PyData.depth, depth_ints as]
theorem eqv_ints : ∀ as bs : List Int, PyData.eqvAll (as.map PyData.int) (bs.map PyData.int) = (as == bs)
  | [], [] => by simp [PyData.eqvAll]
  | [], b :: bs => by simp [PyData.eqvAll]
  | a :: as, [] => by simp [PyData.eqvAll]
  | a :: as, b :: bs => by
    simp only [List.map_cons, PyData.eqvAll, PyData.eqv, eqv_ints as bs]
    rfl
theorem eq_ints (as bs : List Int) : D.eq (.lst (as.map D.int)) (.lst (bs.map D.int)) = some (as == bs) := by
  simp [D.eq, D.toPy, toPys_ints, SeqAt.shaped, PyData.canLay0, PyData.depth, PyData.eqv, lay_ints, depth_ints, eqv_ints]
theorem eq_told {a b : Str} {n m : Int} (ha : PyData.strOk a = true) (hb : PyData.strOk b = true) : D.eq (.tup [.str a, .int n]) (.tup [.str b, .int m]) = some (a == b && n == m) := by
  simp [D.eq, D.toPy, D.toPys, SeqAt.shaped, PyData.canLay0, PyData.canLayAll0, PyData.depth, PyData.depthAll, PyData.eqv, PyData.eqvAll, ha, hb]
theorem atI_map' {α β : Type} (f : α → β) (xs : List α) (i : Int) : L2.atI (xs.map f) i = (L2.atI xs i).map f := atI_map
/-! loops -/
theorem forGo_inv {f : D → Env' → Option Env'} {b : SM} (Inv : Env' → Prop) : ∀ {ds : List D} {ev : Env'}, (∀ d ∈ ds, ∀ ev, Inv ev → ∃ ev0 ev1, f d ev = some ev0 ∧ b ev0 = some (.nx, ev1) ∧ Inv ev1) → Inv ev → ∃ ev', forGo f b ds ev = some (.nx, ev') ∧ Inv ev'
  | [], ev, _, h => ⟨ev, rfl, h⟩
  | d :: ds, ev, hs, h => by
    obtain ⟨ev0, ev1, h1, h2, h3⟩ := hs d (by simp) ev h
    obtain ⟨ev', h4, h5⟩ := forGo_inv Inv (ds := ds) (fun d hd => hs d (by simp [hd])) h3
    refine ⟨ev', ?_, h5⟩
    unfold forGo
    rw [h1]
    simp only [h2]
    exact h4
theorem lcGo_map {ev : Env'} {t : Tgt} {me : Env' → Option D} {g : D → D} : ∀ {ds : List D}, (∀ d ∈ ds, ∃ ev', t.put d ev = some ev' ∧ me ev' = some (g d)) → lcGo ev t tyes me ds = some (ds.map g)
  | [], _ => rfl
  | d :: ds, h => by
    obtain ⟨ev', h1, h2⟩ := h d (by simp)
    unfold lcGo
    rw [h1]
    simp only [tyes, Option.bind_eq_bind, Option.bind_some, if_true, h2, List.map_cons]
    have := lcGo_map (ds := ds) fun d hd => h d (by simp [hd])
    rw [this]
    rfl
end Lay

namespace k01
open PySem Lay
def mb__law_cell : SM := (sseq (sif (lift (c2 D.lt (xv 1) (mL bLen (acons (xv 0) anil)))) (sret (m2 D.ix (xv 0) (xv 1))) snx)
    (sret (m2 D.mod (mL bSum (acons (xl (xcut (xv 0) pN (pS (xc (.int 1))))) anil)) (xc (.int 1000003)))))
def m__law_cell : List D → Option D := pdef 2 2 mb__law_cell
def mb__law_generator : SM := (sseq (sasg 2 (lift (mL m__law_cell (acons (xv 0) (acons (xv 1) anil)))))
    (sretO (xlst (acons (m2 D.mod (mL bInt (acons (mL bMax (acons (m2 D.sub (xv 2) (m2 D.pow (xc (.int 10)) (xc (.int 18)))) (acons (xc (.int 0)) anil))) anil)) (m2 D.pow (m2 D.pow (xc (.int 10)) (xc (.int 60))) (xc (.int 10)))) (acons (m2 D.mod (mL bInt (acons (xv 2) anil)) (xc (.int 2147483647))) (acons (m2 D.mul (xc (.int 1000)) (xv 1)) anil))))))
def m__law_generator : List D → Option (List D) := odef 2 3 mb__law_generator
def mb_is_whole : SM := (sret (xand (m1 (D.isT "int") (xv 0)) (xnot (m1 (D.isT "bool") (xv 0)))))
def m_is_whole : List D → Option D := pdef 1 1 mb_is_whole
def mb_is_between : SM := (sret (xand (mL m_is_whole (acons (xv 0) anil)) (xand (vB (c2 D.ge (xv 0) (xv 1))) (xor (vB (c2 D.isN (xv 2) (xc .non))) (vB (c2 D.le (xv 0) (xv 2)))))))
def m_is_between : List D → Option D := pdef 3 3 mb_is_between
def mb_check_number : SM := (sif (lift (nB (tB' (mL m_is_between (acons (xv 0) (acons (xv 1) (acons (xv 2) anil))))))) snever snx)
def m_check_number : List D → Option D := pdef 3 3 mb_check_number
def m_Kind___init__ : List D → Option D := initM "Kind" "_name" "_size" (orB (nB (tB' (m1 (D.isT "str") (xv 1)))) (tbnot (xv 1))) (mL m_check_number (acons (xv 2) (acons (m2 D.bix (xv 1) (xc (.int 0))) (acons (m2 D.bix (xv 1) (xc (.int 1))) anil))))
def mb__law_many : SM := (sret (m2 D.sub (m2 D.ix (xv 0) (xc (.int 1))) (mL bInt (acons (vB (c2 D.eq (m2 D.ix (xv 0) (xc (.int 0))) (xc (.str "plain")))) anil))))
def m__law_many : List D → Option D := pdef 1 1 mb__law_many
def mb_Kind_name : SM := (sret (m1 (D.fld "Kind" "_name") (xv 0)))
def m_Kind_name : List D → Option D := pdef 1 1 mb_Kind_name
def mb_Kind_size : SM := (sret (m1 (D.fld "Kind" "_size") (xv 0)))
def m_Kind_size : List D → Option D := pdef 1 1 mb_Kind_size
def mb_Kind_steps : SM := (sret (m2 D.sub (m1 (D.fld "Kind" "_size") (xv 0)) (mL bInt (acons (vB (c2 D.eq (m1 (D.fld "Kind" "_name") (xv 0)) (xc (.str "plain")))) anil))))
def m_Kind_steps : List D → Option D := pdef 1 1 mb_Kind_steps
def mb_Kind_start : SM := (sseq (sasg 1 (lift (mL bInt (acons (vB (c2 D.eq (m1 (D.fld "Kind" "_name") (xv 0)) (xc (.str "mirror")))) anil))))
    (sretO (xlrg (xrg2 (xv 1) (m2 D.add (xv 1) (m1 (D.fld "Kind" "_size") (xv 0)))))))
def m_Kind_start : List D → Option (List D) := odef 1 2 mb_Kind_start
def mb__law_start : SM := (sretO (xlrg (xrg2 (mL bInt (acons (vB (c2 D.eq (m2 D.ix (xv 0) (xc (.int 0))) (xc (.str "mirror")))) anil)) (m2 D.add (m2 D.ix (xv 0) (xc (.int 1))) (mL bInt (acons (vB (c2 D.eq (m2 D.ix (xv 0) (xc (.int 0))) (xc (.str "mirror")))) anil))))))
def m__law_start : List D → Option (List D) := odef 1 1 mb__law_start
def mb_Kind___eq__ : SM := (sseq (sif (lift (nB (tB' (m1 (D.isC "Kind") (xv 1))))) (sret (xc (.bl false))) snx)
    (sret (xand (vB (c2 D.eq (m1 (D.fld "Kind" "_name") (xv 0)) (m1 (D.fld "Kind" "_name") (xv 1)))) (vB (c2 D.eq (m1 (D.fld "Kind" "_size") (xv 0)) (m1 (D.fld "Kind" "_size") (xv 1)))))))
def m_Kind___eq__ : List D → Option D := pdef 2 2 mb_Kind___eq__
def mb__law_item : SM := (sseq (sif (lift (c2 D.eq (m2 D.ix (xv 0) (xc (.int 0))) (xc (.str "mirror")))) (sret (m2 D.mul (m2 D.ix (xv 1) (m2 D.sub (mL bAbs (acons (xv 2) anil)) (xc (.int 1)))) (xif (c2 D.gt (xv 2) (xc (.int 0))) (xc (.int 1)) (m1 D.neg (xc (.int 1)))))) snx)
    (sret (m2 D.sub (m2 D.add (m2 D.ix (xv 1) (m2 D.mod (mL bInt (acons (xv 2) anil)) (m2 D.ix (xv 0) (xc (.int 1))))) (xv 2)) (m2 D.mod (mL bInt (acons (xv 2) anil)) (m2 D.ix (xv 0) (xc (.int 1)))))))
def m__law_item : List D → Option D := pdef 3 3 mb__law_item
def mb__law_turned : SM := (sseq (sif (lift (c2 D.eq (m2 D.ix (xv 0) (xc (.int 0))) (xc (.str "mirror")))) (sseq (sif (lift (c2 D.eq (xv 1) (xc (.int 0)))) (sret (xif (c2 D.eq (mL bAbs (acons (xv 2) anil)) (xc (.int 1))) (m1 D.neg (xv 2)) (xv 2))) snx)
    (sseq (sif (lift (c2 D.isin (mL bAbs (acons (xv 2) anil)) (xl (xlst (acons (xv 1) (acons (m2 D.add (xv 1) (xc (.int 1))) anil)))))) (sret (m2 D.mul (m2 D.sub (m2 D.add (m2 D.mul (xc (.int 2)) (xv 1)) (xc (.int 1))) (mL bAbs (acons (xv 2) anil))) (xif (c2 D.gt (xv 2) (xc (.int 0))) (xc (.int 1)) (m1 D.neg (xc (.int 1)))))) snx)
    (sret (xv 2)))) snx)
    (sseq (sasg 3 (lift (m2 D.mod (mL bInt (acons (m2 D.sub (xv 2) (xv 1)) anil)) (m2 D.ix (xv 0) (xc (.int 1))))))
    (sret (xif (c2 D.eq (xv 3) (xc (.int 0))) (m2 D.add (xv 2) (xc (.int 1))) (xif (c2 D.eq (xv 3) (xc (.int 1))) (m2 D.sub (xv 2) (xc (.int 1))) (xv 2))))))
def m__law_turned : List D → Option D := pdef 3 4 mb__law_turned
def mb__law_stepped : SM := (sretO (lcM false (.one 3) [3] (iseq (xl (mLo m__law_start (acons (xv 0) anil)))) tyes (mL m__law_item (acons (xv 0) (acons (xv 1) (acons (mL m__law_turned (acons (xv 0) (acons (xv 2) (acons (xv 3) anil)))) anil))))))
def m__law_stepped : List D → Option (List D) := odef 3 4 mb__law_stepped
def mb__law_wait : SM := (sseq (smul [5, 6] (emV (lift (xl (mLo bList (acons (xv 1) anil)))) (emV (lift (xl (mLo bList (acons (xv 1) anil)))) emN)))
    (sseq (sfor (lift (irg2 (xc (.int 1)) (xc (.int 13)))) (gN 4) (sseq (sasg 5 (lift (xl (mLo m__law_stepped (acons (xv 0) (acons (xv 5) (acons (m2 D.ix (xl (xlst (acons (xv 3) (acons (xv 2) anil)))) (m2 D.mod (mL bInt (acons (xv 4) anil)) (xc (.int 2)))) anil)))))))
    (sseq (sasg 6 (lift (xl (mLo m__law_stepped (acons (xv 0) (acons (xv 6) (acons (m2 D.ix (xl (xlst (acons (xv 2) (acons (xv 3) anil)))) (m2 D.mod (mL bInt (acons (xv 4) anil)) (xc (.int 2)))) anil)))))))
    (sif (lift (c2 D.eq (xv 5) (xv 6))) (sret (xv 4)) snx))))
    (sret (xc .non))))
def m__law_wait : List D → Option D := pdef 4 7 mb__law_wait
def mb_check_kind : SM := (sif (lift (nB (tB' (m1 (D.isC "Kind") (xv 0))))) snever snx)
def m_check_kind : List D → Option D := pdef 1 1 mb_check_kind
def mb_check_step : SM := (sdrop (lift (mL m_check_number (acons (xv 1) (acons (xc (.int 0)) (acons (m2 D.sub (mM "Kind" "steps" m_Kind_steps (xv 0) anil) (xc (.int 1))) anil))))))
def m_check_step : List D → Option D := pdef 2 2 mb_check_step
def mb_wait_of : SM := (sseq (smul [4, 5, 6] (emV (lift (mL bMin (acons (xv 1) (acons (xv 2) anil)))) (emV (lift (mL bMax (acons (xv 1) (acons (xv 2) anil)))) (emV (lift (mM "Kind" "size" m_Kind_size (xv 0) anil)) emN))))
    (sseq (sif (lift (andB (c2 D.eq (mM "Kind" "name" m_Kind_name (xv 0) anil) (xc (.str "ring"))) (c2 D.eq (xv 6) (xc (.int 2))))) (sret (xc .non)) snx)
    (sseq (sif (lift (andB (c2 D.eq (mM "Kind" "name" m_Kind_name (xv 0) anil) (xc (.str "mirror"))) (c2 D.eq (xtup (acons (xv 4) (acons (xv 5) anil))) (xtup (acons (xc (.int 0)) (acons (xc (.int 1)) anil)))))) (sret (xc (.int 4))) snx)
    (sseq (sasg 3 (lift (xor (vB (c2 D.eq (m2 D.sub (xv 5) (xv 4)) (xc (.int 1)))) (xand (vB (c2 D.eq (mM "Kind" "name" m_Kind_name (xv 0) anil) (xc (.str "ring")))) (vB (c2 D.eq (m2 D.sub (xv 5) (xv 4)) (m2 D.sub (xv 6) (xc (.int 1)))))))))
    (sret (xif (tB' (xv 3)) (xc (.int 3)) (xc (.int 2))))))))
def m_wait_of : List D → Option D := pdef 3 7 mb_wait_of
def mb_wait : SM := (sseq (sdrop (lift (mL m_check_kind (acons (xv 0) anil))))
    (sseq (sdrop (lift (mL m_check_step (acons (xv 0) (acons (xv 1) anil)))))
    (sseq (sdrop (lift (mL m_check_step (acons (xv 0) (acons (xv 2) anil)))))
    (sseq (sif (lift (c2 D.eq (xv 1) (xv 2))) snever snx)
    (sret (mL m_wait_of (acons (xv 0) (acons (xv 1) (acons (xv 2) anil)))))))))
def m_wait : List D → Option D := pdef 3 3 mb_wait
def mb__law_kind_right : SM := (sseq (sasg 2 (lift (mL m_Kind___init__ (acons (m2 D.ix (xv 0) (xc (.int 0))) (acons (m2 D.ix (xv 0) (xc (.int 1))) anil)))))
    (sseq (sif (lift (orB (c2 D.ne (mM "Kind" "name" m_Kind_name (xv 2) anil) (m2 D.ix (xv 0) (xc (.int 0)))) (orB (c2 D.ne (mM "Kind" "size" m_Kind_size (xv 2) anil) (m2 D.ix (xv 0) (xc (.int 1)))) (orB (c2 D.ne (mM "Kind" "steps" m_Kind_steps (xv 2) anil) (mL m__law_many (acons (xv 0) anil))) (c2 D.ne (xl (mMo "Kind" "start" m_Kind_start (xv 2) anil)) (xl (mLo m__law_start (acons (xv 0) anil)))))))) (sret (xc (.bl false))) snx)
    (sseq (sappN (mMo "Kind" "start" m_Kind_start (xv 2) anil) (xc (.int 7)))
    (sseq (sif (lift (orB (c2 D.ne (xl (mMo "Kind" "start" m_Kind_start (xv 2) anil)) (xl (mLo m__law_start (acons (xv 0) anil)))) (orB (c2 D.notN (vB (c2 (D.eqO "Kind" m_Kind___eq__) (mK [1, 0] 0 2 m_Kind___init__ anil (acons (m2 D.ix (xv 0) (xc (.int 1))) (acons (m2 D.ix (xv 0) (xc (.int 0))) anil))) (xv 2))) (xc (.bl true))) (c2 D.notN (vB (c2 (D.eqO "Kind" m_Kind___eq__) (xv 2) (xv 0))) (xc (.bl false)))))) (sret (xc (.bl false))) snx)
    (sseq (sfor (lift (irg1 (mL m__law_many (acons (xv 0) anil)))) (gN 3) (sfor (lift (irg1 (mL m__law_many (acons (xv 0) anil)))) (gN 4) (sif (lift (c2 D.ne (xv 3) (xv 4))) (sseq (sasg 5 (lift (mL m__law_wait (acons (xv 0) (acons (xv 1) (acons (xv 3) (acons (xv 4) anil)))))))
    (sif (lift (orB (c2 D.ne (mL bRepr (acons (mL m_wait (acons (xv 2) (acons (xv 3) (acons (xv 4) anil)))) anil)) (mL bRepr (acons (xv 5) anil))) (c2 D.ne (mL bRepr (acons (mK [2, 1, 0] 0 3 m_wait anil (acons (xv 4) (acons (xv 3) (acons (xv 2) anil)))) anil)) (mL bRepr (acons (xv 5) anil))))) (sret (xc (.bl false))) snx)) snx)))
    (sret (xc (.bl true))))))))
def m__law_kind_right : List D → Option D := pdef 2 6 mb__law_kind_right
def mb__law_hash : SM := (sseq (sasg 2 (lift (m2 D.mod (mL bInt (acons (m2 D.add (m2 D.add (m2 D.add (m2 D.mul (xv 0) (xc (.int 1140671))) (m2 D.mul (m2 D.mul (xc (.int 27644437)) (xv 1)) (xv 1))) (m2 D.mul (xc (.int 131)) (xv 1))) (xc (.int 19))) anil)) (xc (.int 2147483629)))))
    (sseq (sasg 2 (lift (m2 D.mod (mL bInt (acons (m2 D.add (m2 D.add (m2 D.mul (xv 2) (xv 2)) (m2 D.mul (xc (.int 62089)) (xv 1))) (xc (.int 32416187))) anil)) (xc (.int 2147483587)))))
    (sret (m2 D.mod (mL bInt (acons (m2 D.mul (xv 2) (xc (.int 48271))) anil)) (xc (.int 2147483647))))))
def m__law_hash : List D → Option D := pdef 2 3 mb__law_hash
def mb__law_random : SM := (sseq (sif (lift (c2 D.gt (xixo 0 (xc (.int 0))) (xc (.int 0)))) (sseq (sasg 2 (lift (m2 D.mod (mL bInt (acons (xixo 0 (xc (.int 0))) anil)) (xv 1))))
    (sseq (sput (gS 0 (xc (.int 0))) (lift (m2 D.fdiv (xixo 0 (xc (.int 0))) (xv 1))))
    (sret (xv 2)))) snx)
    (sseq (sasg 2 (lift (xc (.int 0))))
    (sseq (sfor (lift (irg1 (m2 D.add (xc (.int 1)) (m2 D.fdiv (m1 D.bits (xv 1)) (xc (.int 30)))))) (gN 3) (sseq (sput (gS 0 (xc (.int 2))) (lift (m2 D.add (xixo 0 (xc (.int 2))) (xc (.int 1)))))
    (sasg 2 (lift (m2 D.add (m2 D.mul (xv 2) (xc (.int 2147483587))) (mL m__law_hash (acons (xixo 0 (xc (.int 1))) (acons (xixo 0 (xc (.int 2))) anil))))))))
    (sret (m2 D.mod (mL bInt (acons (xv 2) anil)) (xv 1))))))
def m__law_random : List D → List D → Option (D × List D) := fdef 2 4 mb__law_random
def mb__law_kind : SM := (sseq (sasg 1 (f2 D.ix (lift (xl (xlst (acons (xc (.str "plain")) (acons (xc (.str "mirror")) (acons (xc (.str "ring")) anil)))))) (fF 0 m__law_random (lift (acons (xc (.int 3)) anil)))))
    (sseq (sasg 2 (flst (facons (f2 D.add (lift (xc (.int 1))) (fF 0 m__law_random (lift (acons (xc (.int 5)) anil)))) (facons (f2 D.add (lift (xc (.int 1))) (fF 0 m__law_random (lift (acons (xc (.int 4)) anil)))) (facons (f2 D.add (lift (xc (.int 2))) (fF 0 m__law_random (lift (acons (xc (.int 3)) anil)))) (lift anil))))))
    (sseq (sasg 3 (flst (facons (f2 D.add (lift (xc (.int 6))) (fF 0 m__law_random (lift (acons (xc (.int 2)) anil)))) (lift (acons (xc (.int 5)) (acons (xc (.int 5)) anil))))))
    (sseq (sasg 4 (fif (fc2 D.eq (fF 0 m__law_random (lift (acons (xc (.int 8)) anil))) (lift (xc (.int 0)))) (lift (xv 3)) (lift (xv 2))))
    (sret (xtup (acons (xv 1) (acons (m2 D.ix (xv 4) (m2 D.index (xl (xlst (acons (xc (.str "plain")) (acons (xc (.str "mirror")) (acons (xc (.str "ring")) anil))))) (xv 1))) anil))))))))
def m__law_kind : List D → List D → Option (D × List D) := fdef 1 5 mb__law_kind
def mb__law_row : SM := (sseq (sif (lift (c2 D.eq (mL m__law_many (acons (xv 1) anil)) (xc (.int 0)))) (sret (xl (xlst anil))) snx)
    (sretF (flcM (.one 3) [3] (frg1 (fF 0 m__law_random (lift (acons (m2 D.add (xv 2) (xc (.int 1))) anil)))) (fF 0 m__law_random (lift (acons (mL m__law_many (acons (xv 1) anil)) anil))))))
def m__law_row : List D → List D → Option (D × List D) := fdef 3 4 mb__law_row
def mb__law_is_crossed : SM := (sseq (sasg 3 (lift (xif (c2 D.ne (m2 D.ix (xv 0) (xc (.int 0))) (xc (.str "mirror"))) (xv 2) (xif (c2 D.gt (xv 2) (xc (.int 0))) (xv 2) (m1 D.neg (xc (.int 1)))))))
    (sret (vB (c2 D.gt (mL m__law_item (acons (xv 0) (acons (xv 1) (acons (xv 3) anil)))) (mL m__law_item (acons (xv 0) (acons (xv 1) (acons (mL m__law_turned (acons (xv 0) (acons (xv 2) (acons (xv 3) anil)))) anil))))))))
def m__law_is_crossed : List D → Option D := pdef 3 4 mb__law_is_crossed
def mb__law_gained : SM := (sret (xif (tB' (mL m__law_is_crossed (acons (xv 0) (acons (xv 1) (acons (xv 2) anil))))) (xv 1) (xl (mLo m__law_stepped (acons (xv 0) (acons (xv 1) (acons (xv 2) anil)))))))
def m__law_gained : List D → Option D := pdef 3 3 mb__law_gained
def mb__law_order : SM := (sseq (sasg 3 (lift (xl (mLo m__law_start (acons (xv 1) anil)))))
    (sseq (sfor (fseq (fF 0 m__law_row (lift (acons (xv 1) (acons (xv 2) anil))))) (gN 4) (sasg 3 (lift (mL m__law_gained (acons (xv 1) (acons (xv 3) (acons (xv 4) anil)))))))
    (sret (xv 3))))
def m__law_order : List D → List D → Option (D × List D) := fdef 3 5 mb__law_order
def mb_law : SM := (sseq (sasg 1 (lift (xl (m2o D.cat (xl (m2o D.cat (xl (lcM false (.one 6) [6] (irg2 (xc (.int 1)) (xc (.int 8))) tyes (xtup (acons (xc (.str "plain")) (acons (xv 6) anil))))) (xl (lcM false (.one 6) [6] (irg2 (xc (.int 1)) (xc (.int 6))) tyes (xtup (acons (xc (.str "mirror")) (acons (xv 6) anil))))))) (xl (lcM false (.one 6) [6] (irg2 (xc (.int 2)) (xc (.int 6))) tyes (xtup (acons (xc (.str "ring")) (acons (xv 6) anil)))))))))
    (sseq (sfor (lift (iseq (xv 1))) (gN 2) (sif (lift (nB (tB' (mL m__law_kind_right (acons (xv 2) (acons (xl (mLo m__law_start (acons (xv 2) anil))) anil)))))) (sret (xc (.bl false))) snx))
    (sseq (sfor (lift (irg1 (xc (.int 3)))) (gN 3) (sseq (sasgO 4 (mLo m__law_generator (acons (xv 0) (acons (xv 3) anil))))
    (sseq (smul [2, 5] (emV (fF 4 m__law_kind (lift anil)) (emV (fF 4 m__law_kind (lift anil)) emN)))
    (sseq (sif (fnB (fT (fL1 m__law_kind_right (facons (lift (xv 2)) (facons (fF 4 m__law_order (lift (acons (xv 2) (acons (xc (.int 12)) anil)))) (lift anil)))))) (sret (xc (.bl false))) snx)
    (sif (lift (c2 D.ne (vB (c2 (D.eqO "Kind" m_Kind___eq__) (mL m_Kind___init__ (acons (m2 D.ix (xv 2) (xc (.int 0))) (acons (m2 D.ix (xv 2) (xc (.int 1))) anil))) (mL m_Kind___init__ (acons (m2 D.ix (xv 5) (xc (.int 0))) (acons (m2 D.ix (xv 5) (xc (.int 1))) anil))))) (vB (c2 D.eq (xv 2) (xv 5))))) (sret (xc (.bl false))) snx)))))
    (sret (xc (.bl true))))))
def m_law : List D → Option D := pdef 1 7 mb_law
end k01

namespace k01
open PySem Lay
theorem mod1 (x : Int) : (x % 2147483629).natAbs < 18446744073709551616 := by omega
theorem mod2 (x : Int) : (x % 2147483587).natAbs < 18446744073709551616 := by omega
def tHash1 (a b : Int) : Int := (a * 1140671 + 27644437 * b * b + 131 * b + 19) % 2147483629
def tHash2 (a b : Int) : Int := (tHash1 a b * tHash1 a b + 62089 * b + 32416187) % 2147483587
def tHash (a b : Int) : Int := tHash2 a b * 48271 % 2147483647
theorem hash_t (a b : Int) (hb : b.natAbs < 18446744073709551616) : m__law_hash [.int a, .int b] = some (.int (tHash a b)) := by
  simp [m__law_hash, mb__law_hash, pdef, odef, fdef, outP, outO, outF, start', sseq, sasg, sasgO, sput, gN, gS, gT, gTn, gLs, gs0, gs1, sdrop, sapp, sappN, sif, sret, sretF, sretO, sretV, snever, snx, sbk, sct, sfz, frz, smul, emV, emO, emN, putMR, lift, fL1, fL1o, f2, fc2, fB, fT, fnB, fif, ftup, flst, fF, facons, fseq, frg1, xv, xb, xc, xl, xixo, ownAt, setOwn, mayOwn, noPar, isPar, acons, anil, m1, m2, m2o, mL, mLo, mM, mMo, mF, mK, reordL, c2, ch2, vB, tB', nB, andB, orB, Lay.xand, Lay.xor, Lay.xnot, xif, xtup, xlst, iseq, iSeqD, irg1, irg2, xrg1, xrg2, xlrg, pN, pS, tight, tightO, tyes, List.replicate, Option.bind_eq_bind, Option.bind_some, Option.map_some, Option.bind_none, Option.map_none, List.length_cons, List.length_nil, List.getElem?_cons_zero, List.getElem?_cons_succ, List.set_cons_zero, List.set_cons_succ, List.map_cons, List.map_nil, List.cons_append, List.nil_append, List.all_cons, List.all_nil, if_true, if_false, reduceIte, Nat.reduceAdd, Nat.reduceSub, Nat.reduceEqDiff, Nat.reduceLeDiff, xcut, xcutT, bInt, D.mul, D.add, D.mod, mulOk, hb, mod1, mod2, tHash, tHash1, tHash2]
/-- numbers below a bound are drawn -/
def Gd (N : Int) (g : List D) : Prop := ∃ a b c : Int, g = [.int a, .int b, .int c] ∧ 0 ≤ a ∧ 0 ≤ c ∧ c ≤ N
theorem h30 : Nat.log2 30 < 9000 := by decide
theorem hr1 : List.range 1 = [0] := rfl
theorem random_t {N : Int} (hN : N < 1000000000) {g : List D} (h : Gd N g) (n : Int) (h1 : 0 < n) (h2 : n < 1000) : ∃ r g', m__law_random g [.int n] = some (.int r, g') ∧ 0 ≤ r ∧ r < n ∧ Gd (N + 1) g' := by
  obtain ⟨a, b, c, rfl, ha, hc, hcN⟩ := h
  have hn : n.natAbs < 18446744073709551616 := by omega
  have hc' : (c + 1).natAbs < 18446744073709551616 := by omega
  have hlog : n.natAbs.log2 < 9000 := by
    refine (Nat.log2_lt (by omega)).2 ?_
    exact Nat.lt_of_lt_of_le (show n.natAbs < 2 ^ 10 by omega) (Nat.pow_le_pow_right (by decide) (by decide))
  by_cases hp : 0 < a
  · refine ⟨a % n, [.int (a / n), .int b, .int c], ?_, Int.emod_nonneg _ (by omega), Int.emod_lt_of_pos _ h1, a / n, b, c, rfl, Int.ediv_nonneg ha (by omega), hc, by omega⟩
    simp [m__law_random, mb__law_random, pdef, odef, fdef, outP, outO, outF, start', sseq, sasg, sasgO, sput, gN, gS, gT, gTn, gLs, gs0, gs1, sdrop, sapp, sappN, sif, sret, sretF, sretO, sretV, snever, snx, sbk, sct, sfz, frz, smul, emV, emO, emN, putMR, lift, fL1, fL1o, f2, fc2, fB, fT, fnB, fif, ftup, flst, fF, facons, fseq, frg1, xv, xb, xc, xl, xixo, ownAt, setOwn, mayOwn, noPar, isPar, acons, anil, m1, m2, m2o, mL, mLo, mM, mMo, mF, mK, reordL, c2, ch2, vB, tB', nB, andB, orB, Lay.xand, Lay.xor, Lay.xnot, xif, xtup, xlst, iseq, iSeqD, irg1, irg2, xrg1, xrg2, xlrg, pN, pS, tight, tightO, tyes, List.replicate, Option.bind_eq_bind, Option.bind_some, Option.map_some, Option.bind_none, Option.map_none, List.length_cons, List.length_nil, List.getElem?_cons_zero, List.getElem?_cons_succ, List.set_cons_zero, List.set_cons_succ, List.map_cons, List.map_nil, List.cons_append, List.nil_append, List.all_cons, List.all_nil, if_true, if_false, reduceIte, Nat.reduceAdd, Nat.reduceSub, Nat.reduceEqDiff, Nat.reduceLeDiff, xcut, xcutT, L2.atI, L2.ixN, bInt, D.gt, D.mod, D.fdiv, hp, h1, hlog]
  · have hbits : ((Builtin.Int.intBits n : Nat) : Int) / 30 = 0 := by
      unfold Builtin.Int.intBits
      have hl : n.natAbs.log2 < 10 := (Nat.log2_lt (by omega)).2 (by omega)
      have : (n == 0) = false := by simp; omega
      rw [this]
      simp only [Bool.false_eq_true, if_false]
      omega
    refine ⟨(0 * 2147483587 + tHash b (c + 1)) % n, [.int a, .int b, .int (c + 1)], ?_, Int.emod_nonneg _ (by omega), Int.emod_lt_of_pos _ h1, a, b, c + 1, rfl, ha, by omega, by omega⟩
    simp [m__law_random, mb__law_random, pdef, odef, fdef, outP, outO, outF, start', sseq, sasg, sasgO, sput, gN, gS, gT, gTn, gLs, gs0, gs1, sdrop, sapp, sappN, sif, sret, sretF, sretO, sretV, snever, snx, sbk, sct, sfz, frz, smul, emV, emO, emN, putMR, lift, fL1, fL1o, f2, fc2, fB, fT, fnB, fif, ftup, flst, fF, facons, fseq, frg1, xv, xb, xc, xl, xixo, ownAt, setOwn, mayOwn, noPar, isPar, acons, anil, m1, m2, m2o, mL, mLo, mM, mMo, mF, mK, reordL, c2, ch2, vB, tB', nB, andB, orB, Lay.xand, Lay.xor, Lay.xnot, xif, xtup, xlst, iseq, iSeqD, irg1, irg2, xrg1, xrg2, xlrg, pN, pS, tight, tightO, tyes, List.replicate, Option.bind_eq_bind, Option.bind_some, Option.map_some, Option.bind_none, Option.map_none, List.length_cons, List.length_nil, List.getElem?_cons_zero, List.getElem?_cons_succ, List.set_cons_zero, List.set_cons_succ, List.map_cons, List.map_nil, List.cons_append, List.nil_append, List.all_cons, List.all_nil, if_true, if_false, reduceIte, Nat.reduceAdd, Nat.reduceSub, Nat.reduceEqDiff, Nat.reduceLeDiff, xcut, xcutT, L2.atI, L2.ixN, bInt, D.gt, D.mod, D.fdiv, D.add, D.mul, D.bits, hp, h1, hlog, hbits, rgB, rgI, sfor, forGo, hash_t, hc', mulOk, h30, hr1]

theorem cutG_len {α : Type} (xs : List α) (hi : Option Int) : True := trivial
theorem cell_t (ns : List Int) (i : Int) (h0 : 0 ≤ i) : ∃ x, m__law_cell [.scr ns, .int i] = some (.int x) := by
  by_cases h : i < (ns.length : Int)
  · have hi : i.toNat < ns.length := by omega
    refine ⟨ns[i.toNat], ?_⟩
    have hx : L2.ixN ns.length i = some i.toNat := by
      unfold L2.ixN
      simp [h0, h]
    have hat : L2.atI ns i = some ns[i.toNat] := by
      unfold L2.atI
      rw [hx]
      simp [hi]
    simp [m__law_cell, mb__law_cell, pdef, odef, fdef, outP, outO, outF, start', sseq, sasg, sasgO, sput, gN, gS, gT, gTn, gLs, gs0, gs1, sdrop, sapp, sappN, sif, sret, sretF, sretO, sretV, snever, snx, sbk, sct, sfz, frz, smul, emV, emO, emN, putMR, lift, fL1, fL1o, f2, fc2, fB, fT, fnB, fif, ftup, flst, fF, facons, fseq, frg1, xv, xb, xc, xl, xixo, ownAt, setOwn, mayOwn, noPar, isPar, acons, anil, m1, m2, m2o, mL, mLo, mM, mMo, mF, mK, reordL, c2, ch2, vB, tB', nB, andB, orB, Lay.xand, Lay.xor, Lay.xnot, xif, xtup, xlst, iseq, iSeqD, irg1, irg2, xrg1, xrg2, xlrg, pN, pS, tight, tightO, tyes, List.replicate, Option.bind_eq_bind, Option.bind_some, Option.map_some, Option.bind_none, Option.map_none, List.length_cons, List.length_nil, List.getElem?_cons_zero, List.getElem?_cons_succ, List.set_cons_zero, List.set_cons_succ, List.map_cons, List.map_nil, List.cons_append, List.nil_append, List.all_cons, List.all_nil, if_true, if_false, reduceIte, Nat.reduceAdd, Nat.reduceSub, Nat.reduceEqDiff, Nat.reduceLeDiff, xcut, xcutT, bLen, D.lt, h, D.ix, hat]
  · simp [m__law_cell, mb__law_cell, pdef, odef, fdef, outP, outO, outF, start', sseq, sasg, sasgO, sput, gN, gS, gT, gTn, gLs, gs0, gs1, sdrop, sapp, sappN, sif, sret, sretF, sretO, sretV, snever, snx, sbk, sct, sfz, frz, smul, emV, emO, emN, putMR, lift, fL1, fL1o, f2, fc2, fB, fT, fnB, fif, ftup, flst, fF, facons, fseq, frg1, xv, xb, xc, xl, xixo, ownAt, setOwn, mayOwn, noPar, isPar, acons, anil, m1, m2, m2o, mL, mLo, mM, mMo, mF, mK, reordL, c2, ch2, vB, tB', nB, andB, orB, Lay.xand, Lay.xor, Lay.xnot, xif, xtup, xlst, iseq, iSeqD, irg1, irg2, xrg1, xrg2, xlrg, pN, pS, tight, tightO, tyes, List.replicate, Option.bind_eq_bind, Option.bind_some, Option.map_some, Option.bind_none, Option.map_none, List.length_cons, List.length_nil, List.getElem?_cons_zero, List.getElem?_cons_succ, List.set_cons_zero, List.set_cons_succ, List.map_cons, List.map_nil, List.cons_append, List.nil_append, List.all_cons, List.all_nil, if_true, if_false, reduceIte, Nat.reduceAdd, Nat.reduceSub, Nat.reduceEqDiff, Nat.reduceLeDiff, xcut, xcutT, bLen, D.lt, h, D.cut, bSum, ints?_map, D.mod]
theorem p18 : D.pow (.int 10) (.int 18) = some (.int 1000000000000000000) := rfl
theorem p60 : D.pow (.int 10) (.int 60) = some (.int 1000000000000000000000000000000000000000000000000000000000000) := rfl
def big : Int := 10 ^ 600
theorem big_pos : 0 < big := by decide
theorem p600 : D.pow (.int 1000000000000000000000000000000000000000000000000000000000000) (.int 10) = some (.int big) := rfl
theorem gen_t (ns : List Int) (i : Int) (h0 : 0 ≤ i) (h3 : i < 3) : ∃ g, m__law_generator [.scr ns, .int i] = some g ∧ Gd 3000 g := by
  obtain ⟨x, hx⟩ := cell_t ns i h0
  refine ⟨[.int ((if 0 > x - 1000000000000000000 then 0 else x - 1000000000000000000) % big), .int (x % 2147483647), .int (1000 * i)], ?_, _, _, _, rfl, Int.emod_nonneg _ (Int.ne_of_gt big_pos), by omega, by omega⟩
  simp [m__law_generator, mb__law_generator, pdef, odef, fdef, outP, outO, outF, start', sseq, sasg, sasgO, sput, gN, gS, gT, gTn, gLs, gs0, gs1, sdrop, sapp, sappN, sif, sret, sretF, sretO, sretV, snever, snx, sbk, sct, sfz, frz, smul, emV, emO, emN, putMR, lift, fL1, fL1o, f2, fc2, fB, fT, fnB, fif, ftup, flst, fF, facons, fseq, frg1, xv, xb, xc, xl, xixo, ownAt, setOwn, mayOwn, noPar, isPar, acons, anil, m1, m2, m2o, mL, mLo, mM, mMo, mF, mK, reordL, c2, ch2, vB, tB', nB, andB, orB, Lay.xand, Lay.xor, Lay.xnot, xif, xtup, xlst, iseq, iSeqD, irg1, irg2, xrg1, xrg2, xlrg, pN, pS, tight, tightO, tyes, List.replicate, Option.bind_eq_bind, Option.bind_some, Option.map_some, Option.bind_none, Option.map_none, List.length_cons, List.length_nil, List.getElem?_cons_zero, List.getElem?_cons_succ, List.set_cons_zero, List.set_cons_succ, List.map_cons, List.map_nil, List.cons_append, List.nil_append, List.all_cons, List.all_nil, if_true, if_false, reduceIte, Nat.reduceAdd, Nat.reduceSub, Nat.reduceEqDiff, Nat.reduceLeDiff, xcut, xcutT, hx, p18, p60, p600, D.sub, D.mul, D.mod, bMax, bInt, mulOk, big_pos]

/-! kinds -/
def KOk (nm : Str) (n : Int) : Prop := (nm = "plain" ∧ 1 ≤ n ∧ n ≤ 7) ∨ (nm = "mirror" ∧ 1 ≤ n ∧ n ≤ 5) ∨ (nm = "ring" ∧ 2 ≤ n ∧ n ≤ 5)
theorem ix0 : D.index (.lst [.str "plain", .str "mirror", .str "ring"]) (.str "plain") = some (.int 0) := by rfl
theorem ix1 : D.index (.lst [.str "plain", .str "mirror", .str "ring"]) (.str "mirror") = some (.int 1) := by rfl
theorem ix2 : D.index (.lst [.str "plain", .str "mirror", .str "ring"]) (.str "ring") = some (.int 2) := by rfl
theorem kind_t {N : Int} (hN : N + 6 < 1000000000) {g : List D} (h : Gd N g) : ∃ nm n g', m__law_kind g [] = some (.tup [.str nm, .int n], g') ∧ KOk nm n ∧ Gd (N + 6) g' := by
  obtain ⟨r1, g1, e1, a1, b1, G1⟩ := random_t (by omega) h 3 (by decide) (by decide)
  obtain ⟨r2, g2, e2, a2, b2, G2⟩ := random_t (by omega) G1 5 (by decide) (by decide)
  obtain ⟨r3, g3, e3, a3, b3, G3⟩ := random_t (by omega) G2 4 (by decide) (by decide)
  obtain ⟨r4, g4, e4, a4, b4, G4⟩ := random_t (by omega) G3 3 (by decide) (by decide)
  obtain ⟨r5, g5, e5, a5, b5, G5⟩ := random_t (by omega) G4 2 (by decide) (by decide)
  obtain ⟨r6, g6, e6, a6, b6, G6⟩ := random_t (by omega) G5 8 (by decide) (by decide)
  have G6' : Gd (N + 6) g6 := by
    obtain ⟨a, b, c, h1, h2, h3, h4⟩ := G6
    exact ⟨a, b, c, h1, h2, h3, by omega⟩
  rcases (by omega : r1 = 0 ∨ r1 = 1 ∨ r1 = 2) with rfl | rfl | rfl
  · by_cases h6 : r6 = 0
    · refine ⟨"plain", 6 + r5, g6, ?_, .inl ⟨rfl, by omega, by omega⟩, G6'⟩
      simp [m__law_kind, mb__law_kind, pdef, odef, fdef, outP, outO, outF, start', sseq, sasg, sasgO, sput, gN, gS, gT, gTn, gLs, gs0, gs1, sdrop, sapp, sappN, sif, sret, sretF, sretO, sretV, snever, snx, sbk, sct, sfz, frz, smul, emV, emO, emN, putMR, lift, fL1, fL1o, f2, fc2, fB, fT, fnB, fif, ftup, flst, fF, facons, fseq, frg1, xv, xb, xc, xl, xixo, ownAt, setOwn, mayOwn, noPar, isPar, acons, anil, m1, m2, m2o, mL, mLo, mM, mMo, mF, mK, reordL, c2, ch2, vB, tB', nB, andB, orB, Lay.xand, Lay.xor, Lay.xnot, xif, xtup, xlst, iseq, iSeqD, irg1, irg2, xrg1, xrg2, xlrg, pN, pS, tight, tightO, tyes, List.replicate, Option.bind_eq_bind, Option.bind_some, Option.map_some, Option.bind_none, Option.map_none, List.length_cons, List.length_nil, List.getElem?_cons_zero, List.getElem?_cons_succ, List.set_cons_zero, List.set_cons_succ, List.map_cons, List.map_nil, List.cons_append, List.nil_append, List.all_cons, List.all_nil, if_true, if_false, reduceIte, Nat.reduceAdd, Nat.reduceSub, Nat.reduceEqDiff, Nat.reduceLeDiff, xcut, xcutT, L2.atI, L2.ixN, e1, e2, e3, e4, e5, e6, D.ix, D.add, eq_int, h6, ix0]
    · refine ⟨"plain", 1 + r2, g6, ?_, .inl ⟨rfl, by omega, by omega⟩, G6'⟩
      simp [m__law_kind, mb__law_kind, pdef, odef, fdef, outP, outO, outF, start', sseq, sasg, sasgO, sput, gN, gS, gT, gTn, gLs, gs0, gs1, sdrop, sapp, sappN, sif, sret, sretF, sretO, sretV, snever, snx, sbk, sct, sfz, frz, smul, emV, emO, emN, putMR, lift, fL1, fL1o, f2, fc2, fB, fT, fnB, fif, ftup, flst, fF, facons, fseq, frg1, xv, xb, xc, xl, xixo, ownAt, setOwn, mayOwn, noPar, isPar, acons, anil, m1, m2, m2o, mL, mLo, mM, mMo, mF, mK, reordL, c2, ch2, vB, tB', nB, andB, orB, Lay.xand, Lay.xor, Lay.xnot, xif, xtup, xlst, iseq, iSeqD, irg1, irg2, xrg1, xrg2, xlrg, pN, pS, tight, tightO, tyes, List.replicate, Option.bind_eq_bind, Option.bind_some, Option.map_some, Option.bind_none, Option.map_none, List.length_cons, List.length_nil, List.getElem?_cons_zero, List.getElem?_cons_succ, List.set_cons_zero, List.set_cons_succ, List.map_cons, List.map_nil, List.cons_append, List.nil_append, List.all_cons, List.all_nil, if_true, if_false, reduceIte, Nat.reduceAdd, Nat.reduceSub, Nat.reduceEqDiff, Nat.reduceLeDiff, xcut, xcutT, L2.atI, L2.ixN, e1, e2, e3, e4, e5, e6, D.ix, D.add, eq_int, h6, ix0]
  · by_cases h6 : r6 = 0
    · refine ⟨"mirror", 5, g6, ?_, .inr (.inl ⟨rfl, by omega, by omega⟩), G6'⟩
      simp [m__law_kind, mb__law_kind, pdef, odef, fdef, outP, outO, outF, start', sseq, sasg, sasgO, sput, gN, gS, gT, gTn, gLs, gs0, gs1, sdrop, sapp, sappN, sif, sret, sretF, sretO, sretV, snever, snx, sbk, sct, sfz, frz, smul, emV, emO, emN, putMR, lift, fL1, fL1o, f2, fc2, fB, fT, fnB, fif, ftup, flst, fF, facons, fseq, frg1, xv, xb, xc, xl, xixo, ownAt, setOwn, mayOwn, noPar, isPar, acons, anil, m1, m2, m2o, mL, mLo, mM, mMo, mF, mK, reordL, c2, ch2, vB, tB', nB, andB, orB, Lay.xand, Lay.xor, Lay.xnot, xif, xtup, xlst, iseq, iSeqD, irg1, irg2, xrg1, xrg2, xlrg, pN, pS, tight, tightO, tyes, List.replicate, Option.bind_eq_bind, Option.bind_some, Option.map_some, Option.bind_none, Option.map_none, List.length_cons, List.length_nil, List.getElem?_cons_zero, List.getElem?_cons_succ, List.set_cons_zero, List.set_cons_succ, List.map_cons, List.map_nil, List.cons_append, List.nil_append, List.all_cons, List.all_nil, if_true, if_false, reduceIte, Nat.reduceAdd, Nat.reduceSub, Nat.reduceEqDiff, Nat.reduceLeDiff, xcut, xcutT, L2.atI, L2.ixN, e1, e2, e3, e4, e5, e6, D.ix, D.add, eq_int, h6, ix1]
    · refine ⟨"mirror", 1 + r3, g6, ?_, .inr (.inl ⟨rfl, by omega, by omega⟩), G6'⟩
      simp [m__law_kind, mb__law_kind, pdef, odef, fdef, outP, outO, outF, start', sseq, sasg, sasgO, sput, gN, gS, gT, gTn, gLs, gs0, gs1, sdrop, sapp, sappN, sif, sret, sretF, sretO, sretV, snever, snx, sbk, sct, sfz, frz, smul, emV, emO, emN, putMR, lift, fL1, fL1o, f2, fc2, fB, fT, fnB, fif, ftup, flst, fF, facons, fseq, frg1, xv, xb, xc, xl, xixo, ownAt, setOwn, mayOwn, noPar, isPar, acons, anil, m1, m2, m2o, mL, mLo, mM, mMo, mF, mK, reordL, c2, ch2, vB, tB', nB, andB, orB, Lay.xand, Lay.xor, Lay.xnot, xif, xtup, xlst, iseq, iSeqD, irg1, irg2, xrg1, xrg2, xlrg, pN, pS, tight, tightO, tyes, List.replicate, Option.bind_eq_bind, Option.bind_some, Option.map_some, Option.bind_none, Option.map_none, List.length_cons, List.length_nil, List.getElem?_cons_zero, List.getElem?_cons_succ, List.set_cons_zero, List.set_cons_succ, List.map_cons, List.map_nil, List.cons_append, List.nil_append, List.all_cons, List.all_nil, if_true, if_false, reduceIte, Nat.reduceAdd, Nat.reduceSub, Nat.reduceEqDiff, Nat.reduceLeDiff, xcut, xcutT, L2.atI, L2.ixN, e1, e2, e3, e4, e5, e6, D.ix, D.add, eq_int, h6, ix1]
  · by_cases h6 : r6 = 0
    · refine ⟨"ring", 5, g6, ?_, .inr (.inr ⟨rfl, by omega, by omega⟩), G6'⟩
      simp [m__law_kind, mb__law_kind, pdef, odef, fdef, outP, outO, outF, start', sseq, sasg, sasgO, sput, gN, gS, gT, gTn, gLs, gs0, gs1, sdrop, sapp, sappN, sif, sret, sretF, sretO, sretV, snever, snx, sbk, sct, sfz, frz, smul, emV, emO, emN, putMR, lift, fL1, fL1o, f2, fc2, fB, fT, fnB, fif, ftup, flst, fF, facons, fseq, frg1, xv, xb, xc, xl, xixo, ownAt, setOwn, mayOwn, noPar, isPar, acons, anil, m1, m2, m2o, mL, mLo, mM, mMo, mF, mK, reordL, c2, ch2, vB, tB', nB, andB, orB, Lay.xand, Lay.xor, Lay.xnot, xif, xtup, xlst, iseq, iSeqD, irg1, irg2, xrg1, xrg2, xlrg, pN, pS, tight, tightO, tyes, List.replicate, Option.bind_eq_bind, Option.bind_some, Option.map_some, Option.bind_none, Option.map_none, List.length_cons, List.length_nil, List.getElem?_cons_zero, List.getElem?_cons_succ, List.set_cons_zero, List.set_cons_succ, List.map_cons, List.map_nil, List.cons_append, List.nil_append, List.all_cons, List.all_nil, if_true, if_false, reduceIte, Nat.reduceAdd, Nat.reduceSub, Nat.reduceEqDiff, Nat.reduceLeDiff, xcut, xcutT, L2.atI, L2.ixN, e1, e2, e3, e4, e5, e6, D.ix, D.add, eq_int, h6, ix2]
    · refine ⟨"ring", 2 + r4, g6, ?_, .inr (.inr ⟨rfl, by omega, by omega⟩), G6'⟩
      simp [m__law_kind, mb__law_kind, pdef, odef, fdef, outP, outO, outF, start', sseq, sasg, sasgO, sput, gN, gS, gT, gTn, gLs, gs0, gs1, sdrop, sapp, sappN, sif, sret, sretF, sretO, sretV, snever, snx, sbk, sct, sfz, frz, smul, emV, emO, emN, putMR, lift, fL1, fL1o, f2, fc2, fB, fT, fnB, fif, ftup, flst, fF, facons, fseq, frg1, xv, xb, xc, xl, xixo, ownAt, setOwn, mayOwn, noPar, isPar, acons, anil, m1, m2, m2o, mL, mLo, mM, mMo, mF, mK, reordL, c2, ch2, vB, tB', nB, andB, orB, Lay.xand, Lay.xor, Lay.xnot, xif, xtup, xlst, iseq, iSeqD, irg1, irg2, xrg1, xrg2, xlrg, pN, pS, tight, tightO, tyes, List.replicate, Option.bind_eq_bind, Option.bind_some, Option.map_some, Option.bind_none, Option.map_none, List.length_cons, List.length_nil, List.getElem?_cons_zero, List.getElem?_cons_succ, List.set_cons_zero, List.set_cons_succ, List.map_cons, List.map_nil, List.cons_append, List.nil_append, List.all_cons, List.all_nil, if_true, if_false, reduceIte, Nat.reduceAdd, Nat.reduceSub, Nat.reduceEqDiff, Nat.reduceLeDiff, xcut, xcutT, L2.atI, L2.ixN, e1, e2, e3, e4, e5, e6, D.ix, D.add, eq_int, h6, ix2]
end k01

namespace k01
open PySem Lay
theorem q_pp : D.eq (.str "plain") (.str "plain") = some true := by rw [eq_str (by decide +kernel) (by decide +kernel)]; decide +kernel
theorem q_mp : D.eq (.str "mirror") (.str "plain") = some false := by rw [eq_str (by decide +kernel) (by decide +kernel)]; decide +kernel
theorem q_rp : D.eq (.str "ring") (.str "plain") = some false := by rw [eq_str (by decide +kernel) (by decide +kernel)]; decide +kernel
theorem q_pm : D.eq (.str "plain") (.str "mirror") = some false := by rw [eq_str (by decide +kernel) (by decide +kernel)]; decide +kernel
theorem q_mm : D.eq (.str "mirror") (.str "mirror") = some true := by rw [eq_str (by decide +kernel) (by decide +kernel)]; decide +kernel
theorem q_rm : D.eq (.str "ring") (.str "mirror") = some false := by rw [eq_str (by decide +kernel) (by decide +kernel)]; decide +kernel
theorem q_pr : D.eq (.str "plain") (.str "ring") = some false := by rw [eq_str (by decide +kernel) (by decide +kernel)]; decide +kernel
theorem q_mr : D.eq (.str "mirror") (.str "ring") = some false := by rw [eq_str (by decide +kernel) (by decide +kernel)]; decide +kernel
theorem q_rr : D.eq (.str "ring") (.str "ring") = some true := by rw [eq_str (by decide +kernel) (by decide +kernel)]; decide +kernel
def told (nm : Str) (n : Int) : D := .tup [.str nm, .int n]
/-- mirror? -/
def isM (nm : Str) : Bool := nm == "mirror"
theorem isM_p : isM "plain" = false := by decide +kernel
theorem isM_m : isM "mirror" = true := by decide +kernel
theorem isM_r : isM "ring" = false := by decide +kernel
def isP (nm : Str) : Bool := nm == "plain"
theorem isP_p : isP "plain" = true := by decide +kernel
theorem isP_m : isP "mirror" = false := by decide +kernel
theorem isP_r : isP "ring" = false := by decide +kernel
def many (nm : Str) (n : Int) : Int := if isP nm = true then n - 1 else n
theorem many_t {nm : Str} {n : Int} (h : KOk nm n) : m__law_many [told nm n] = some (.int (many nm n)) := by
  rcases h with ⟨rfl, _⟩ | ⟨rfl, _⟩ | ⟨rfl, _⟩ <;>
  simp [m__law_many, mb__law_many, told, pdef, odef, fdef, outP, outO, outF, start', sseq, sasg, sasgO, sput, gN, gS, gT, gTn, gLs, gs0, gs1, sdrop, sapp, sappN, sif, sret, sretF, sretO, sretV, snever, snx, sbk, sct, sfz, frz, smul, emV, emO, emN, putMR, lift, fL1, fL1o, f2, fc2, fB, fT, fnB, fif, ftup, flst, fF, facons, fseq, frg1, xv, xb, xc, xl, xixo, ownAt, setOwn, mayOwn, noPar, isPar, acons, anil, m1, m2, m2o, mL, mLo, mM, mMo, mF, mK, reordL, c2, ch2, vB, tB', nB, andB, orB, Lay.xand, Lay.xor, Lay.xnot, xif, xtup, xlst, iseq, iSeqD, irg1, irg2, xrg1, xrg2, xlrg, pN, pS, tight, tightO, tyes, List.replicate, Option.bind_eq_bind, Option.bind_some, Option.map_some, Option.bind_none, Option.map_none, List.length_cons, List.length_nil, List.getElem?_cons_zero, List.getElem?_cons_succ, List.set_cons_zero, List.set_cons_succ, List.map_cons, List.map_nil, List.cons_append, List.nil_append, List.all_cons, List.all_nil, if_true, if_false, reduceIte, Nat.reduceAdd, Nat.reduceSub, Nat.reduceEqDiff, Nat.reduceLeDiff, xcut, xcutT, L2.atI, L2.ixN, D.ix, D.sub, bInt, many, q_pp, q_mp, q_rp, isP_p, isP_m, isP_r]
def off (nm : Str) : Int := if isM nm = true then 1 else 0
def places (nm : Str) (n : Int) : List Int := rgI (off nm) (n + off nm)
def win (nm : Str) (n : Int) (f : Int → Int) : List Int := (places nm n).map f
theorem start_t {nm : Str} {n : Int} (h : KOk nm n) : m__law_start [told nm n] = some ((places nm n).map D.int) := by
  have hr : ∀ a : Int, (a = 0 ∨ a = 1) → RgOkB a (n + a) = true := by
    intro a ha
    have : 1 ≤ n ∧ n ≤ 7 := by
      rcases h with ⟨_, h1, h2⟩ | ⟨_, h1, h2⟩ | ⟨_, h1, h2⟩ <;> omega
    simp [RgOkB]
    omega
  have h0 := hr 0 (.inl rfl)
  have h1 := hr 1 (.inr rfl)
  rw [Int.add_zero] at h0
  rcases h with ⟨rfl, _⟩ | ⟨rfl, _⟩ | ⟨rfl, _⟩ <;>
  simp [m__law_start, mb__law_start, told, pdef, odef, fdef, outP, outO, outF, start', sseq, sasg, sasgO, sput, gN, gS, gT, gTn, gLs, gs0, gs1, sdrop, sapp, sappN, sif, sret, sretF, sretO, sretV, snever, snx, sbk, sct, sfz, frz, smul, emV, emO, emN, putMR, lift, fL1, fL1o, f2, fc2, fB, fT, fnB, fif, ftup, flst, fF, facons, fseq, frg1, xv, xb, xc, xl, xixo, ownAt, setOwn, mayOwn, noPar, isPar, acons, anil, m1, m2, m2o, mL, mLo, mM, mMo, mF, mK, reordL, c2, ch2, vB, tB', nB, andB, orB, Lay.xand, Lay.xor, Lay.xnot, xif, xtup, xlst, iseq, iSeqD, irg1, irg2, xrg1, xrg2, xlrg, pN, pS, tight, tightO, tyes, List.replicate, Option.bind_eq_bind, Option.bind_some, Option.map_some, Option.bind_none, Option.map_none, List.length_cons, List.length_nil, List.getElem?_cons_zero, List.getElem?_cons_succ, List.set_cons_zero, List.set_cons_succ, List.map_cons, List.map_nil, List.cons_append, List.nil_append, List.all_cons, List.all_nil, if_true, if_false, reduceIte, Nat.reduceAdd, Nat.reduceSub, Nat.reduceEqDiff, Nat.reduceLeDiff, xcut, xcutT, L2.atI, L2.ixN, D.ix, D.add, bInt, places, off, q_pm, q_mm, q_rm, isM_p, isM_m, isM_r, h0, h1]
/-- what a step does to a place -/
def tT (nm : Str) (n s p : Int) : Int :=
  if isM nm = true then (if s = 0 then (if p.natAbs = 1 then -p else p) else if (p.natAbs : Int) = s ∨ (p.natAbs : Int) = s + 1 then (if 0 < p then 2 * s + 1 - p else -(2 * s + 1 + p)) else p)
  else (if (p - s) % n = 0 then p + 1 else if (p - s) % n = 1 then p - 1 else p)
theorem absI (p : Int) : (if p < 0 then -p else p) = (p.natAbs : Int) := by split <;> omega
theorem turned_t {nm : Str} {n s p : Int} (h : KOk nm n) (hs : 0 ≤ s) (hs2 : s < 10) : m__law_turned [told nm n, .int s, .int p] = some (.int (tT nm n s p)) := by
  rcases h with ⟨rfl, h1, _⟩ | ⟨rfl, h1, _⟩ | ⟨rfl, h1, _⟩
  · have hn : 0 < n := by omega
    by_cases c0 : (p - s) % n = 0
    · simp [m__law_turned, mb__law_turned, told, pdef, odef, fdef, outP, outO, outF, start', sseq, sasg, sasgO, sput, gN, gS, gT, gTn, gLs, gs0, gs1, sdrop, sapp, sappN, sif, sret, sretF, sretO, sretV, snever, snx, sbk, sct, sfz, frz, smul, emV, emO, emN, putMR, lift, fL1, fL1o, f2, fc2, fB, fT, fnB, fif, ftup, flst, fF, facons, fseq, frg1, xv, xb, xc, xl, xixo, ownAt, setOwn, mayOwn, noPar, isPar, acons, anil, m1, m2, m2o, mL, mLo, mM, mMo, mF, mK, reordL, c2, ch2, vB, tB', nB, andB, orB, Lay.xand, Lay.xor, Lay.xnot, xif, xtup, xlst, iseq, iSeqD, irg1, irg2, xrg1, xrg2, xlrg, pN, pS, tight, tightO, tyes, List.replicate, Option.bind_eq_bind, Option.bind_some, Option.map_some, Option.bind_none, Option.map_none, List.length_cons, List.length_nil, List.getElem?_cons_zero, List.getElem?_cons_succ, List.set_cons_zero, List.set_cons_succ, List.map_cons, List.map_nil, List.cons_append, List.nil_append, List.all_cons, List.all_nil, if_true, if_false, reduceIte, Nat.reduceAdd, Nat.reduceSub, Nat.reduceEqDiff, Nat.reduceLeDiff, xcut, xcutT, L2.atI, L2.ixN, D.ix, D.add, D.sub, D.mod, bInt, q_pm, isM_p, hn, eq_int, c0, tT]
    · by_cases c1 : (p - s) % n = 1
      · simp [m__law_turned, mb__law_turned, told, pdef, odef, fdef, outP, outO, outF, start', sseq, sasg, sasgO, sput, gN, gS, gT, gTn, gLs, gs0, gs1, sdrop, sapp, sappN, sif, sret, sretF, sretO, sretV, snever, snx, sbk, sct, sfz, frz, smul, emV, emO, emN, putMR, lift, fL1, fL1o, f2, fc2, fB, fT, fnB, fif, ftup, flst, fF, facons, fseq, frg1, xv, xb, xc, xl, xixo, ownAt, setOwn, mayOwn, noPar, isPar, acons, anil, m1, m2, m2o, mL, mLo, mM, mMo, mF, mK, reordL, c2, ch2, vB, tB', nB, andB, orB, Lay.xand, Lay.xor, Lay.xnot, xif, xtup, xlst, iseq, iSeqD, irg1, irg2, xrg1, xrg2, xlrg, pN, pS, tight, tightO, tyes, List.replicate, Option.bind_eq_bind, Option.bind_some, Option.map_some, Option.bind_none, Option.map_none, List.length_cons, List.length_nil, List.getElem?_cons_zero, List.getElem?_cons_succ, List.set_cons_zero, List.set_cons_succ, List.map_cons, List.map_nil, List.cons_append, List.nil_append, List.all_cons, List.all_nil, if_true, if_false, reduceIte, Nat.reduceAdd, Nat.reduceSub, Nat.reduceEqDiff, Nat.reduceLeDiff, xcut, xcutT, L2.atI, L2.ixN, D.ix, D.add, D.sub, D.mod, bInt, q_pm, isM_p, hn, eq_int, c0, c1, tT]
      · simp [m__law_turned, mb__law_turned, told, pdef, odef, fdef, outP, outO, outF, start', sseq, sasg, sasgO, sput, gN, gS, gT, gTn, gLs, gs0, gs1, sdrop, sapp, sappN, sif, sret, sretF, sretO, sretV, snever, snx, sbk, sct, sfz, frz, smul, emV, emO, emN, putMR, lift, fL1, fL1o, f2, fc2, fB, fT, fnB, fif, ftup, flst, fF, facons, fseq, frg1, xv, xb, xc, xl, xixo, ownAt, setOwn, mayOwn, noPar, isPar, acons, anil, m1, m2, m2o, mL, mLo, mM, mMo, mF, mK, reordL, c2, ch2, vB, tB', nB, andB, orB, Lay.xand, Lay.xor, Lay.xnot, xif, xtup, xlst, iseq, iSeqD, irg1, irg2, xrg1, xrg2, xlrg, pN, pS, tight, tightO, tyes, List.replicate, Option.bind_eq_bind, Option.bind_some, Option.map_some, Option.bind_none, Option.map_none, List.length_cons, List.length_nil, List.getElem?_cons_zero, List.getElem?_cons_succ, List.set_cons_zero, List.set_cons_succ, List.map_cons, List.map_nil, List.cons_append, List.nil_append, List.all_cons, List.all_nil, if_true, if_false, reduceIte, Nat.reduceAdd, Nat.reduceSub, Nat.reduceEqDiff, Nat.reduceLeDiff, xcut, xcutT, L2.atI, L2.ixN, D.ix, D.add, D.sub, D.mod, bInt, q_pm, isM_p, hn, eq_int, c0, c1, tT]
  · by_cases s0 : s = 0
    · subst s0
      by_cases c : p.natAbs = 1
      · have c' : (p.natAbs : Int) = 1 := by omega
        simp [m__law_turned, mb__law_turned, told, pdef, odef, fdef, outP, outO, outF, start', sseq, sasg, sasgO, sput, gN, gS, gT, gTn, gLs, gs0, gs1, sdrop, sapp, sappN, sif, sret, sretF, sretO, sretV, snever, snx, sbk, sct, sfz, frz, smul, emV, emO, emN, putMR, lift, fL1, fL1o, f2, fc2, fB, fT, fnB, fif, ftup, flst, fF, facons, fseq, frg1, xv, xb, xc, xl, xixo, ownAt, setOwn, mayOwn, noPar, isPar, acons, anil, m1, m2, m2o, mL, mLo, mM, mMo, mF, mK, reordL, c2, ch2, vB, tB', nB, andB, orB, Lay.xand, Lay.xor, Lay.xnot, xif, xtup, xlst, iseq, iSeqD, irg1, irg2, xrg1, xrg2, xlrg, pN, pS, tight, tightO, tyes, List.replicate, Option.bind_eq_bind, Option.bind_some, Option.map_some, Option.bind_none, Option.map_none, List.length_cons, List.length_nil, List.getElem?_cons_zero, List.getElem?_cons_succ, List.set_cons_zero, List.set_cons_succ, List.map_cons, List.map_nil, List.cons_append, List.nil_append, List.all_cons, List.all_nil, if_true, if_false, reduceIte, Nat.reduceAdd, Nat.reduceSub, Nat.reduceEqDiff, Nat.reduceLeDiff, xcut, xcutT, L2.atI, L2.ixN, D.ix, D.add, D.sub, D.mod, D.neg, bInt, bAbs, absI, q_mm, isM_m, eq_int, tT, c, c']
      · have c' : ¬ (p.natAbs : Int) = 1 := by omega
        simp [m__law_turned, mb__law_turned, told, pdef, odef, fdef, outP, outO, outF, start', sseq, sasg, sasgO, sput, gN, gS, gT, gTn, gLs, gs0, gs1, sdrop, sapp, sappN, sif, sret, sretF, sretO, sretV, snever, snx, sbk, sct, sfz, frz, smul, emV, emO, emN, putMR, lift, fL1, fL1o, f2, fc2, fB, fT, fnB, fif, ftup, flst, fF, facons, fseq, frg1, xv, xb, xc, xl, xixo, ownAt, setOwn, mayOwn, noPar, isPar, acons, anil, m1, m2, m2o, mL, mLo, mM, mMo, mF, mK, reordL, c2, ch2, vB, tB', nB, andB, orB, Lay.xand, Lay.xor, Lay.xnot, xif, xtup, xlst, iseq, iSeqD, irg1, irg2, xrg1, xrg2, xlrg, pN, pS, tight, tightO, tyes, List.replicate, Option.bind_eq_bind, Option.bind_some, Option.map_some, Option.bind_none, Option.map_none, List.length_cons, List.length_nil, List.getElem?_cons_zero, List.getElem?_cons_succ, List.set_cons_zero, List.set_cons_succ, List.map_cons, List.map_nil, List.cons_append, List.nil_append, List.all_cons, List.all_nil, if_true, if_false, reduceIte, Nat.reduceAdd, Nat.reduceSub, Nat.reduceEqDiff, Nat.reduceLeDiff, xcut, xcutT, L2.atI, L2.ixN, D.ix, D.add, D.sub, D.mod, D.neg, bInt, bAbs, absI, q_mm, isM_m, eq_int, tT, c, c']
    · have hs' : s.natAbs < 18446744073709551616 := by omega
      by_cases c : (p.natAbs : Int) = s ∨ (p.natAbs : Int) = s + 1
      · have cc : s = (p.natAbs : Int) ∨ s + 1 = (p.natAbs : Int) := by omega
        by_cases hp : 0 < p
        · have e : (2 * s + 1 - (p.natAbs : Int)) = 2 * s + 1 - p := by omega
          simp [m__law_turned, mb__law_turned, told, pdef, odef, fdef, outP, outO, outF, start', sseq, sasg, sasgO, sput, gN, gS, gT, gTn, gLs, gs0, gs1, sdrop, sapp, sappN, sif, sret, sretF, sretO, sretV, snever, snx, sbk, sct, sfz, frz, smul, emV, emO, emN, putMR, lift, fL1, fL1o, f2, fc2, fB, fT, fnB, fif, ftup, flst, fF, facons, fseq, frg1, xv, xb, xc, xl, xixo, ownAt, setOwn, mayOwn, noPar, isPar, acons, anil, m1, m2, m2o, mL, mLo, mM, mMo, mF, mK, reordL, c2, ch2, vB, tB', nB, andB, orB, Lay.xand, Lay.xor, Lay.xnot, xif, xtup, xlst, iseq, iSeqD, irg1, irg2, xrg1, xrg2, xlrg, pN, pS, tight, tightO, tyes, List.replicate, Option.bind_eq_bind, Option.bind_some, Option.map_some, Option.bind_none, Option.map_none, List.length_cons, List.length_nil, List.getElem?_cons_zero, List.getElem?_cons_succ, List.set_cons_zero, List.set_cons_succ, List.map_cons, List.map_nil, List.cons_append, List.nil_append, List.all_cons, List.all_nil, if_true, if_false, reduceIte, Nat.reduceAdd, Nat.reduceSub, Nat.reduceEqDiff, Nat.reduceLeDiff, xcut, xcutT, L2.atI, L2.ixN, D.ix, D.add, D.sub, D.mul, D.mod, D.neg, D.gt, bInt, bAbs, absI, q_mm, isM_m, eq_int, tT, s0, c, cc, hp, D.isin, D.flat, D.eqF, mulOk, hs']
          try omega
        · have e : (2 * s + 1 - (p.natAbs : Int)) = 2 * s + 1 + p := by omega
          simp [m__law_turned, mb__law_turned, told, pdef, odef, fdef, outP, outO, outF, start', sseq, sasg, sasgO, sput, gN, gS, gT, gTn, gLs, gs0, gs1, sdrop, sapp, sappN, sif, sret, sretF, sretO, sretV, snever, snx, sbk, sct, sfz, frz, smul, emV, emO, emN, putMR, lift, fL1, fL1o, f2, fc2, fB, fT, fnB, fif, ftup, flst, fF, facons, fseq, frg1, xv, xb, xc, xl, xixo, ownAt, setOwn, mayOwn, noPar, isPar, acons, anil, m1, m2, m2o, mL, mLo, mM, mMo, mF, mK, reordL, c2, ch2, vB, tB', nB, andB, orB, Lay.xand, Lay.xor, Lay.xnot, xif, xtup, xlst, iseq, iSeqD, irg1, irg2, xrg1, xrg2, xlrg, pN, pS, tight, tightO, tyes, List.replicate, Option.bind_eq_bind, Option.bind_some, Option.map_some, Option.bind_none, Option.map_none, List.length_cons, List.length_nil, List.getElem?_cons_zero, List.getElem?_cons_succ, List.set_cons_zero, List.set_cons_succ, List.map_cons, List.map_nil, List.cons_append, List.nil_append, List.all_cons, List.all_nil, if_true, if_false, reduceIte, Nat.reduceAdd, Nat.reduceSub, Nat.reduceEqDiff, Nat.reduceLeDiff, xcut, xcutT, L2.atI, L2.ixN, D.ix, D.add, D.sub, D.mul, D.mod, D.neg, D.gt, bInt, bAbs, absI, q_mm, isM_m, eq_int, tT, s0, c, cc, hp, D.isin, D.flat, D.eqF, mulOk, hs']
          try omega
      · have cc : ¬ (s = (p.natAbs : Int) ∨ s + 1 = (p.natAbs : Int)) := by omega
        simp [m__law_turned, mb__law_turned, told, pdef, odef, fdef, outP, outO, outF, start', sseq, sasg, sasgO, sput, gN, gS, gT, gTn, gLs, gs0, gs1, sdrop, sapp, sappN, sif, sret, sretF, sretO, sretV, snever, snx, sbk, sct, sfz, frz, smul, emV, emO, emN, putMR, lift, fL1, fL1o, f2, fc2, fB, fT, fnB, fif, ftup, flst, fF, facons, fseq, frg1, xv, xb, xc, xl, xixo, ownAt, setOwn, mayOwn, noPar, isPar, acons, anil, m1, m2, m2o, mL, mLo, mM, mMo, mF, mK, reordL, c2, ch2, vB, tB', nB, andB, orB, Lay.xand, Lay.xor, Lay.xnot, xif, xtup, xlst, iseq, iSeqD, irg1, irg2, xrg1, xrg2, xlrg, pN, pS, tight, tightO, tyes, List.replicate, Option.bind_eq_bind, Option.bind_some, Option.map_some, Option.bind_none, Option.map_none, List.length_cons, List.length_nil, List.getElem?_cons_zero, List.getElem?_cons_succ, List.set_cons_zero, List.set_cons_succ, List.map_cons, List.map_nil, List.cons_append, List.nil_append, List.all_cons, List.all_nil, if_true, if_false, reduceIte, Nat.reduceAdd, Nat.reduceSub, Nat.reduceEqDiff, Nat.reduceLeDiff, xcut, xcutT, L2.atI, L2.ixN, D.ix, D.add, D.sub, D.mul, D.mod, D.neg, D.gt, bInt, bAbs, absI, q_mm, isM_m, eq_int, tT, s0, c, cc, D.isin, D.flat, D.eqF, mulOk]
  · have hn : 0 < n := by omega
    by_cases c0 : (p - s) % n = 0
    · simp [m__law_turned, mb__law_turned, told, pdef, odef, fdef, outP, outO, outF, start', sseq, sasg, sasgO, sput, gN, gS, gT, gTn, gLs, gs0, gs1, sdrop, sapp, sappN, sif, sret, sretF, sretO, sretV, snever, snx, sbk, sct, sfz, frz, smul, emV, emO, emN, putMR, lift, fL1, fL1o, f2, fc2, fB, fT, fnB, fif, ftup, flst, fF, facons, fseq, frg1, xv, xb, xc, xl, xixo, ownAt, setOwn, mayOwn, noPar, isPar, acons, anil, m1, m2, m2o, mL, mLo, mM, mMo, mF, mK, reordL, c2, ch2, vB, tB', nB, andB, orB, Lay.xand, Lay.xor, Lay.xnot, xif, xtup, xlst, iseq, iSeqD, irg1, irg2, xrg1, xrg2, xlrg, pN, pS, tight, tightO, tyes, List.replicate, Option.bind_eq_bind, Option.bind_some, Option.map_some, Option.bind_none, Option.map_none, List.length_cons, List.length_nil, List.getElem?_cons_zero, List.getElem?_cons_succ, List.set_cons_zero, List.set_cons_succ, List.map_cons, List.map_nil, List.cons_append, List.nil_append, List.all_cons, List.all_nil, if_true, if_false, reduceIte, Nat.reduceAdd, Nat.reduceSub, Nat.reduceEqDiff, Nat.reduceLeDiff, xcut, xcutT, L2.atI, L2.ixN, D.ix, D.add, D.sub, D.mod, bInt, q_rm, isM_r, hn, eq_int, c0, tT]
    · by_cases c1 : (p - s) % n = 1
      · simp [m__law_turned, mb__law_turned, told, pdef, odef, fdef, outP, outO, outF, start', sseq, sasg, sasgO, sput, gN, gS, gT, gTn, gLs, gs0, gs1, sdrop, sapp, sappN, sif, sret, sretF, sretO, sretV, snever, snx, sbk, sct, sfz, frz, smul, emV, emO, emN, putMR, lift, fL1, fL1o, f2, fc2, fB, fT, fnB, fif, ftup, flst, fF, facons, fseq, frg1, xv, xb, xc, xl, xixo, ownAt, setOwn, mayOwn, noPar, isPar, acons, anil, m1, m2, m2o, mL, mLo, mM, mMo, mF, mK, reordL, c2, ch2, vB, tB', nB, andB, orB, Lay.xand, Lay.xor, Lay.xnot, xif, xtup, xlst, iseq, iSeqD, irg1, irg2, xrg1, xrg2, xlrg, pN, pS, tight, tightO, tyes, List.replicate, Option.bind_eq_bind, Option.bind_some, Option.map_some, Option.bind_none, Option.map_none, List.length_cons, List.length_nil, List.getElem?_cons_zero, List.getElem?_cons_succ, List.set_cons_zero, List.set_cons_succ, List.map_cons, List.map_nil, List.cons_append, List.nil_append, List.all_cons, List.all_nil, if_true, if_false, reduceIte, Nat.reduceAdd, Nat.reduceSub, Nat.reduceEqDiff, Nat.reduceLeDiff, xcut, xcutT, L2.atI, L2.ixN, D.ix, D.add, D.sub, D.mod, bInt, q_rm, isM_r, hn, eq_int, c0, c1, tT]
      · simp [m__law_turned, mb__law_turned, told, pdef, odef, fdef, outP, outO, outF, start', sseq, sasg, sasgO, sput, gN, gS, gT, gTn, gLs, gs0, gs1, sdrop, sapp, sappN, sif, sret, sretF, sretO, sretV, snever, snx, sbk, sct, sfz, frz, smul, emV, emO, emN, putMR, lift, fL1, fL1o, f2, fc2, fB, fT, fnB, fif, ftup, flst, fF, facons, fseq, frg1, xv, xb, xc, xl, xixo, ownAt, setOwn, mayOwn, noPar, isPar, acons, anil, m1, m2, m2o, mL, mLo, mM, mMo, mF, mK, reordL, c2, ch2, vB, tB', nB, andB, orB, Lay.xand, Lay.xor, Lay.xnot, xif, xtup, xlst, iseq, iSeqD, irg1, irg2, xrg1, xrg2, xlrg, pN, pS, tight, tightO, tyes, List.replicate, Option.bind_eq_bind, Option.bind_some, Option.map_some, Option.bind_none, Option.map_none, List.length_cons, List.length_nil, List.getElem?_cons_zero, List.getElem?_cons_succ, List.set_cons_zero, List.set_cons_succ, List.map_cons, List.map_nil, List.cons_append, List.nil_append, List.all_cons, List.all_nil, if_true, if_false, reduceIte, Nat.reduceAdd, Nat.reduceSub, Nat.reduceEqDiff, Nat.reduceLeDiff, xcut, xcutT, L2.atI, L2.ixN, D.ix, D.add, D.sub, D.mod, bInt, q_rm, isM_r, hn, eq_int, c0, c1, tT]
end k01

namespace k01
open PySem Lay
/-- orders as functions: odd ones, periodic ones -/
def Good (nm : Str) (n : Int) (f : Int → Int) : Prop := if isM nm = true then ∀ p, f (-p) = -f p else ∀ p, f (p + n) = f p + n
def dom (nm : Str) (n p : Int) : Prop := isM nm = true → p ≠ 0 ∧ (p.natAbs : Int) ≤ n
theorem places_len {nm : Str} {n : Int} (h : 0 ≤ n) : ((places nm n).length : Int) = n := by
  unfold places rgI
  rw [List.length_map, List.length_range]
  omega
theorem places_get {nm : Str} {n : Int} {i : Nat} (h : (i : Int) < n) : (places nm n)[i]? = some (off nm + i) := by
  unfold places rgI
  rw [List.getElem?_map, List.getElem?_range (by omega)]
  rfl
theorem win_at {nm : Str} {n i : Int} {f : Int → Int} (h0 : 0 ≤ i) (h1 : i < n) : L2.atI ((win nm n f).map D.int) i = some (.int (f (off nm + i))) := by
  have hl : ((win nm n f).map D.int).length = n.toNat := by
    have := places_len (nm := nm) (n := n) (by omega)
    unfold win
    rw [List.length_map, List.length_map]
    omega
  unfold L2.atI L2.ixN
  rw [if_pos h0, hl, if_pos (by omega)]
  show ((win nm n f).map D.int)[i.toNat]? = _
  unfold win
  rw [List.getElem?_map, List.getElem?_map, places_get (by omega)]
  show some (D.int (f (off nm + (i.toNat : Int)))) = _
  rw [Int.toNat_of_nonneg h0]
theorem per {n : Int} {f : Int → Int} (h : ∀ p, f (p + n) = f p + n) : ∀ (k p : Int), f (p + k * n) = f p + k * n := by
  have hn : ∀ (k : Nat) (p : Int), f (p + k * n) = f p + k * n := by
    intro k
    induction k with
    | zero => intro p; simp
    | succ k ih =>
      intro p
      have e : p + ((k + 1 : Nat) : Int) * n = (p + k * n) + n := by
        rw [Int.natCast_add, Int.add_mul]; simp; omega
      rw [e, h, ih]
      rw [Int.natCast_add, Int.add_mul]; simp; omega
  intro k p
  rcases Int.le_total 0 k with hk | hk
  · have := hn k.toNat p
    rw [Int.toNat_of_nonneg hk] at this
    exact this
  · have := hn (-k).toNat (p + k * n)
    rw [Int.toNat_of_nonneg (by omega)] at this
    have e : p + k * n + -k * n = p := by rw [Int.neg_mul]; omega
    rw [e] at this
    rw [Int.neg_mul] at this
    omega
theorem per_mod {n : Int} {f : Int → Int} (h : ∀ p, f (p + n) = f p + n) (p : Int) : f (p % n) + p - p % n = f p := by
  have e : p = p % n + (p / n) * n := by rw [Int.mul_comm]; exact (Int.emod_add_mul_ediv p n).symm
  have := per h (p / n) (p % n)
  rw [← e] at this
  rw [this]
  omega
theorem item_t {nm : Str} {n p : Int} {f : Int → Int} (h : KOk nm n) (g : Good nm n f) (hd : dom nm n p) : m__law_item [told nm n, .lst ((win nm n f).map D.int), .int p] = some (.int (f p)) := by
  rcases h with ⟨rfl, h1, _⟩ | ⟨rfl, h1, _⟩ | ⟨rfl, h1, _⟩
  · have hn : 0 < n := by omega
    have hat := win_at (nm := "plain") (f := f) (Int.emod_nonneg p (by omega)) (Int.emod_lt_of_pos p hn)
    unfold Good at g
    rw [isM_p] at g
    have hp := per_mod (by simpa using g) p
    simp [off, isM_p] at hat
    simp [m__law_item, mb__law_item, told, pdef, odef, fdef, outP, outO, outF, start', sseq, sasg, sasgO, sput, gN, gS, gT, gTn, gLs, gs0, gs1, sdrop, sapp, sappN, sif, sret, sretF, sretO, sretV, snever, snx, sbk, sct, sfz, frz, smul, emV, emO, emN, putMR, lift, fL1, fL1o, f2, fc2, fB, fT, fnB, fif, ftup, flst, fF, facons, fseq, frg1, xv, xb, xc, xl, xixo, ownAt, setOwn, mayOwn, noPar, isPar, acons, anil, m1, m2, m2o, mL, mLo, mM, mMo, mF, mK, reordL, c2, ch2, vB, tB', nB, andB, orB, Lay.xand, Lay.xor, Lay.xnot, xif, xtup, xlst, iseq, iSeqD, irg1, irg2, xrg1, xrg2, xlrg, pN, pS, tight, tightO, tyes, List.replicate, Option.bind_eq_bind, Option.bind_some, Option.map_some, Option.bind_none, Option.map_none, List.length_cons, List.length_nil, List.getElem?_cons_zero, List.getElem?_cons_succ, List.set_cons_zero, List.set_cons_succ, List.map_cons, List.map_nil, List.cons_append, List.nil_append, List.all_cons, List.all_nil, if_true, if_false, reduceIte, Nat.reduceAdd, Nat.reduceSub, Nat.reduceEqDiff, Nat.reduceLeDiff, xcut, xcutT, L2.atI, L2.ixN, D.ix, bInt, q_pm, hn, D.mod, D.add, D.sub]
    simp [L2.atI, L2.ixN] at hat
    simp [hat, hp]
  · unfold Good at g
    rw [isM_m] at g
    have g' : ∀ p, f (-p) = -f p := by simpa using g
    obtain ⟨hd1, hd2⟩ := hd isM_m
    have hat := win_at (nm := "mirror") (n := n) (f := f) (i := (p.natAbs : Int) - 1) (by omega) (by omega)
    have e1 : (1 : Int) + ((p.natAbs : Int) - 1) = (p.natAbs : Int) := by omega
    simp only [off, isM_m, if_true, e1] at hat
    by_cases hp : 0 < p
    · have e2 : (p.natAbs : Int) = p := by omega
      have mk1 : mulOk (f p) 1 = true := by simp [mulOk]
      rw [e2] at hat
      simp [m__law_item, mb__law_item, told, pdef, odef, fdef, outP, outO, outF, start', sseq, sasg, sasgO, sput, gN, gS, gT, gTn, gLs, gs0, gs1, sdrop, sapp, sappN, sif, sret, sretF, sretO, sretV, snever, snx, sbk, sct, sfz, frz, smul, emV, emO, emN, putMR, lift, fL1, fL1o, f2, fc2, fB, fT, fnB, fif, ftup, flst, fF, facons, fseq, frg1, xv, xb, xc, xl, xixo, ownAt, setOwn, mayOwn, noPar, isPar, acons, anil, m1, m2, m2o, mL, mLo, mM, mMo, mF, mK, reordL, c2, ch2, vB, tB', nB, andB, orB, Lay.xand, Lay.xor, Lay.xnot, xif, xtup, xlst, iseq, iSeqD, irg1, irg2, xrg1, xrg2, xlrg, pN, pS, tight, tightO, tyes, List.replicate, Option.bind_eq_bind, Option.bind_some, Option.map_some, Option.bind_none, Option.map_none, List.length_cons, List.length_nil, List.getElem?_cons_zero, List.getElem?_cons_succ, List.set_cons_zero, List.set_cons_succ, List.map_cons, List.map_nil, List.cons_append, List.nil_append, List.all_cons, List.all_nil, if_true, if_false, reduceIte, Nat.reduceAdd, Nat.reduceSub, Nat.reduceEqDiff, Nat.reduceLeDiff, xcut, xcutT, D.ix, bAbs, absI, q_mm, D.mod, D.add, D.sub, D.mul, D.gt, hp, e2, hat, mk1, L2.atI, L2.ixN]
      simp [L2.atI, L2.ixN] at hat
      simp [hat, mk1]
    · have e2 : (p.natAbs : Int) = -p := by omega
      have mk1 : mulOk (f (-p)) (-1) = true := by simp [mulOk]
      rw [e2] at hat
      simp [m__law_item, mb__law_item, told, pdef, odef, fdef, outP, outO, outF, start', sseq, sasg, sasgO, sput, gN, gS, gT, gTn, gLs, gs0, gs1, sdrop, sapp, sappN, sif, sret, sretF, sretO, sretV, snever, snx, sbk, sct, sfz, frz, smul, emV, emO, emN, putMR, lift, fL1, fL1o, f2, fc2, fB, fT, fnB, fif, ftup, flst, fF, facons, fseq, frg1, xv, xb, xc, xl, xixo, ownAt, setOwn, mayOwn, noPar, isPar, acons, anil, m1, m2, m2o, mL, mLo, mM, mMo, mF, mK, reordL, c2, ch2, vB, tB', nB, andB, orB, Lay.xand, Lay.xor, Lay.xnot, xif, xtup, xlst, iseq, iSeqD, irg1, irg2, xrg1, xrg2, xlrg, pN, pS, tight, tightO, tyes, List.replicate, Option.bind_eq_bind, Option.bind_some, Option.map_some, Option.bind_none, Option.map_none, List.length_cons, List.length_nil, List.getElem?_cons_zero, List.getElem?_cons_succ, List.set_cons_zero, List.set_cons_succ, List.map_cons, List.map_nil, List.cons_append, List.nil_append, List.all_cons, List.all_nil, if_true, if_false, reduceIte, Nat.reduceAdd, Nat.reduceSub, Nat.reduceEqDiff, Nat.reduceLeDiff, xcut, xcutT, D.ix, bAbs, absI, q_mm, D.mod, D.add, D.sub, D.mul, D.gt, D.neg, hp, e2, hat, mk1, L2.atI, L2.ixN]
      simp [L2.atI, L2.ixN] at hat
      simp [hat, mk1, g']
      try simp [mulOk]
  · have hn : 0 < n := by omega
    have hat := win_at (nm := "ring") (f := f) (Int.emod_nonneg p (by omega)) (Int.emod_lt_of_pos p hn)
    unfold Good at g
    rw [isM_r] at g
    have hp := per_mod (by simpa using g) p
    simp [off, isM_r] at hat
    simp [m__law_item, mb__law_item, told, pdef, odef, fdef, outP, outO, outF, start', sseq, sasg, sasgO, sput, gN, gS, gT, gTn, gLs, gs0, gs1, sdrop, sapp, sappN, sif, sret, sretF, sretO, sretV, snever, snx, sbk, sct, sfz, frz, smul, emV, emO, emN, putMR, lift, fL1, fL1o, f2, fc2, fB, fT, fnB, fif, ftup, flst, fF, facons, fseq, frg1, xv, xb, xc, xl, xixo, ownAt, setOwn, mayOwn, noPar, isPar, acons, anil, m1, m2, m2o, mL, mLo, mM, mMo, mF, mK, reordL, c2, ch2, vB, tB', nB, andB, orB, Lay.xand, Lay.xor, Lay.xnot, xif, xtup, xlst, iseq, iSeqD, irg1, irg2, xrg1, xrg2, xlrg, pN, pS, tight, tightO, tyes, List.replicate, Option.bind_eq_bind, Option.bind_some, Option.map_some, Option.bind_none, Option.map_none, List.length_cons, List.length_nil, List.getElem?_cons_zero, List.getElem?_cons_succ, List.set_cons_zero, List.set_cons_succ, List.map_cons, List.map_nil, List.cons_append, List.nil_append, List.all_cons, List.all_nil, if_true, if_false, reduceIte, Nat.reduceAdd, Nat.reduceSub, Nat.reduceEqDiff, Nat.reduceLeDiff, xcut, xcutT, L2.atI, L2.ixN, D.ix, bInt, q_rm, hn, D.mod, D.add, D.sub]
    simp [L2.atI, L2.ixN] at hat
    simp [hat, hp]
end k01

namespace k01
open PySem Lay
theorem lcGo_ints {ev : Env'} {t : Tgt} {me : Env' → Option D} {g : Int → Int} : ∀ {ps : List Int}, (∀ p ∈ ps, ∃ ev', t.put (.int p) ev = some ev' ∧ me ev' = some (.int (g p))) → lcGo ev t tyes me (ps.map D.int) = some ((ps.map g).map D.int)
  | [], _ => rfl
  | p :: ps, h => by
    obtain ⟨ev', h1, h2⟩ := h p (by simp)
    rw [List.map_cons]
    unfold lcGo
    rw [h1]
    simp only [tyes, Option.bind_eq_bind, Option.bind_some, if_true, h2, List.map_cons]
    rw [lcGo_ints (ps := ps) fun d hd => h d (by simp [hd])]
    rfl
theorem places_mem {nm : Str} {n p : Int} (h : p ∈ places nm n) : off nm ≤ p ∧ p < n + off nm := by
  unfold places rgI at h
  obtain ⟨i, hi, rfl⟩ := List.mem_map.1 h
  rw [List.mem_range] at hi
  omega
theorem places_dom {nm : Str} {n p : Int} (h : p ∈ places nm n) : dom nm n p := by
  intro hm
  have := places_mem h
  unfold off at this
  rw [if_pos hm] at this
  omega
/-- a step of the kind -/
def StepOk (nm : Str) (n s : Int) : Prop := 0 ≤ s ∧ s < many nm n
theorem step_small {nm : Str} {n s : Int} (h : KOk nm n) (hs : StepOk nm n s) : 0 ≤ s ∧ s < 10 ∧ s < n ∧ (isM nm = false → 2 ≤ n) := by
  obtain ⟨h0, h1⟩ := hs
  unfold many at h1
  rcases h with ⟨rfl, h2, h3⟩ | ⟨rfl, h2, h3⟩ | ⟨rfl, h2, h3⟩
  · rw [isP_p] at h1
    simp at h1
    exact ⟨h0, by omega, by omega, fun _ => by omega⟩
  · rw [isP_m] at h1
    simp at h1
    exact ⟨h0, by omega, by omega, fun q => by rw [isM_m] at q; cases q⟩
  · rw [isP_r] at h1
    simp at h1
    exact ⟨h0, by omega, by omega, fun _ => by omega⟩
theorem tT_dom {nm : Str} {n s p : Int} (h : KOk nm n) (hs : StepOk nm n s) (hd : dom nm n p) : dom nm n (tT nm n s p) := by
  intro hm
  obtain ⟨a, b⟩ := hd hm
  obtain ⟨c, _, e, _⟩ := step_small h hs
  unfold tT
  rw [if_pos hm]
  split
  · split <;> constructor <;> omega
  · split
    · split <;> constructor <;> omega
    · exact ⟨a, b⟩
theorem tT_odd {nm : Str} {n s p : Int} (hm : isM nm = true) (hs : 0 ≤ s) : tT nm n s (-p) = -tT nm n s p := by
  unfold tT
  rw [if_pos hm, if_pos hm, Int.natAbs_neg]
  split
  · split <;> omega
  · split
    · split <;> split <;> omega
    · rfl
theorem tT_per {nm : Str} {n s p : Int} (hm : isM nm = false) : tT nm n s (p + n) = tT nm n s p + n := by
  unfold tT
  simp only [hm, Bool.false_eq_true, if_false]
  have e : (p + n - s) % n = (p - s) % n := by
    have : p + n - s = (p - s) + n := by omega
    rw [this, Int.add_emod_right]
  rw [e]
  split
  · omega
  · split <;> omega
/-- twice the same step leads back -/
theorem tT_tT {nm : Str} {n s p : Int} (h : KOk nm n) (hs : StepOk nm n s) : tT nm n s (tT nm n s p) = p := by
  obtain ⟨h0, h1, h2, h3⟩ := step_small h hs
  cases hm : isM nm with
  | true =>
    unfold tT
    rw [if_pos hm, if_pos hm]
    split
    · split
      · rw [Int.natAbs_neg, if_pos (by assumption)]; omega
      · rfl
    · by_cases c : (p.natAbs : Int) = s ∨ (p.natAbs : Int) = s + 1
      · rw [if_pos c]
        by_cases hp : 0 < p
        · rw [if_pos hp, if_pos (by omega), if_pos (by omega)]; omega
        · rw [if_neg hp, if_pos (by omega), if_neg (by omega)]; omega
      · rw [if_neg c, if_neg c]
  | false =>
    have hn := h3 hm
    unfold tT
    rw [hm]
    simp only [Bool.false_eq_true, if_false]
    by_cases c0 : (p - s) % n = 0
    · rw [if_pos c0]
      have e : (p + 1 - s) % n = 1 := by
        have : p + 1 - s = (p - s) + 1 := by omega
        rw [this, Int.add_emod, c0, Int.zero_add, Int.emod_emod_of_dvd _ (Int.dvd_refl n), Int.emod_eq_of_lt (by omega) (by omega)]
      rw [e, if_neg (by decide), if_pos rfl]; omega
    · rw [if_neg c0]
      by_cases c1 : (p - s) % n = 1
      · rw [if_pos c1]
        have e : (p - 1 - s) % n = 0 := by
          have : p - 1 - s = (p - s) - 1 := by omega
          rw [this, Int.sub_emod, c1, Int.emod_eq_of_lt (a := 1) (by omega) (by omega)]
          simp
        rw [e, if_pos rfl]; omega
      · rw [if_neg c1, if_neg c0, if_neg c1]
theorem good_step {nm : Str} {n s : Int} {f : Int → Int} (hs : 0 ≤ s) (g : Good nm n f) : Good nm n (fun p => f (tT nm n s p)) := by
  unfold Good at g ⊢
  cases hm : isM nm with
  | true =>
    rw [hm] at g
    simp only [if_true] at g ⊢
    intro p
    rw [tT_odd hm hs, g]
  | false =>
    rw [hm] at g
    simp only [Bool.false_eq_true, if_false] at g ⊢
    intro p
    rw [tT_per hm, g]
theorem good_id {nm : Str} {n : Int} : Good nm n (fun p => p) := by
  unfold Good
  split <;> intro p <;> rfl
theorem win_id {nm : Str} {n : Int} : win nm n (fun p => p) = places nm n := by
  unfold win
  simp
theorem stepped_t {nm : Str} {n s : Int} {f : Int → Int} (h : KOk nm n) (hs : StepOk nm n s) (g : Good nm n f) : m__law_stepped [told nm n, .lst ((win nm n f).map D.int), .int s] = some ((win nm n fun p => f (tT nm n s p)).map D.int) := by
  obtain ⟨h0, h1, h2, _⟩ := step_small h hs
  have hl : (places nm n).length ≤ 1000000 := by
    have := places_len (nm := nm) (n := n) (by omega)
    have : n ≤ 7 := by rcases h with ⟨_, _, _⟩ | ⟨_, _, _⟩ | ⟨_, _, _⟩ <;> omega
    omega
  have key : lcGo [.val (told nm n), .val (.lst ((win nm n f).map D.int)), .val (.int s), .emp] (.one 3) tyes (mL m__law_item (acons (xv 0) (acons (xv 1) (acons (mL m__law_turned (acons (xv 0) (acons (xv 2) (acons (xv 3) anil)))) anil)))) ((places nm n).map D.int) = some (((places nm n).map fun p => f (tT nm n s p)).map D.int) := by
    refine lcGo_ints fun p hp => ⟨[.val (told nm n), .val (.lst ((win nm n f).map D.int)), .val (.int s), .val (.int p)], by simp [Tgt.put, plainAt], ?_⟩
    have e1 := turned_t (p := p) h h0 h1
    have e2 := item_t h g (tT_dom h hs (places_dom hp))
    simp [pdef, odef, fdef, outP, outO, outF, start', sseq, sasg, sasgO, sput, gN, gS, gT, gTn, gLs, gs0, gs1, sdrop, sapp, sappN, sif, sret, sretF, sretO, sretV, snever, snx, sbk, sct, sfz, frz, smul, emV, emO, emN, putMR, lift, fL1, fL1o, f2, fc2, fB, fT, fnB, fif, ftup, flst, fF, facons, fseq, frg1, xv, xb, xc, xl, xixo, ownAt, setOwn, mayOwn, noPar, isPar, acons, anil, m1, m2, m2o, mL, mLo, mM, mMo, mF, mK, reordL, c2, ch2, vB, tB', nB, andB, orB, Lay.xand, Lay.xor, Lay.xnot, xif, xtup, xlst, iseq, iSeqD, irg1, irg2, xrg1, xrg2, xlrg, pN, pS, tight, tightO, tyes, List.replicate, Option.bind_eq_bind, Option.bind_some, Option.map_some, Option.bind_none, Option.map_none, List.length_cons, List.length_nil, List.getElem?_cons_zero, List.getElem?_cons_succ, List.set_cons_zero, List.set_cons_succ, List.map_cons, List.map_nil, List.cons_append, List.nil_append, List.all_cons, List.all_nil, if_true, if_false, reduceIte, Nat.reduceAdd, Nat.reduceSub, Nat.reduceEqDiff, Nat.reduceLeDiff, xcut, xcutT, e1, e2]
  rw [show (win nm n fun p => f (tT nm n s p)) = (places nm n).map fun p => f (tT nm n s p) from rfl]
  simp [m__law_stepped, mb__law_stepped, pdef, odef, fdef, outP, outO, outF, start', sseq, sasg, sasgO, sput, gN, gS, gT, gTn, gLs, gs0, gs1, sdrop, sapp, sappN, sif, sret, sretF, sretO, sretV, snever, snx, sbk, sct, sfz, frz, smul, emV, emO, emN, putMR, lift, fL1, fL1o, f2, fc2, fB, fT, fnB, fif, ftup, flst, fF, facons, fseq, frg1, xv, xb, xc, xl, xixo, ownAt, setOwn, mayOwn, noPar, isPar, acons, anil, m1, m2, m2o, mL, mLo, mM, mMo, mF, mK, reordL, c2, ch2, vB, tB', nB, andB, orB, Lay.xand, Lay.xor, Lay.xnot, xif, xtup, xlst, iseq, iSeqD, irg1, irg2, xrg1, xrg2, xlrg, pN, pS, tight, tightO, tyes, List.replicate, Option.bind_eq_bind, Option.bind_some, Option.map_some, Option.bind_none, Option.map_none, List.length_cons, List.length_nil, List.getElem?_cons_zero, List.getElem?_cons_succ, List.set_cons_zero, List.set_cons_succ, List.map_cons, List.map_nil, List.cons_append, List.nil_append, List.all_cons, List.all_nil, if_true, if_false, reduceIte, Nat.reduceAdd, Nat.reduceSub, Nat.reduceEqDiff, Nat.reduceLeDiff, xcut, xcutT, lcM, start_t h, hl, plainAll, plainAt, wipeE, key]
end k01

namespace k01
open PySem Lay
theorem ne_str {a b : Str} {r : Bool} (h : D.eq (.str a) (.str b) = some r) : D.ne (.str a) (.str b) = some (!r) := by
  unfold D.ne
  rw [h]
  rfl
def lowP (nm : Str) (s : Int) : Int := if isM nm = true then (if 0 < s then s else -1) else s
theorem lowP_dom {nm : Str} {n s : Int} (h : KOk nm n) (hs : StepOk nm n s) : dom nm n (lowP nm s) := by
  obtain ⟨h0, h1, h2, h3⟩ := step_small h hs
  intro hm
  unfold lowP
  rw [if_pos hm]
  split <;> constructor <;> omega
/-- does the order cross the step? -/
def crs (nm : Str) (n s : Int) (f : Int → Int) : Bool := decide (f (tT nm n s (lowP nm s)) < f (lowP nm s))
theorem crossed_t {nm : Str} {n s : Int} {f : Int → Int} (h : KOk nm n) (hs : StepOk nm n s) (g : Good nm n f) : m__law_is_crossed [told nm n, .lst ((win nm n f).map D.int), .int s] = some (.bl (crs nm n s f)) := by
  obtain ⟨h0, h1, h2, _⟩ := step_small h hs
  have e1 := turned_t (p := lowP nm s) h h0 h1
  have e2 := item_t h g (lowP_dom h hs)
  have e3 := item_t h g (tT_dom h hs (lowP_dom h hs))
  unfold told at e1 e2 e3 ⊢
  rcases h with ⟨rfl, _⟩ | ⟨rfl, _⟩ | ⟨rfl, _⟩
  · simp only [lowP, isM_p, Bool.false_eq_true, if_false] at e1 e2 e3
    simp [m__law_is_crossed, mb__law_is_crossed, pdef, odef, fdef, outP, outO, outF, start', sseq, sasg, sasgO, sput, gN, gS, gT, gTn, gLs, gs0, gs1, sdrop, sapp, sappN, sif, sret, sretF, sretO, sretV, snever, snx, sbk, sct, sfz, frz, smul, emV, emO, emN, putMR, lift, fL1, fL1o, f2, fc2, fB, fT, fnB, fif, ftup, flst, fF, facons, fseq, frg1, xv, xb, xc, xl, xixo, ownAt, setOwn, mayOwn, noPar, isPar, acons, anil, m1, m2, m2o, mL, mLo, mM, mMo, mF, mK, reordL, c2, ch2, vB, tB', nB, andB, orB, Lay.xand, Lay.xor, Lay.xnot, xif, xtup, xlst, iseq, iSeqD, irg1, irg2, xrg1, xrg2, xlrg, pN, pS, tight, tightO, tyes, List.replicate, Option.bind_eq_bind, Option.bind_some, Option.map_some, Option.bind_none, Option.map_none, List.length_cons, List.length_nil, List.getElem?_cons_zero, List.getElem?_cons_succ, List.set_cons_zero, List.set_cons_succ, List.map_cons, List.map_nil, List.cons_append, List.nil_append, List.all_cons, List.all_nil, if_true, if_false, reduceIte, Nat.reduceAdd, Nat.reduceSub, Nat.reduceEqDiff, Nat.reduceLeDiff, xcut, xcutT, L2.atI, L2.ixN, D.ix, ne_str q_pm, e1, e2, e3, D.gt, crs, lowP, isM_p]
  · simp only [lowP, isM_m, if_true] at e1 e2 e3
    by_cases hp : 0 < s
    · simp only [if_pos hp] at e1 e2 e3
      simp [m__law_is_crossed, mb__law_is_crossed, pdef, odef, fdef, outP, outO, outF, start', sseq, sasg, sasgO, sput, gN, gS, gT, gTn, gLs, gs0, gs1, sdrop, sapp, sappN, sif, sret, sretF, sretO, sretV, snever, snx, sbk, sct, sfz, frz, smul, emV, emO, emN, putMR, lift, fL1, fL1o, f2, fc2, fB, fT, fnB, fif, ftup, flst, fF, facons, fseq, frg1, xv, xb, xc, xl, xixo, ownAt, setOwn, mayOwn, noPar, isPar, acons, anil, m1, m2, m2o, mL, mLo, mM, mMo, mF, mK, reordL, c2, ch2, vB, tB', nB, andB, orB, Lay.xand, Lay.xor, Lay.xnot, xif, xtup, xlst, iseq, iSeqD, irg1, irg2, xrg1, xrg2, xlrg, pN, pS, tight, tightO, tyes, List.replicate, Option.bind_eq_bind, Option.bind_some, Option.map_some, Option.bind_none, Option.map_none, List.length_cons, List.length_nil, List.getElem?_cons_zero, List.getElem?_cons_succ, List.set_cons_zero, List.set_cons_succ, List.map_cons, List.map_nil, List.cons_append, List.nil_append, List.all_cons, List.all_nil, if_true, if_false, reduceIte, Nat.reduceAdd, Nat.reduceSub, Nat.reduceEqDiff, Nat.reduceLeDiff, xcut, xcutT, L2.atI, L2.ixN, D.ix, ne_str q_mm, e1, e2, e3, D.gt, D.neg, crs, lowP, isM_m, hp]
    · simp only [if_neg hp] at e1 e2 e3
      simp [m__law_is_crossed, mb__law_is_crossed, pdef, odef, fdef, outP, outO, outF, start', sseq, sasg, sasgO, sput, gN, gS, gT, gTn, gLs, gs0, gs1, sdrop, sapp, sappN, sif, sret, sretF, sretO, sretV, snever, snx, sbk, sct, sfz, frz, smul, emV, emO, emN, putMR, lift, fL1, fL1o, f2, fc2, fB, fT, fnB, fif, ftup, flst, fF, facons, fseq, frg1, xv, xb, xc, xl, xixo, ownAt, setOwn, mayOwn, noPar, isPar, acons, anil, m1, m2, m2o, mL, mLo, mM, mMo, mF, mK, reordL, c2, ch2, vB, tB', nB, andB, orB, Lay.xand, Lay.xor, Lay.xnot, xif, xtup, xlst, iseq, iSeqD, irg1, irg2, xrg1, xrg2, xlrg, pN, pS, tight, tightO, tyes, List.replicate, Option.bind_eq_bind, Option.bind_some, Option.map_some, Option.bind_none, Option.map_none, List.length_cons, List.length_nil, List.getElem?_cons_zero, List.getElem?_cons_succ, List.set_cons_zero, List.set_cons_succ, List.map_cons, List.map_nil, List.cons_append, List.nil_append, List.all_cons, List.all_nil, if_true, if_false, reduceIte, Nat.reduceAdd, Nat.reduceSub, Nat.reduceEqDiff, Nat.reduceLeDiff, xcut, xcutT, L2.atI, L2.ixN, D.ix, ne_str q_mm, e1, e2, e3, D.gt, D.neg, crs, lowP, isM_m, hp]
  · simp only [lowP, isM_r, Bool.false_eq_true, if_false] at e1 e2 e3
    simp [m__law_is_crossed, mb__law_is_crossed, pdef, odef, fdef, outP, outO, outF, start', sseq, sasg, sasgO, sput, gN, gS, gT, gTn, gLs, gs0, gs1, sdrop, sapp, sappN, sif, sret, sretF, sretO, sretV, snever, snx, sbk, sct, sfz, frz, smul, emV, emO, emN, putMR, lift, fL1, fL1o, f2, fc2, fB, fT, fnB, fif, ftup, flst, fF, facons, fseq, frg1, xv, xb, xc, xl, xixo, ownAt, setOwn, mayOwn, noPar, isPar, acons, anil, m1, m2, m2o, mL, mLo, mM, mMo, mF, mK, reordL, c2, ch2, vB, tB', nB, andB, orB, Lay.xand, Lay.xor, Lay.xnot, xif, xtup, xlst, iseq, iSeqD, irg1, irg2, xrg1, xrg2, xlrg, pN, pS, tight, tightO, tyes, List.replicate, Option.bind_eq_bind, Option.bind_some, Option.map_some, Option.bind_none, Option.map_none, List.length_cons, List.length_nil, List.getElem?_cons_zero, List.getElem?_cons_succ, List.set_cons_zero, List.set_cons_succ, List.map_cons, List.map_nil, List.cons_append, List.nil_append, List.all_cons, List.all_nil, if_true, if_false, reduceIte, Nat.reduceAdd, Nat.reduceSub, Nat.reduceEqDiff, Nat.reduceLeDiff, xcut, xcutT, L2.atI, L2.ixN, D.ix, ne_str q_rm, e1, e2, e3, D.gt, crs, lowP, isM_r]
/-- an order: good, one to one -/
structure Ord (nm : Str) (n : Int) (f : Int → Int) : Prop where
  g : Good nm n f
  i : ∀ p q, f p = f q → p = q
theorem ord_id {nm : Str} {n : Int} : Ord nm n (fun p => p) := ⟨good_id, fun _ _ h => h⟩
theorem ord_step {nm : Str} {n s : Int} {f : Int → Int} (h : KOk nm n) (hs : StepOk nm n s) (o : Ord nm n f) : Ord nm n (fun p => f (tT nm n s p)) :=
  ⟨good_step hs.1 o.g, fun p q e => by
    have := congrArg (tT nm n s) (o.i _ _ e)
    rw [tT_tT h hs, tT_tT h hs] at this
    exact this⟩
/-- gaining a step -/
def gainF (nm : Str) (n s : Int) (f : Int → Int) : Int → Int := if crs nm n s f = true then f else fun p => f (tT nm n s p)
theorem gained_t {nm : Str} {n s : Int} {f : Int → Int} (h : KOk nm n) (hs : StepOk nm n s) (o : Ord nm n f) : m__law_gained [told nm n, .lst ((win nm n f).map D.int), .int s] = some (.lst ((win nm n (gainF nm n s f)).map D.int)) ∧ Ord nm n (gainF nm n s f) := by
  have e1 := crossed_t h hs o.g
  have e2 := stepped_t h hs o.g
  unfold gainF
  cases hc : crs nm n s f with
  | true =>
    rw [hc] at e1
    refine ⟨?_, o⟩
    simp [m__law_gained, mb__law_gained, pdef, odef, fdef, outP, outO, outF, start', sseq, sasg, sasgO, sput, gN, gS, gT, gTn, gLs, gs0, gs1, sdrop, sapp, sappN, sif, sret, sretF, sretO, sretV, snever, snx, sbk, sct, sfz, frz, smul, emV, emO, emN, putMR, lift, fL1, fL1o, f2, fc2, fB, fT, fnB, fif, ftup, flst, fF, facons, fseq, frg1, xv, xb, xc, xl, xixo, ownAt, setOwn, mayOwn, noPar, isPar, acons, anil, m1, m2, m2o, mL, mLo, mM, mMo, mF, mK, reordL, c2, ch2, vB, tB', nB, andB, orB, Lay.xand, Lay.xor, Lay.xnot, xif, xtup, xlst, iseq, iSeqD, irg1, irg2, xrg1, xrg2, xlrg, pN, pS, tight, tightO, tyes, List.replicate, Option.bind_eq_bind, Option.bind_some, Option.map_some, Option.bind_none, Option.map_none, List.length_cons, List.length_nil, List.getElem?_cons_zero, List.getElem?_cons_succ, List.set_cons_zero, List.set_cons_succ, List.map_cons, List.map_nil, List.cons_append, List.nil_append, List.all_cons, List.all_nil, if_true, if_false, reduceIte, Nat.reduceAdd, Nat.reduceSub, Nat.reduceEqDiff, Nat.reduceLeDiff, xcut, xcutT, e1]
  | false =>
    rw [hc] at e1
    refine ⟨?_, ord_step h hs o⟩
    simp [m__law_gained, mb__law_gained, pdef, odef, fdef, outP, outO, outF, start', sseq, sasg, sasgO, sput, gN, gS, gT, gTn, gLs, gs0, gs1, sdrop, sapp, sappN, sif, sret, sretF, sretO, sretV, snever, snx, sbk, sct, sfz, frz, smul, emV, emO, emN, putMR, lift, fL1, fL1o, f2, fc2, fB, fT, fnB, fif, ftup, flst, fF, facons, fseq, frg1, xv, xb, xc, xl, xixo, ownAt, setOwn, mayOwn, noPar, isPar, acons, anil, m1, m2, m2o, mL, mLo, mM, mMo, mF, mK, reordL, c2, ch2, vB, tB', nB, andB, orB, Lay.xand, Lay.xor, Lay.xnot, xif, xtup, xlst, iseq, iSeqD, irg1, irg2, xrg1, xrg2, xlrg, pN, pS, tight, tightO, tyes, List.replicate, Option.bind_eq_bind, Option.bind_some, Option.map_some, Option.bind_none, Option.map_none, List.length_cons, List.length_nil, List.getElem?_cons_zero, List.getElem?_cons_succ, List.set_cons_zero, List.set_cons_succ, List.map_cons, List.map_nil, List.cons_append, List.nil_append, List.all_cons, List.all_nil, if_true, if_false, reduceIte, Nat.reduceAdd, Nat.reduceSub, Nat.reduceEqDiff, Nat.reduceLeDiff, xcut, xcutT, e1, e2]
theorem Gd.le {N M : Int} {g : List D} (h : Gd N g) (l : N ≤ M) : Gd M g := by
  obtain ⟨a, b, c, h1, h2, h3, h4⟩ := h
  exact ⟨a, b, c, h1, h2, h3, by omega⟩
theorem many_pos {nm : Str} {n : Int} (h : KOk nm n) : 0 ≤ many nm n ∧ many nm n < 10 := by
  unfold many
  rcases h with ⟨rfl, h1, h2⟩ | ⟨rfl, h1, h2⟩ | ⟨rfl, h1, h2⟩
  · rw [isP_p]; simp; omega
  · rw [isP_m]; simp; omega
  · rw [isP_r]; simp; omega
theorem row_go {nm : Str} {n : Int} (h : KOk nm n) (hp : 0 < many nm n) {m : D} : ∀ (ds : List D) (N : Int) (g : List D), Gd N g → N + ds.length < 1000000000 →
    ∃ (ss : List Int) (g' : List D), flcGo (.one 3) [3] (fF 0 m__law_random (lift (acons (mL m__law_many (acons (xv 1) anil)) anil))) ds [.par g, .val (told nm n), .val m, .emp] = some (ss.map D.int, [.par g', .val (told nm n), .val m, .emp]) ∧ (∀ s ∈ ss, StepOk nm n s) ∧ Gd (N + ds.length) g' ∧ ss.length = ds.length
  | [], N, g, G, _ => ⟨[], g, rfl, by simp, by simpa using G, rfl⟩
  | d :: ds, N, g, G, hN => by
    rw [List.length_cons] at hN
    obtain ⟨r, g1, e1, a1, b1, G1⟩ := random_t (by omega) G (many nm n) hp (by have := (many_pos h).2; omega)
    obtain ⟨ss, g', e2, h2, G2, l2⟩ := row_go h hp (m := m) ds (N + 1) g1 G1 (by omega)
    refine ⟨r :: ss, g', ?_, ?_, G2.le (by rw [List.length_cons]; omega), by simp [l2]⟩
    · unfold flcGo
      simp [Tgt.put, plainAt, plainAll, wipeE, pdef, odef, fdef, outP, outO, outF, start', sseq, sasg, sasgO, sput, gN, gS, gT, gTn, gLs, gs0, gs1, sdrop, sapp, sappN, sif, sret, sretF, sretO, sretV, snever, snx, sbk, sct, sfz, frz, smul, emV, emO, emN, putMR, lift, fL1, fL1o, f2, fc2, fB, fT, fnB, fif, ftup, flst, fF, facons, fseq, frg1, xv, xb, xc, xl, xixo, ownAt, setOwn, mayOwn, noPar, isPar, acons, anil, m1, m2, m2o, mL, mLo, mM, mMo, mF, mK, reordL, c2, ch2, vB, tB', nB, andB, orB, Lay.xand, Lay.xor, Lay.xnot, xif, xtup, xlst, iseq, iSeqD, irg1, irg2, xrg1, xrg2, xlrg, pN, pS, tight, tightO, tyes, List.replicate, Option.bind_eq_bind, Option.bind_some, Option.map_some, Option.bind_none, Option.map_none, List.length_cons, List.length_nil, List.getElem?_cons_zero, List.getElem?_cons_succ, List.set_cons_zero, List.set_cons_succ, List.map_cons, List.map_nil, List.cons_append, List.nil_append, List.all_cons, List.all_nil, if_true, if_false, reduceIte, Nat.reduceAdd, Nat.reduceSub, Nat.reduceEqDiff, Nat.reduceLeDiff, xcut, xcutT, many_t h, e1, e2]
    · intro s hs
      rcases List.mem_cons.1 hs with rfl | hs
      · exact ⟨a1, b1⟩
      · exact h2 s hs
theorem row_t {nm : Str} {n : Int} (h : KOk nm n) {N : Int} {g : List D} (G : Gd N g) {m : Int} (h0 : 0 ≤ m) (h1 : m < 900) (hN : N < 900000000) : ∃ (ss : List Int) (g' : List D), m__law_row g [told nm n, .int m] = some (.lst (ss.map D.int), g') ∧ (∀ s ∈ ss, StepOk nm n s) ∧ Gd (N + 1000) g' ∧ (ss.length : Int) ≤ m := by
  by_cases hp : many nm n = 0
  · refine ⟨[], g, ?_, by simp, G.le (by omega), by simpa using h0⟩
    simp [m__law_row, mb__law_row, pdef, odef, fdef, outP, outO, outF, start', sseq, sasg, sasgO, sput, gN, gS, gT, gTn, gLs, gs0, gs1, sdrop, sapp, sappN, sif, sret, sretF, sretO, sretV, snever, snx, sbk, sct, sfz, frz, smul, emV, emO, emN, putMR, lift, fL1, fL1o, f2, fc2, fB, fT, fnB, fif, ftup, flst, fF, facons, fseq, frg1, xv, xb, xc, xl, xixo, ownAt, setOwn, mayOwn, noPar, isPar, acons, anil, m1, m2, m2o, mL, mLo, mM, mMo, mF, mK, reordL, c2, ch2, vB, tB', nB, andB, orB, Lay.xand, Lay.xor, Lay.xnot, xif, xtup, xlst, iseq, iSeqD, irg1, irg2, xrg1, xrg2, xlrg, pN, pS, tight, tightO, tyes, List.replicate, Option.bind_eq_bind, Option.bind_some, Option.map_some, Option.bind_none, Option.map_none, List.length_cons, List.length_nil, List.getElem?_cons_zero, List.getElem?_cons_succ, List.set_cons_zero, List.set_cons_succ, List.map_cons, List.map_nil, List.cons_append, List.nil_append, List.all_cons, List.all_nil, if_true, if_false, reduceIte, Nat.reduceAdd, Nat.reduceSub, Nat.reduceEqDiff, Nat.reduceLeDiff, xcut, xcutT, many_t h, hp, eq_int]
  · have hp' : 0 < many nm n := by have := (many_pos h).1; omega
    obtain ⟨r, g1, e1, a1, b1, G1⟩ := random_t (by omega) G (m + 1) (by omega) (by omega)
    have hl : ((rgI 0 r).map D.int).length = r.toNat := by
      unfold rgI
      rw [List.length_map, List.length_map, List.length_range]
      congr 1
      omega
    obtain ⟨ss, g', e2, h2, G2, l2⟩ := row_go h hp' (m := .int m) ((rgI 0 r).map D.int) (N + 1) g1 G1 (by rw [hl]; omega)
    rw [hl] at G2 l2
    refine ⟨ss, g', ?_, h2, G2.le (by omega), by omega⟩
    have hr : rgB 0 r = true := by simp [rgB]; omega
    have hl2 : (rgI 0 r).length ≤ 1000000 := by
      rw [List.length_map] at hl
      omega
    have eb : (many nm n == 0) = false := by simpa using hp
    simp [m__law_row, mb__law_row, pdef, odef, fdef, outP, outO, outF, start', sseq, sasg, sasgO, sput, gN, gS, gT, gTn, gLs, gs0, gs1, sdrop, sapp, sappN, sif, sret, sretF, sretO, sretV, snever, snx, sbk, sct, sfz, frz, smul, emV, emO, emN, putMR, lift, fL1, fL1o, f2, fc2, fB, fT, fnB, fif, ftup, flst, fF, facons, fseq, frg1, xv, xb, xc, xl, xixo, ownAt, setOwn, mayOwn, noPar, isPar, acons, anil, m1, m2, m2o, mL, mLo, mM, mMo, mF, mK, reordL, c2, ch2, vB, tB', nB, andB, orB, Lay.xand, Lay.xor, Lay.xnot, xif, xtup, xlst, iseq, iSeqD, irg1, irg2, xrg1, xrg2, xlrg, pN, pS, tight, tightO, tyes, List.replicate, Option.bind_eq_bind, Option.bind_some, Option.map_some, Option.bind_none, Option.map_none, List.length_cons, List.length_nil, List.getElem?_cons_zero, List.getElem?_cons_succ, List.set_cons_zero, List.set_cons_succ, List.map_cons, List.map_nil, List.cons_append, List.nil_append, List.all_cons, List.all_nil, if_true, if_false, reduceIte, Nat.reduceAdd, Nat.reduceSub, Nat.reduceEqDiff, Nat.reduceLeDiff, xcut, xcutT, many_t h, eb, eq_int, flcM, D.add, e1, hr, hl2, plainAll, plainAt, wipeE, e2]
theorem order_t {nm : Str} {n : Int} (h : KOk nm n) {N : Int} {g : List D} (G : Gd N g) {m : Int} (h0 : 0 ≤ m) (h1 : m < 900) (hN : N < 900000000) : ∃ (f : Int → Int) (g' : List D), m__law_order g [told nm n, .int m] = some (.lst ((win nm n f).map D.int), g') ∧ Ord nm n f ∧ Gd (N + 1000) g' := by
  obtain ⟨ss, g', e1, h2, G', _⟩ := row_t h G h0 h1 hN
  have key := forGo_inv (f := gN 4) (b := sasg 3 (lift (mL m__law_gained (acons (xv 1) (acons (xv 3) (acons (xv 4) anil)))))) (fun ev => ∃ f x, ev = [.par g', .val (told nm n), .val (.int m), .val (.lst ((win nm n f).map D.int)), x] ∧ Ord nm n f)
    (ds := ss.map D.int) (ev := [.par g', .val (told nm n), .val (.int m), .val (.lst ((win nm n (fun p => p)).map D.int)), .emp]) (by
      intro d hd ev ⟨f, x, hev, o⟩
      obtain ⟨s, hs, rfl⟩ := List.mem_map.1 hd
      subst hev
      obtain ⟨q1, q2⟩ := gained_t h (h2 s hs) o
      exact ⟨_, _, rfl, by simp [pdef, odef, fdef, outP, outO, outF, start', sseq, sasg, sasgO, sput, gN, gS, gT, gTn, gLs, gs0, gs1, sdrop, sapp, sappN, sif, sret, sretF, sretO, sretV, snever, snx, sbk, sct, sfz, frz, smul, emV, emO, emN, putMR, lift, fL1, fL1o, f2, fc2, fB, fT, fnB, fif, ftup, flst, fF, facons, fseq, frg1, xv, xb, xc, xl, xixo, ownAt, setOwn, mayOwn, noPar, isPar, acons, anil, m1, m2, m2o, mL, mLo, mM, mMo, mF, mK, reordL, c2, ch2, vB, tB', nB, andB, orB, Lay.xand, Lay.xor, Lay.xnot, xif, xtup, xlst, iseq, iSeqD, irg1, irg2, xrg1, xrg2, xlrg, pN, pS, tight, tightO, tyes, List.replicate, Option.bind_eq_bind, Option.bind_some, Option.map_some, Option.bind_none, Option.map_none, List.length_cons, List.length_nil, List.getElem?_cons_zero, List.getElem?_cons_succ, List.set_cons_zero, List.set_cons_succ, List.map_cons, List.map_nil, List.cons_append, List.nil_append, List.all_cons, List.all_nil, if_true, if_false, reduceIte, Nat.reduceAdd, Nat.reduceSub, Nat.reduceEqDiff, Nat.reduceLeDiff, xcut, xcutT, q1]; rfl, _, _, rfl, q2⟩) ⟨_, _, rfl, ord_id⟩
  obtain ⟨ev', k1, f, x, rfl, o⟩ := key
  rw [win_id] at k1
  refine ⟨f, g', ?_, o, G'⟩
  simp [m__law_order, mb__law_order, pdef, odef, fdef, outP, outO, outF, start', sseq, sasg, sasgO, sput, gN, gS, gT, gTn, gLs, gs0, gs1, sdrop, sapp, sappN, sif, sret, sretF, sretO, sretV, snever, snx, sbk, sct, sfz, frz, smul, emV, emO, emN, putMR, lift, fL1, fL1o, f2, fc2, fB, fT, fnB, fif, ftup, flst, fF, facons, fseq, frg1, xv, xb, xc, xl, xixo, ownAt, setOwn, mayOwn, noPar, isPar, acons, anil, m1, m2, m2o, mL, mLo, mM, mMo, mF, mK, reordL, c2, ch2, vB, tB', nB, andB, orB, Lay.xand, Lay.xor, Lay.xnot, xif, xtup, xlst, iseq, iSeqD, irg1, irg2, xrg1, xrg2, xlrg, pN, pS, tight, tightO, tyes, List.replicate, Option.bind_eq_bind, Option.bind_some, Option.map_some, Option.bind_none, Option.map_none, List.length_cons, List.length_nil, List.getElem?_cons_zero, List.getElem?_cons_succ, List.set_cons_zero, List.set_cons_succ, List.map_cons, List.map_nil, List.cons_append, List.nil_append, List.all_cons, List.all_nil, if_true, if_false, reduceIte, Nat.reduceAdd, Nat.reduceSub, Nat.reduceEqDiff, Nat.reduceLeDiff, xcut, xcutT, start_t h, e1, sfor, k1]
end k01

namespace k01
open PySem Lay
/-! ### how long two steps by turns differ -/
def tw (nm : Str) (n a b : Int) : Nat → Int → (Int → Int) → (Int → Int) → D
  | 0, _, _, _ => .non
  | k + 1, t, A, B =>
    let A' := fun p => A (tT nm n (if t % 2 = 0 then b else a) p)
    let B' := fun p => B (tT nm n (if t % 2 = 0 then a else b) p)
    if win nm n A' = win nm n B' then .int t else tw nm n a b k (t + 1) A' B'
def lstT (t : Int) (k : Nat) : List D := (List.range k).map fun (i : Nat) => D.int (t + (i : Int))
theorem lstT_succ (t : Int) (k : Nat) : lstT t (k + 1) = D.int t :: lstT (t + 1) k := by
  unfold lstT
  rw [List.range_succ_eq_map, List.map_cons, List.map_map]
  simp only [Int.natCast_zero, Int.add_zero]
  congr 1
  apply List.map_congr_left
  intro i _
  simp
  omega
def flW : D → Fl
  | .non => .nx
  | d => .ret (.val d)
theorem win_inj {nm : Str} {n : Int} {f : Int → Int} (o : Ord nm n f) (A B : Int → Int) : win nm n (fun p => f (A p)) = win nm n (fun p => f (B p)) ↔ win nm n A = win nm n B := by
  have e : ∀ A : Int → Int, win nm n (fun p => f (A p)) = (win nm n A).map f := fun A => by
    unfold win
    rw [List.map_map]
    rfl
  rw [e, e]
  constructor
  · intro h
    exact (List.map_inj_right (fun x y hxy => o.i _ _ hxy)).1 h
  · intro h
    rw [h]
abbrev wtB : SM := sseq (sasg 5 (lift (xl (mLo m__law_stepped (acons (xv 0) (acons (xv 5) (acons (m2 D.ix (xl (xlst (acons (xv 3) (acons (xv 2) anil)))) (m2 D.mod (mL bInt (acons (xv 4) anil)) (xc (.int 2)))) anil)))))))
    (sseq (sasg 6 (lift (xl (mLo m__law_stepped (acons (xv 0) (acons (xv 6) (acons (m2 D.ix (xl (xlst (acons (xv 2) (acons (xv 3) anil)))) (m2 D.mod (mL bInt (acons (xv 4) anil)) (xc (.int 2)))) anil)))))))
    (sif (lift (c2 D.eq (xv 5) (xv 6))) (sret (xv 4)) snx))
theorem wait_go {nm : Str} {n a b : Int} {f : Int → Int} (h : KOk nm n) (ha : StepOk nm n a) (hb : StepOk nm n b) (o : Ord nm n f) {w0 : D} : ∀ (k : Nat) (t : Int) (A B : Int → Int) (x : Slot), Good nm n (fun p => f (A p)) → Good nm n (fun p => f (B p)) →
    ∃ ev', forGo (gN 4) wtB (lstT t k) [.val (told nm n), .val w0, .val (.int a), .val (.int b), x, .val (.lst ((win nm n fun p => f (A p)).map D.int)), .val (.lst ((win nm n fun p => f (B p)).map D.int))] = some (flW (tw nm n a b k t A B), ev')
  | 0, t, A, B, x, _, _ => ⟨_, rfl⟩
  | k + 1, t, A, B, x, gA, gB => by
    rw [lstT_succ]
    unfold forGo tw
    have sA : ∀ s, StepOk nm n s → Good nm n (fun p => f (A (tT nm n s p))) := fun s hs => good_step hs.1 gA
    have sB : ∀ s, StepOk nm n s → Good nm n (fun p => f (B (tT nm n s p))) := fun s hs => good_step hs.1 gB
    have eAa := stepped_t h ha gA
    have eAb := stepped_t h hb gA
    have eBa := stepped_t h ha gB
    have eBb := stepped_t h hb gB
    rcases (by omega : t % 2 = 0 ∨ t % 2 = 1) with ht | ht
    · have wi := win_inj o (fun p => A (tT nm n b p)) (fun p => B (tT nm n a p))
      by_cases e : win nm n (fun p => A (tT nm n b p)) = win nm n (fun p => B (tT nm n a p))
      · have e' := wi.2 e
        refine ⟨[.val (told nm n), .val w0, .val (.int a), .val (.int b), .val (.int t), .val (.lst ((win nm n fun p => f (A (tT nm n b p))).map D.int)), .val (.lst ((win nm n fun p => f (B (tT nm n a p))).map D.int))], ?_⟩
        simp [gN, wtB, pdef, odef, fdef, outP, outO, outF, start', sseq, sasg, sasgO, sput, gN, gS, gT, gTn, gLs, gs0, gs1, sdrop, sapp, sappN, sif, sret, sretF, sretO, sretV, snever, snx, sbk, sct, sfz, frz, smul, emV, emO, emN, putMR, lift, fL1, fL1o, f2, fc2, fB, fT, fnB, fif, ftup, flst, fF, facons, fseq, frg1, xv, xb, xc, xl, xixo, ownAt, setOwn, mayOwn, noPar, isPar, acons, anil, m1, m2, m2o, mL, mLo, mM, mMo, mF, mK, reordL, c2, ch2, vB, tB', nB, andB, orB, Lay.xand, Lay.xor, Lay.xnot, xif, xtup, xlst, iseq, iSeqD, irg1, irg2, xrg1, xrg2, xlrg, pN, pS, tight, tightO, tyes, List.replicate, Option.bind_eq_bind, Option.bind_some, Option.map_some, Option.bind_none, Option.map_none, List.length_cons, List.length_nil, List.getElem?_cons_zero, List.getElem?_cons_succ, List.set_cons_zero, List.set_cons_succ, List.map_cons, List.map_nil, List.cons_append, List.nil_append, List.all_cons, List.all_nil, if_true, if_false, reduceIte, Nat.reduceAdd, Nat.reduceSub, Nat.reduceEqDiff, Nat.reduceLeDiff, xcut, xcutT, L2.atI, L2.ixN, D.ix, D.mod, bInt, ht, eAb, eBa, eq_ints, e', e, flW]
      · have e' : ¬ _ := fun z => e (wi.1 z)
        obtain ⟨ev', q⟩ := wait_go h ha hb o (w0 := w0) k (t + 1) (fun p => A (tT nm n b p)) (fun p => B (tT nm n a p)) (.val (.int t)) (sA b hb) (sB a ha)
        refine ⟨ev', ?_⟩
        simp [gN, wtB, pdef, odef, fdef, outP, outO, outF, start', sseq, sasg, sasgO, sput, gN, gS, gT, gTn, gLs, gs0, gs1, sdrop, sapp, sappN, sif, sret, sretF, sretO, sretV, snever, snx, sbk, sct, sfz, frz, smul, emV, emO, emN, putMR, lift, fL1, fL1o, f2, fc2, fB, fT, fnB, fif, ftup, flst, fF, facons, fseq, frg1, xv, xb, xc, xl, xixo, ownAt, setOwn, mayOwn, noPar, isPar, acons, anil, m1, m2, m2o, mL, mLo, mM, mMo, mF, mK, reordL, c2, ch2, vB, tB', nB, andB, orB, Lay.xand, Lay.xor, Lay.xnot, xif, xtup, xlst, iseq, iSeqD, irg1, irg2, xrg1, xrg2, xlrg, pN, pS, tight, tightO, tyes, List.replicate, Option.bind_eq_bind, Option.bind_some, Option.map_some, Option.bind_none, Option.map_none, List.length_cons, List.length_nil, List.getElem?_cons_zero, List.getElem?_cons_succ, List.set_cons_zero, List.set_cons_succ, List.map_cons, List.map_nil, List.cons_append, List.nil_append, List.all_cons, List.all_nil, if_true, if_false, reduceIte, Nat.reduceAdd, Nat.reduceSub, Nat.reduceEqDiff, Nat.reduceLeDiff, xcut, xcutT, L2.atI, L2.ixN, D.ix, D.mod, bInt, ht, eAb, eBa, eq_ints, e', e]
        simpa [wtB] using q
    · have wi := win_inj o (fun p => A (tT nm n a p)) (fun p => B (tT nm n b p))
      by_cases e : win nm n (fun p => A (tT nm n a p)) = win nm n (fun p => B (tT nm n b p))
      · have e' := wi.2 e
        refine ⟨[.val (told nm n), .val w0, .val (.int a), .val (.int b), .val (.int t), .val (.lst ((win nm n fun p => f (A (tT nm n a p))).map D.int)), .val (.lst ((win nm n fun p => f (B (tT nm n b p))).map D.int))], ?_⟩
        simp [gN, wtB, pdef, odef, fdef, outP, outO, outF, start', sseq, sasg, sasgO, sput, gN, gS, gT, gTn, gLs, gs0, gs1, sdrop, sapp, sappN, sif, sret, sretF, sretO, sretV, snever, snx, sbk, sct, sfz, frz, smul, emV, emO, emN, putMR, lift, fL1, fL1o, f2, fc2, fB, fT, fnB, fif, ftup, flst, fF, facons, fseq, frg1, xv, xb, xc, xl, xixo, ownAt, setOwn, mayOwn, noPar, isPar, acons, anil, m1, m2, m2o, mL, mLo, mM, mMo, mF, mK, reordL, c2, ch2, vB, tB', nB, andB, orB, Lay.xand, Lay.xor, Lay.xnot, xif, xtup, xlst, iseq, iSeqD, irg1, irg2, xrg1, xrg2, xlrg, pN, pS, tight, tightO, tyes, List.replicate, Option.bind_eq_bind, Option.bind_some, Option.map_some, Option.bind_none, Option.map_none, List.length_cons, List.length_nil, List.getElem?_cons_zero, List.getElem?_cons_succ, List.set_cons_zero, List.set_cons_succ, List.map_cons, List.map_nil, List.cons_append, List.nil_append, List.all_cons, List.all_nil, if_true, if_false, reduceIte, Nat.reduceAdd, Nat.reduceSub, Nat.reduceEqDiff, Nat.reduceLeDiff, xcut, xcutT, L2.atI, L2.ixN, D.ix, D.mod, bInt, ht, eAa, eBb, eq_ints, e', e, flW]
      · have e' : ¬ _ := fun z => e (wi.1 z)
        obtain ⟨ev', q⟩ := wait_go h ha hb o (w0 := w0) k (t + 1) (fun p => A (tT nm n a p)) (fun p => B (tT nm n b p)) (.val (.int t)) (sA a ha) (sB b hb)
        refine ⟨ev', ?_⟩
        simp [gN, wtB, pdef, odef, fdef, outP, outO, outF, start', sseq, sasg, sasgO, sput, gN, gS, gT, gTn, gLs, gs0, gs1, sdrop, sapp, sappN, sif, sret, sretF, sretO, sretV, snever, snx, sbk, sct, sfz, frz, smul, emV, emO, emN, putMR, lift, fL1, fL1o, f2, fc2, fB, fT, fnB, fif, ftup, flst, fF, facons, fseq, frg1, xv, xb, xc, xl, xixo, ownAt, setOwn, mayOwn, noPar, isPar, acons, anil, m1, m2, m2o, mL, mLo, mM, mMo, mF, mK, reordL, c2, ch2, vB, tB', nB, andB, orB, Lay.xand, Lay.xor, Lay.xnot, xif, xtup, xlst, iseq, iSeqD, irg1, irg2, xrg1, xrg2, xlrg, pN, pS, tight, tightO, tyes, List.replicate, Option.bind_eq_bind, Option.bind_some, Option.map_some, Option.bind_none, Option.map_none, List.length_cons, List.length_nil, List.getElem?_cons_zero, List.getElem?_cons_succ, List.set_cons_zero, List.set_cons_succ, List.map_cons, List.map_nil, List.cons_append, List.nil_append, List.all_cons, List.all_nil, if_true, if_false, reduceIte, Nat.reduceAdd, Nat.reduceSub, Nat.reduceEqDiff, Nat.reduceLeDiff, xcut, xcutT, L2.atI, L2.ixN, D.ix, D.mod, bInt, ht, eAa, eBb, eq_ints, e', e]
        simpa [wtB] using q
end k01

namespace k01
open PySem Lay
def waitD (nm : Str) (n a b : Int) : D := tw nm n a b 12 1 (fun p => p) (fun p => p)
theorem rg13 : (rgI 1 13).map D.int = lstT 1 12 := by
  unfold rgI lstT
  rw [List.map_map]
  rfl
theorem wait_t {nm : Str} {n a b : Int} {f : Int → Int} (h : KOk nm n) (ha : StepOk nm n a) (hb : StepOk nm n b) (o : Ord nm n f) : m__law_wait [told nm n, .lst ((win nm n f).map D.int), .int a, .int b] = some (waitD nm n a b) := by
  obtain ⟨ev', q⟩ := wait_go h ha hb o (w0 := .lst ((win nm n f).map D.int)) 12 1 (fun p => p) (fun p => p) .emp o.g o.g
  rw [← rg13] at q
  have hr : rgB 1 13 = true := by decide
  unfold waitD
  cases hw : tw nm n a b 12 1 (fun p => p) (fun p => p) with
  | non =>
    rw [hw] at q
    simp [m__law_wait, mb__law_wait, pdef, odef, fdef, outP, outO, outF, start', sseq, sasg, sasgO, sput, gN, gS, gT, gTn, gLs, gs0, gs1, sdrop, sapp, sappN, sif, sret, sretF, sretO, sretV, snever, snx, sbk, sct, sfz, frz, smul, emV, emO, emN, putMR, lift, fL1, fL1o, f2, fc2, fB, fT, fnB, fif, ftup, flst, fF, facons, fseq, frg1, xv, xb, xc, xl, xixo, ownAt, setOwn, mayOwn, noPar, isPar, acons, anil, m1, m2, m2o, mL, mLo, mM, mMo, mF, mK, reordL, c2, ch2, vB, tB', nB, andB, orB, Lay.xand, Lay.xor, Lay.xnot, xif, xtup, xlst, iseq, iSeqD, irg1, irg2, xrg1, xrg2, xlrg, pN, pS, tight, tightO, tyes, List.replicate, Option.bind_eq_bind, Option.bind_some, Option.map_some, Option.bind_none, Option.map_none, List.length_cons, List.length_nil, List.getElem?_cons_zero, List.getElem?_cons_succ, List.set_cons_zero, List.set_cons_succ, List.map_cons, List.map_nil, List.cons_append, List.nil_append, List.all_cons, List.all_nil, if_true, if_false, reduceIte, Nat.reduceAdd, Nat.reduceSub, Nat.reduceEqDiff, Nat.reduceLeDiff, xcut, xcutT, bList, hr, sfor]
    simp only [wtB, flW] at q
    rw [q]
  | _ =>
    rw [hw] at q
    simp [m__law_wait, mb__law_wait, pdef, odef, fdef, outP, outO, outF, start', sseq, sasg, sasgO, sput, gN, gS, gT, gTn, gLs, gs0, gs1, sdrop, sapp, sappN, sif, sret, sretF, sretO, sretV, snever, snx, sbk, sct, sfz, frz, smul, emV, emO, emN, putMR, lift, fL1, fL1o, f2, fc2, fB, fT, fnB, fif, ftup, flst, fF, facons, fseq, frg1, xv, xb, xc, xl, xixo, ownAt, setOwn, mayOwn, noPar, isPar, acons, anil, m1, m2, m2o, mL, mLo, mM, mMo, mF, mK, reordL, c2, ch2, vB, tB', nB, andB, orB, Lay.xand, Lay.xor, Lay.xnot, xif, xtup, xlst, iseq, iSeqD, irg1, irg2, xrg1, xrg2, xlrg, pN, pS, tight, tightO, tyes, List.replicate, Option.bind_eq_bind, Option.bind_some, Option.map_some, Option.bind_none, Option.map_none, List.length_cons, List.length_nil, List.getElem?_cons_zero, List.getElem?_cons_succ, List.set_cons_zero, List.set_cons_succ, List.map_cons, List.map_nil, List.cons_append, List.nil_append, List.all_cons, List.all_nil, if_true, if_false, reduceIte, Nat.reduceAdd, Nat.reduceSub, Nat.reduceEqDiff, Nat.reduceLeDiff, xcut, xcutT, bList, hr, sfor]
    simp only [wtB, flW] at q
    rw [q]
def kob (nm : Str) (n : Int) : D := .obj "Kind" ["_name", "_size"] [.str nm, .int n]
def sameW : Option D → D → Bool
  | some .non, .non => true
  | some (.int a), .int b => a == b && (decide (0 ≤ a) && decide (a < 100))
  | _, _ => false
def kinds : List (Str × Int) := [("plain", 1), ("plain", 2), ("plain", 3), ("plain", 4), ("plain", 5), ("plain", 6), ("plain", 7), ("mirror", 1), ("mirror", 2), ("mirror", 3), ("mirror", 4), ("mirror", 5), ("ring", 2), ("ring", 3), ("ring", 4), ("ring", 5)]
theorem kok_mem {nm : Str} {n : Int} (h : KOk nm n) : (nm, n) ∈ kinds := by
  rcases h with ⟨rfl, h1, h2⟩ | ⟨rfl, h1, h2⟩ | ⟨rfl, h1, h2⟩
  · rcases (by omega : n = 1 ∨ n = 2 ∨ n = 3 ∨ n = 4 ∨ n = 5 ∨ n = 6 ∨ n = 7) with rfl | rfl | rfl | rfl | rfl | rfl | rfl <;> simp [kinds]
  · rcases (by omega : n = 1 ∨ n = 2 ∨ n = 3 ∨ n = 4 ∨ n = 5) with rfl | rfl | rfl | rfl | rfl <;> simp [kinds]
  · rcases (by omega : n = 2 ∨ n = 3 ∨ n = 4 ∨ n = 5) with rfl | rfl | rfl | rfl <;> simp [kinds]
def chk (nm : Str) (n : Int) : Bool := (List.range (many nm n).toNat).all fun (a : Nat) => (List.range (many nm n).toNat).all fun (b : Nat) => a == b || sameW (m_wait [kob nm n, .int (a : Int), .int (b : Int)]) (waitD nm n (a : Int) (b : Int))
theorem chk_all : kinds.all (fun k => chk k.1 k.2) = true := by decide +kernel
theorem chk_t {nm : Str} {n a b : Int} (h : KOk nm n) (ha : StepOk nm n a) (hb : StepOk nm n b) (hab : a ≠ b) : sameW (m_wait [kob nm n, .int a, .int b]) (waitD nm n a b) = true := by
  have h1 : chk nm n = true := List.all_eq_true.1 chk_all (nm, n) (kok_mem h)
  unfold chk at h1
  obtain ⟨ha0, ha1⟩ := ha
  obtain ⟨hb0, hb1⟩ := hb
  have h2 := List.all_eq_true.1 (List.all_eq_true.1 h1 a.toNat (by rw [List.mem_range]; omega)) b.toNat (by rw [List.mem_range]; omega)
  rw [Int.toNat_of_nonneg ha0, Int.toNat_of_nonneg hb0, Bool.or_eq_true] at h2
  rcases h2 with h2 | h2
  · have : a.toNat = b.toNat := by simpa using h2
    omega
  · exact h2
end k01

namespace k01
open PySem Lay
theorem fld1 {nm : Str} {n : Int} : D.fld "Kind" "_name" (kob nm n) = some (.str nm) := by rfl
theorem fld2 {nm : Str} {n : Int} : D.fld "Kind" "_size" (kob nm n) = some (.int n) := by rfl
theorem ob1 {nm : Str} {n : Int} : (kob nm n).isObj "Kind" "name" = true := by rfl
theorem ob2 {nm : Str} {n : Int} : (kob nm n).isObj "Kind" "size" = true := by rfl
theorem ob3 {nm : Str} {n : Int} : (kob nm n).isObj "Kind" "steps" = true := by rfl
theorem ob4 {nm : Str} {n : Int} : (kob nm n).isObj "Kind" "start" = true := by rfl
theorem iss {z : Str} : D.isT "str" (.str z) = some (.bl true) := by rfl
theorem isi {z : Int} : D.isT "int" (.int z) = some (.bl true) := by rfl
theorem isb {z : Int} : D.isT "bool" (.int z) = some (.bl false) := by rfl
theorem isck {nm : Str} {n : Int} : D.isC "Kind" (kob nm n) = some (.bl true) := by rfl
theorem isct {nm : Str} {n : Int} : D.isC "Kind" (told nm n) = some (.bl false) := by rfl
theorem bnd_p : bndI "plain" = some (1, 7) := by rfl
theorem bnd_m : bndI "mirror" = some (1, 5) := by rfl
theorem bnd_r : bndI "ring" = some (2, 5) := by rfl
theorem between_t {i lo hi : Int} : m_is_between [.int i, .int lo, .int hi] = some (.bl (decide (lo ≤ i) && decide (i ≤ hi))) := by
  have e : m_is_whole [.int i] = some (.bl true) := by simp [m_is_whole, mb_is_whole, pdef, odef, fdef, outP, outO, outF, start', sseq, sasg, sasgO, sput, gN, gS, gT, gTn, gLs, gs0, gs1, sdrop, sapp, sappN, sif, sret, sretF, sretO, sretV, snever, snx, sbk, sct, sfz, frz, smul, emV, emO, emN, putMR, lift, fL1, fL1o, f2, fc2, fB, fT, fnB, fif, ftup, flst, fF, facons, fseq, frg1, xv, xb, xc, xl, xixo, ownAt, setOwn, mayOwn, noPar, isPar, acons, anil, m1, m2, m2o, mL, mLo, mM, mMo, mF, mK, reordL, c2, ch2, vB, tB', nB, andB, orB, Lay.xand, Lay.xor, Lay.xnot, xif, xtup, xlst, iseq, iSeqD, irg1, irg2, xrg1, xrg2, xlrg, pN, pS, tight, tightO, tyes, List.replicate, Option.bind_eq_bind, Option.bind_some, Option.map_some, Option.bind_none, Option.map_none, List.length_cons, List.length_nil, List.getElem?_cons_zero, List.getElem?_cons_succ, List.set_cons_zero, List.set_cons_succ, List.map_cons, List.map_nil, List.cons_append, List.nil_append, List.all_cons, List.all_nil, if_true, if_false, reduceIte, Nat.reduceAdd, Nat.reduceSub, Nat.reduceEqDiff, Nat.reduceLeDiff, xcut, xcutT, isi, isb]
  by_cases h : lo ≤ i
  · simp [m_is_between, mb_is_between, pdef, odef, fdef, outP, outO, outF, start', sseq, sasg, sasgO, sput, gN, gS, gT, gTn, gLs, gs0, gs1, sdrop, sapp, sappN, sif, sret, sretF, sretO, sretV, snever, snx, sbk, sct, sfz, frz, smul, emV, emO, emN, putMR, lift, fL1, fL1o, f2, fc2, fB, fT, fnB, fif, ftup, flst, fF, facons, fseq, frg1, xv, xb, xc, xl, xixo, ownAt, setOwn, mayOwn, noPar, isPar, acons, anil, m1, m2, m2o, mL, mLo, mM, mMo, mF, mK, reordL, c2, ch2, vB, tB', nB, andB, orB, Lay.xand, Lay.xor, Lay.xnot, xif, xtup, xlst, iseq, iSeqD, irg1, irg2, xrg1, xrg2, xlrg, pN, pS, tight, tightO, tyes, List.replicate, Option.bind_eq_bind, Option.bind_some, Option.map_some, Option.bind_none, Option.map_none, List.length_cons, List.length_nil, List.getElem?_cons_zero, List.getElem?_cons_succ, List.set_cons_zero, List.set_cons_succ, List.map_cons, List.map_nil, List.cons_append, List.nil_append, List.all_cons, List.all_nil, if_true, if_false, reduceIte, Nat.reduceAdd, Nat.reduceSub, Nat.reduceEqDiff, Nat.reduceLeDiff, xcut, xcutT, e, D.ge, D.le, D.isN, D.isNon, h]
  · simp [m_is_between, mb_is_between, pdef, odef, fdef, outP, outO, outF, start', sseq, sasg, sasgO, sput, gN, gS, gT, gTn, gLs, gs0, gs1, sdrop, sapp, sappN, sif, sret, sretF, sretO, sretV, snever, snx, sbk, sct, sfz, frz, smul, emV, emO, emN, putMR, lift, fL1, fL1o, f2, fc2, fB, fT, fnB, fif, ftup, flst, fF, facons, fseq, frg1, xv, xb, xc, xl, xixo, ownAt, setOwn, mayOwn, noPar, isPar, acons, anil, m1, m2, m2o, mL, mLo, mM, mMo, mF, mK, reordL, c2, ch2, vB, tB', nB, andB, orB, Lay.xand, Lay.xor, Lay.xnot, xif, xtup, xlst, iseq, iSeqD, irg1, irg2, xrg1, xrg2, xlrg, pN, pS, tight, tightO, tyes, List.replicate, Option.bind_eq_bind, Option.bind_some, Option.map_some, Option.bind_none, Option.map_none, List.length_cons, List.length_nil, List.getElem?_cons_zero, List.getElem?_cons_succ, List.set_cons_zero, List.set_cons_succ, List.map_cons, List.map_nil, List.cons_append, List.nil_append, List.all_cons, List.all_nil, if_true, if_false, reduceIte, Nat.reduceAdd, Nat.reduceSub, Nat.reduceEqDiff, Nat.reduceLeDiff, xcut, xcutT, e, D.ge, D.le, D.isN, D.isNon, h]
theorem number_t {i lo hi : Int} (h : lo ≤ i) (h2 : i ≤ hi) : m_check_number [.int i, .int lo, .int hi] = some .non := by
  simp [m_check_number, mb_check_number, pdef, odef, fdef, outP, outO, outF, start', sseq, sasg, sasgO, sput, gN, gS, gT, gTn, gLs, gs0, gs1, sdrop, sapp, sappN, sif, sret, sretF, sretO, sretV, snever, snx, sbk, sct, sfz, frz, smul, emV, emO, emN, putMR, lift, fL1, fL1o, f2, fc2, fB, fT, fnB, fif, ftup, flst, fF, facons, fseq, frg1, xv, xb, xc, xl, xixo, ownAt, setOwn, mayOwn, noPar, isPar, acons, anil, m1, m2, m2o, mL, mLo, mM, mMo, mF, mK, reordL, c2, ch2, vB, tB', nB, andB, orB, Lay.xand, Lay.xor, Lay.xnot, xif, xtup, xlst, iseq, iSeqD, irg1, irg2, xrg1, xrg2, xlrg, pN, pS, tight, tightO, tyes, List.replicate, Option.bind_eq_bind, Option.bind_some, Option.map_some, Option.bind_none, Option.map_none, List.length_cons, List.length_nil, List.getElem?_cons_zero, List.getElem?_cons_succ, List.set_cons_zero, List.set_cons_succ, List.map_cons, List.map_nil, List.cons_append, List.nil_append, List.all_cons, List.all_nil, if_true, if_false, reduceIte, Nat.reduceAdd, Nat.reduceSub, Nat.reduceEqDiff, Nat.reduceLeDiff, xcut, xcutT, between_t, h, h2]
theorem init_t {nm : Str} {n : Int} (h : KOk nm n) : m_Kind___init__ [.str nm, .int n] = some (kob nm n) := by
  rcases h with ⟨rfl, h1, h2⟩ | ⟨rfl, h1, h2⟩ | ⟨rfl, h1, h2⟩
  · simp [m_Kind___init__, initM, pdef, odef, fdef, outP, outO, outF, start', sseq, sasg, sasgO, sput, gN, gS, gT, gTn, gLs, gs0, gs1, sdrop, sapp, sappN, sif, sret, sretF, sretO, sretV, snever, snx, sbk, sct, sfz, frz, smul, emV, emO, emN, putMR, lift, fL1, fL1o, f2, fc2, fB, fT, fnB, fif, ftup, flst, fF, facons, fseq, frg1, xv, xb, xc, xl, xixo, ownAt, setOwn, mayOwn, noPar, isPar, acons, anil, m1, m2, m2o, mL, mLo, mM, mMo, mF, mK, reordL, c2, ch2, vB, tB', nB, andB, orB, Lay.xand, Lay.xor, Lay.xnot, xif, xtup, xlst, iseq, iSeqD, irg1, irg2, xrg1, xrg2, xlrg, pN, pS, tight, tightO, tyes, List.replicate, Option.bind_eq_bind, Option.bind_some, Option.map_some, Option.bind_none, Option.map_none, List.length_cons, List.length_nil, List.getElem?_cons_zero, List.getElem?_cons_succ, List.set_cons_zero, List.set_cons_succ, List.map_cons, List.map_nil, List.cons_append, List.nil_append, List.all_cons, List.all_nil, if_true, if_false, reduceIte, Nat.reduceAdd, Nat.reduceSub, Nat.reduceEqDiff, Nat.reduceLeDiff, xcut, xcutT, iss, tbnot, D.bnot, bnd_p, D.bix, number_t h1 h2, kob]
  · simp [m_Kind___init__, initM, pdef, odef, fdef, outP, outO, outF, start', sseq, sasg, sasgO, sput, gN, gS, gT, gTn, gLs, gs0, gs1, sdrop, sapp, sappN, sif, sret, sretF, sretO, sretV, snever, snx, sbk, sct, sfz, frz, smul, emV, emO, emN, putMR, lift, fL1, fL1o, f2, fc2, fB, fT, fnB, fif, ftup, flst, fF, facons, fseq, frg1, xv, xb, xc, xl, xixo, ownAt, setOwn, mayOwn, noPar, isPar, acons, anil, m1, m2, m2o, mL, mLo, mM, mMo, mF, mK, reordL, c2, ch2, vB, tB', nB, andB, orB, Lay.xand, Lay.xor, Lay.xnot, xif, xtup, xlst, iseq, iSeqD, irg1, irg2, xrg1, xrg2, xlrg, pN, pS, tight, tightO, tyes, List.replicate, Option.bind_eq_bind, Option.bind_some, Option.map_some, Option.bind_none, Option.map_none, List.length_cons, List.length_nil, List.getElem?_cons_zero, List.getElem?_cons_succ, List.set_cons_zero, List.set_cons_succ, List.map_cons, List.map_nil, List.cons_append, List.nil_append, List.all_cons, List.all_nil, if_true, if_false, reduceIte, Nat.reduceAdd, Nat.reduceSub, Nat.reduceEqDiff, Nat.reduceLeDiff, xcut, xcutT, iss, tbnot, D.bnot, bnd_m, D.bix, number_t h1 h2, kob]
  · simp [m_Kind___init__, initM, pdef, odef, fdef, outP, outO, outF, start', sseq, sasg, sasgO, sput, gN, gS, gT, gTn, gLs, gs0, gs1, sdrop, sapp, sappN, sif, sret, sretF, sretO, sretV, snever, snx, sbk, sct, sfz, frz, smul, emV, emO, emN, putMR, lift, fL1, fL1o, f2, fc2, fB, fT, fnB, fif, ftup, flst, fF, facons, fseq, frg1, xv, xb, xc, xl, xixo, ownAt, setOwn, mayOwn, noPar, isPar, acons, anil, m1, m2, m2o, mL, mLo, mM, mMo, mF, mK, reordL, c2, ch2, vB, tB', nB, andB, orB, Lay.xand, Lay.xor, Lay.xnot, xif, xtup, xlst, iseq, iSeqD, irg1, irg2, xrg1, xrg2, xlrg, pN, pS, tight, tightO, tyes, List.replicate, Option.bind_eq_bind, Option.bind_some, Option.map_some, Option.bind_none, Option.map_none, List.length_cons, List.length_nil, List.getElem?_cons_zero, List.getElem?_cons_succ, List.set_cons_zero, List.set_cons_succ, List.map_cons, List.map_nil, List.cons_append, List.nil_append, List.all_cons, List.all_nil, if_true, if_false, reduceIte, Nat.reduceAdd, Nat.reduceSub, Nat.reduceEqDiff, Nat.reduceLeDiff, xcut, xcutT, iss, tbnot, D.bnot, bnd_r, D.bix, number_t h1 h2, kob]
theorem name_t {nm : Str} {n : Int} : m_Kind_name [kob nm n] = some (.str nm) := by simp [m_Kind_name, mb_Kind_name, pdef, odef, fdef, outP, outO, outF, start', sseq, sasg, sasgO, sput, gN, gS, gT, gTn, gLs, gs0, gs1, sdrop, sapp, sappN, sif, sret, sretF, sretO, sretV, snever, snx, sbk, sct, sfz, frz, smul, emV, emO, emN, putMR, lift, fL1, fL1o, f2, fc2, fB, fT, fnB, fif, ftup, flst, fF, facons, fseq, frg1, xv, xb, xc, xl, xixo, ownAt, setOwn, mayOwn, noPar, isPar, acons, anil, m1, m2, m2o, mL, mLo, mM, mMo, mF, mK, reordL, c2, ch2, vB, tB', nB, andB, orB, Lay.xand, Lay.xor, Lay.xnot, xif, xtup, xlst, iseq, iSeqD, irg1, irg2, xrg1, xrg2, xlrg, pN, pS, tight, tightO, tyes, List.replicate, Option.bind_eq_bind, Option.bind_some, Option.map_some, Option.bind_none, Option.map_none, List.length_cons, List.length_nil, List.getElem?_cons_zero, List.getElem?_cons_succ, List.set_cons_zero, List.set_cons_succ, List.map_cons, List.map_nil, List.cons_append, List.nil_append, List.all_cons, List.all_nil, if_true, if_false, reduceIte, Nat.reduceAdd, Nat.reduceSub, Nat.reduceEqDiff, Nat.reduceLeDiff, xcut, xcutT, fld1]
theorem size_t {nm : Str} {n : Int} : m_Kind_size [kob nm n] = some (.int n) := by simp [m_Kind_size, mb_Kind_size, pdef, odef, fdef, outP, outO, outF, start', sseq, sasg, sasgO, sput, gN, gS, gT, gTn, gLs, gs0, gs1, sdrop, sapp, sappN, sif, sret, sretF, sretO, sretV, snever, snx, sbk, sct, sfz, frz, smul, emV, emO, emN, putMR, lift, fL1, fL1o, f2, fc2, fB, fT, fnB, fif, ftup, flst, fF, facons, fseq, frg1, xv, xb, xc, xl, xixo, ownAt, setOwn, mayOwn, noPar, isPar, acons, anil, m1, m2, m2o, mL, mLo, mM, mMo, mF, mK, reordL, c2, ch2, vB, tB', nB, andB, orB, Lay.xand, Lay.xor, Lay.xnot, xif, xtup, xlst, iseq, iSeqD, irg1, irg2, xrg1, xrg2, xlrg, pN, pS, tight, tightO, tyes, List.replicate, Option.bind_eq_bind, Option.bind_some, Option.map_some, Option.bind_none, Option.map_none, List.length_cons, List.length_nil, List.getElem?_cons_zero, List.getElem?_cons_succ, List.set_cons_zero, List.set_cons_succ, List.map_cons, List.map_nil, List.cons_append, List.nil_append, List.all_cons, List.all_nil, if_true, if_false, reduceIte, Nat.reduceAdd, Nat.reduceSub, Nat.reduceEqDiff, Nat.reduceLeDiff, xcut, xcutT, fld2]
theorem steps_t {nm : Str} {n : Int} (h : KOk nm n) : m_Kind_steps [kob nm n] = some (.int (many nm n)) := by
  rcases h with ⟨rfl, _⟩ | ⟨rfl, _⟩ | ⟨rfl, _⟩ <;>
  simp [m_Kind_steps, mb_Kind_steps, pdef, odef, fdef, outP, outO, outF, start', sseq, sasg, sasgO, sput, gN, gS, gT, gTn, gLs, gs0, gs1, sdrop, sapp, sappN, sif, sret, sretF, sretO, sretV, snever, snx, sbk, sct, sfz, frz, smul, emV, emO, emN, putMR, lift, fL1, fL1o, f2, fc2, fB, fT, fnB, fif, ftup, flst, fF, facons, fseq, frg1, xv, xb, xc, xl, xixo, ownAt, setOwn, mayOwn, noPar, isPar, acons, anil, m1, m2, m2o, mL, mLo, mM, mMo, mF, mK, reordL, c2, ch2, vB, tB', nB, andB, orB, Lay.xand, Lay.xor, Lay.xnot, xif, xtup, xlst, iseq, iSeqD, irg1, irg2, xrg1, xrg2, xlrg, pN, pS, tight, tightO, tyes, List.replicate, Option.bind_eq_bind, Option.bind_some, Option.map_some, Option.bind_none, Option.map_none, List.length_cons, List.length_nil, List.getElem?_cons_zero, List.getElem?_cons_succ, List.set_cons_zero, List.set_cons_succ, List.map_cons, List.map_nil, List.cons_append, List.nil_append, List.all_cons, List.all_nil, if_true, if_false, reduceIte, Nat.reduceAdd, Nat.reduceSub, Nat.reduceEqDiff, Nat.reduceLeDiff, xcut, xcutT, fld1, fld2, D.sub, bInt, many, q_pp, q_mp, q_rp, isP_p, isP_m, isP_r]
theorem kstart_t {nm : Str} {n : Int} (h : KOk nm n) : m_Kind_start [kob nm n] = some ((places nm n).map D.int) := by
  have hr : ∀ a : Int, (a = 0 ∨ a = 1) → RgOkB a (a + n) = true := by
    intro a ha
    have : 1 ≤ n ∧ n ≤ 7 := by
      rcases h with ⟨_, h1, h2⟩ | ⟨_, h1, h2⟩ | ⟨_, h1, h2⟩ <;> omega
    simp [RgOkB]
    omega
  have h0 := hr 0 (.inl rfl)
  have h1 := hr 1 (.inr rfl)
  rw [Int.zero_add] at h0
  have h2 : RgOkB 1 (n + 1) = true := by rw [Int.add_comm]; exact h1
  rcases h with ⟨rfl, _⟩ | ⟨rfl, _⟩ | ⟨rfl, _⟩ <;>
  simp [m_Kind_start, mb_Kind_start, pdef, odef, fdef, outP, outO, outF, start', sseq, sasg, sasgO, sput, gN, gS, gT, gTn, gLs, gs0, gs1, sdrop, sapp, sappN, sif, sret, sretF, sretO, sretV, snever, snx, sbk, sct, sfz, frz, smul, emV, emO, emN, putMR, lift, fL1, fL1o, f2, fc2, fB, fT, fnB, fif, ftup, flst, fF, facons, fseq, frg1, xv, xb, xc, xl, xixo, ownAt, setOwn, mayOwn, noPar, isPar, acons, anil, m1, m2, m2o, mL, mLo, mM, mMo, mF, mK, reordL, c2, ch2, vB, tB', nB, andB, orB, Lay.xand, Lay.xor, Lay.xnot, xif, xtup, xlst, iseq, iSeqD, irg1, irg2, xrg1, xrg2, xlrg, pN, pS, tight, tightO, tyes, List.replicate, Option.bind_eq_bind, Option.bind_some, Option.map_some, Option.bind_none, Option.map_none, List.length_cons, List.length_nil, List.getElem?_cons_zero, List.getElem?_cons_succ, List.set_cons_zero, List.set_cons_succ, List.map_cons, List.map_nil, List.cons_append, List.nil_append, List.all_cons, List.all_nil, if_true, if_false, reduceIte, Nat.reduceAdd, Nat.reduceSub, Nat.reduceEqDiff, Nat.reduceLeDiff, xcut, xcutT, fld1, fld2, D.add, bInt, places, off, q_pm, q_mm, q_rm, isM_p, isM_m, isM_r, h0, h1, h2, Int.add_comm]
theorem nm_ok {nm : Str} {n : Int} (h : KOk nm n) : PyData.strOk nm = true := by
  rcases h with ⟨rfl, _⟩ | ⟨rfl, _⟩ | ⟨rfl, _⟩ <;> decide +kernel
theorem keq_t {nm nm' : Str} {n n' : Int} (h : KOk nm n) (h' : KOk nm' n') : D.eqO "Kind" m_Kind___eq__ (kob nm n) (kob nm' n') = some (nm == nm' && n == n') := by
  have e : m_Kind___eq__ [kob nm n, kob nm' n'] = some (.bl (nm == nm' && n == n')) := by
    cases hb : nm == nm' with
    | true => simp [m_Kind___eq__, mb_Kind___eq__, pdef, odef, fdef, outP, outO, outF, start', sseq, sasg, sasgO, sput, gN, gS, gT, gTn, gLs, gs0, gs1, sdrop, sapp, sappN, sif, sret, sretF, sretO, sretV, snever, snx, sbk, sct, sfz, frz, smul, emV, emO, emN, putMR, lift, fL1, fL1o, f2, fc2, fB, fT, fnB, fif, ftup, flst, fF, facons, fseq, frg1, xv, xb, xc, xl, xixo, ownAt, setOwn, mayOwn, noPar, isPar, acons, anil, m1, m2, m2o, mL, mLo, mM, mMo, mF, mK, reordL, c2, ch2, vB, tB', nB, andB, orB, Lay.xand, Lay.xor, Lay.xnot, xif, xtup, xlst, iseq, iSeqD, irg1, irg2, xrg1, xrg2, xlrg, pN, pS, tight, tightO, tyes, List.replicate, Option.bind_eq_bind, Option.bind_some, Option.map_some, Option.bind_none, Option.map_none, List.length_cons, List.length_nil, List.getElem?_cons_zero, List.getElem?_cons_succ, List.set_cons_zero, List.set_cons_succ, List.map_cons, List.map_nil, List.cons_append, List.nil_append, List.all_cons, List.all_nil, if_true, if_false, reduceIte, Nat.reduceAdd, Nat.reduceSub, Nat.reduceEqDiff, Nat.reduceLeDiff, xcut, xcutT, isck, fld1, fld2, eq_str (nm_ok h) (nm_ok h'), eq_int, hb]
    | false => simp [m_Kind___eq__, mb_Kind___eq__, pdef, odef, fdef, outP, outO, outF, start', sseq, sasg, sasgO, sput, gN, gS, gT, gTn, gLs, gs0, gs1, sdrop, sapp, sappN, sif, sret, sretF, sretO, sretV, snever, snx, sbk, sct, sfz, frz, smul, emV, emO, emN, putMR, lift, fL1, fL1o, f2, fc2, fB, fT, fnB, fif, ftup, flst, fF, facons, fseq, frg1, xv, xb, xc, xl, xixo, ownAt, setOwn, mayOwn, noPar, isPar, acons, anil, m1, m2, m2o, mL, mLo, mM, mMo, mF, mK, reordL, c2, ch2, vB, tB', nB, andB, orB, Lay.xand, Lay.xor, Lay.xnot, xif, xtup, xlst, iseq, iSeqD, irg1, irg2, xrg1, xrg2, xlrg, pN, pS, tight, tightO, tyes, List.replicate, Option.bind_eq_bind, Option.bind_some, Option.map_some, Option.bind_none, Option.map_none, List.length_cons, List.length_nil, List.getElem?_cons_zero, List.getElem?_cons_succ, List.set_cons_zero, List.set_cons_succ, List.map_cons, List.map_nil, List.cons_append, List.nil_append, List.all_cons, List.all_nil, if_true, if_false, reduceIte, Nat.reduceAdd, Nat.reduceSub, Nat.reduceEqDiff, Nat.reduceLeDiff, xcut, xcutT, isck, fld1, fld2, eq_str (nm_ok h) (nm_ok h'), eq_int, hb]
  unfold D.eqO
  rw [e]
  simp [isO, rightOk, kob]
theorem keqt_t {nm nm' : Str} {n n' : Int} : D.eqO "Kind" m_Kind___eq__ (kob nm n) (told nm' n') = some false := by
  have e : m_Kind___eq__ [kob nm n, told nm' n'] = some (.bl false) := by
    simp [m_Kind___eq__, mb_Kind___eq__, pdef, odef, fdef, outP, outO, outF, start', sseq, sasg, sasgO, sput, gN, gS, gT, gTn, gLs, gs0, gs1, sdrop, sapp, sappN, sif, sret, sretF, sretO, sretV, snever, snx, sbk, sct, sfz, frz, smul, emV, emO, emN, putMR, lift, fL1, fL1o, f2, fc2, fB, fT, fnB, fif, ftup, flst, fF, facons, fseq, frg1, xv, xb, xc, xl, xixo, ownAt, setOwn, mayOwn, noPar, isPar, acons, anil, m1, m2, m2o, mL, mLo, mM, mMo, mF, mK, reordL, c2, ch2, vB, tB', nB, andB, orB, Lay.xand, Lay.xor, Lay.xnot, xif, xtup, xlst, iseq, iSeqD, irg1, irg2, xrg1, xrg2, xlrg, pN, pS, tight, tightO, tyes, List.replicate, Option.bind_eq_bind, Option.bind_some, Option.map_some, Option.bind_none, Option.map_none, List.length_cons, List.length_nil, List.getElem?_cons_zero, List.getElem?_cons_succ, List.set_cons_zero, List.set_cons_succ, List.map_cons, List.map_nil, List.cons_append, List.nil_append, List.all_cons, List.all_nil, if_true, if_false, reduceIte, Nat.reduceAdd, Nat.reduceSub, Nat.reduceEqDiff, Nat.reduceLeDiff, xcut, xcutT, isct]
  unfold D.eqO
  rw [e]
  simp [isO, rightOk, kob, told]

theorem repr_t {d e : D} (h : sameW (some d) e = true) : d = e ∧ ∃ z, bRepr [d] = some (.str z) ∧ PyData.strOk z = true := by
  cases d with
  | non =>
    cases e with
    | non => exact ⟨rfl, "None", rfl, by decide +kernel⟩
    | _ => simp [sameW] at h
  | int a =>
    cases e with
    | int b =>
      simp only [sameW, Bool.and_eq_true, beq_iff_eq, decide_eq_true_eq] at h
      obtain ⟨rfl, h0, h1⟩ := h
      refine ⟨rfl, toString a, ?_, ?_⟩
      · simp [bRepr, D.repr]
        omega
      · have key : ∀ k : Nat, k < 100 → PyData.strOk (toString (k : Int)) = true := by decide +kernel
        have := key a.toNat (by omega)
        rw [Int.toNat_of_nonneg h0] at this
        exact this
    | _ => simp [sameW] at h
  | _ => simp [sameW] at h
theorem same_some {o : Option D} {e : D} (h : sameW o e = true) : ∃ d, o = some d := by
  cases o with
  | none => simp [sameW] at h
  | some d => exact ⟨d, rfl⟩
/-- one turn of the inner loop -/
theorem inner_t {nm : Str} {n a b : Int} {f : Int → Int} (h : KOk nm n) (o : Ord nm n f) (ha : StepOk nm n a) (hb : StepOk nm n b) {x y : Slot} :
    ∃ x', (sif (lift (c2 D.ne (xv 3) (xv 4))) (sseq (sasg 5 (lift (mL m__law_wait (acons (xv 0) (acons (xv 1) (acons (xv 3) (acons (xv 4) anil)))))))
    (sif (lift (orB (c2 D.ne (mL bRepr (acons (mL m_wait (acons (xv 2) (acons (xv 3) (acons (xv 4) anil)))) anil)) (mL bRepr (acons (xv 5) anil))) (c2 D.ne (mL bRepr (acons (mK [2, 1, 0] 0 3 m_wait anil (acons (xv 4) (acons (xv 3) (acons (xv 2) anil)))) anil)) (mL bRepr (acons (xv 5) anil))))) (sret (xc (.bl false))) snx)) snx) [.val (told nm n), .val (.lst ((win nm n f).map D.int)), .val (kob nm n), .val (.int a), .val (.int b), x] = some (.nx, [.val (told nm n), .val (.lst ((win nm n f).map D.int)), .val (kob nm n), .val (.int a), .val (.int b), x']) := by
  have nab : D.ne (.int a) (.int b) = some (!(a == b)) := by
    unfold D.ne
    rw [eq_int]
    rfl
  by_cases hab : a = b
  · refine ⟨x, ?_⟩
    have : (a == b) = true := by simpa using hab
    simp [pdef, odef, fdef, outP, outO, outF, start', sseq, sasg, sasgO, sput, gN, gS, gT, gTn, gLs, gs0, gs1, sdrop, sapp, sappN, sif, sret, sretF, sretO, sretV, snever, snx, sbk, sct, sfz, frz, smul, emV, emO, emN, putMR, lift, fL1, fL1o, f2, fc2, fB, fT, fnB, fif, ftup, flst, fF, facons, fseq, frg1, xv, xb, xc, xl, xixo, ownAt, setOwn, mayOwn, noPar, isPar, acons, anil, m1, m2, m2o, mL, mLo, mM, mMo, mF, mK, reordL, c2, ch2, vB, tB', nB, andB, orB, Lay.xand, Lay.xor, Lay.xnot, xif, xtup, xlst, iseq, iSeqD, irg1, irg2, xrg1, xrg2, xlrg, pN, pS, tight, tightO, tyes, List.replicate, Option.bind_eq_bind, Option.bind_some, Option.map_some, Option.bind_none, Option.map_none, List.length_cons, List.length_nil, List.getElem?_cons_zero, List.getElem?_cons_succ, List.set_cons_zero, List.set_cons_succ, List.map_cons, List.map_nil, List.cons_append, List.nil_append, List.all_cons, List.all_nil, if_true, if_false, reduceIte, Nat.reduceAdd, Nat.reduceSub, Nat.reduceEqDiff, Nat.reduceLeDiff, xcut, xcutT, nab, this]
  · have e1 := chk_t h ha hb hab
    obtain ⟨d, hd⟩ := same_some e1
    rw [hd] at e1
    obtain ⟨e2, z, e3, e4⟩ := repr_t e1
    have e5 := wait_t h ha hb o
    rw [← e2] at e5
    have nz : D.ne (.str z) (.str z) = some false := by
      unfold D.ne
      rw [eq_str e4 e4]
      simp
    have : (a == b) = false := by simpa using hab
    refine ⟨.val d, ?_⟩
    simp [pdef, odef, fdef, outP, outO, outF, start', sseq, sasg, sasgO, sput, gN, gS, gT, gTn, gLs, gs0, gs1, sdrop, sapp, sappN, sif, sret, sretF, sretO, sretV, snever, snx, sbk, sct, sfz, frz, smul, emV, emO, emN, putMR, lift, fL1, fL1o, f2, fc2, fB, fT, fnB, fif, ftup, flst, fF, facons, fseq, frg1, xv, xb, xc, xl, xixo, ownAt, setOwn, mayOwn, noPar, isPar, acons, anil, m1, m2, m2o, mL, mLo, mM, mMo, mF, mK, reordL, c2, ch2, vB, tB', nB, andB, orB, Lay.xand, Lay.xor, Lay.xnot, xif, xtup, xlst, iseq, iSeqD, irg1, irg2, xrg1, xrg2, xlrg, pN, pS, tight, tightO, tyes, List.replicate, Option.bind_eq_bind, Option.bind_some, Option.map_some, Option.bind_none, Option.map_none, List.length_cons, List.length_nil, List.getElem?_cons_zero, List.getElem?_cons_succ, List.set_cons_zero, List.set_cons_succ, List.map_cons, List.map_nil, List.cons_append, List.nil_append, List.all_cons, List.all_nil, if_true, if_false, reduceIte, Nat.reduceAdd, Nat.reduceSub, Nat.reduceEqDiff, Nat.reduceLeDiff, xcut, xcutT, nab, this, e5, hd, e3, nz]
end k01

namespace k01
open PySem Lay
abbrev inB : SM := sif (lift (c2 D.ne (xv 3) (xv 4))) (sseq (sasg 5 (lift (mL m__law_wait (acons (xv 0) (acons (xv 1) (acons (xv 3) (acons (xv 4) anil)))))))
    (sif (lift (orB (c2 D.ne (mL bRepr (acons (mL m_wait (acons (xv 2) (acons (xv 3) (acons (xv 4) anil)))) anil)) (mL bRepr (acons (xv 5) anil))) (c2 D.ne (mL bRepr (acons (mK [2, 1, 0] 0 3 m_wait anil (acons (xv 4) (acons (xv 3) (acons (xv 2) anil)))) anil)) (mL bRepr (acons (xv 5) anil))))) (sret (xc (.bl false))) snx)) snx
abbrev outB : SM := sfor (lift (irg1 (mL m__law_many (acons (xv 0) anil)))) (gN 4) inB
theorem rg_mem {n : Int} {d : D} (h : d ∈ (rgI 0 n).map D.int) : ∃ a : Int, d = .int a ∧ 0 ≤ a ∧ a < n := by
  obtain ⟨a, ha, rfl⟩ := List.mem_map.1 h
  unfold rgI at ha
  obtain ⟨i, hi, rfl⟩ := List.mem_map.1 ha
  rw [List.mem_range] at hi
  exact ⟨_, rfl, by omega, by omega⟩
theorem many_rg {nm : Str} {n : Int} (h : KOk nm n) : rgB 0 (many nm n) = true := by
  have := many_pos h
  simp [rgB]
  omega
theorem out_t {nm : Str} {n : Int} {f : Int → Int} (h : KOk nm n) (o : Ord nm n f) : ∃ ev', forGo (gN 3) outB ((rgI 0 (many nm n)).map D.int) [.val (told nm n), .val (.lst ((win nm n f).map D.int)), .val (kob nm n), .emp, .emp, .emp] = some (.nx, ev') := by
  have key := forGo_inv (f := gN 3) (b := outB) (fun ev => ∃ x y z, ev = [.val (told nm n), .val (.lst ((win nm n f).map D.int)), .val (kob nm n), x, y, z]) (ds := (rgI 0 (many nm n)).map D.int)
    (ev := [.val (told nm n), .val (.lst ((win nm n f).map D.int)), .val (kob nm n), .emp, .emp, .emp]) (by
      intro d hd ev ⟨x, y, z, hev⟩
      obtain ⟨a, rfl, a0, a1⟩ := rg_mem hd
      subst hev
      have key2 := forGo_inv (f := gN 4) (b := inB) (fun ev => ∃ y z, ev = [.val (told nm n), .val (.lst ((win nm n f).map D.int)), .val (kob nm n), .val (.int a), y, z]) (ds := (rgI 0 (many nm n)).map D.int)
        (ev := [.val (told nm n), .val (.lst ((win nm n f).map D.int)), .val (kob nm n), .val (.int a), y, z]) (by
          intro d hd ev ⟨y, z, hev⟩
          obtain ⟨b, rfl, b0, b1⟩ := rg_mem hd
          subst hev
          obtain ⟨x', q⟩ := inner_t h o (a := a) (b := b) ⟨a0, a1⟩ ⟨b0, b1⟩ (x := z) (y := .emp)
          exact ⟨_, _, rfl, q, _, _, rfl⟩) ⟨_, _, rfl⟩
      obtain ⟨ev', q, y', z', rfl⟩ := key2
      refine ⟨[.val (told nm n), .val (.lst ((win nm n f).map D.int)), .val (kob nm n), .val (.int a), y, z], [.val (told nm n), .val (.lst ((win nm n f).map D.int)), .val (kob nm n), .val (.int a), y', z'], rfl, ?_, _, _, _, rfl⟩
      simp [outB, sfor, lift, irg1, mL, acons, anil, xv, many_t h, many_rg h]
      exact q) ⟨_, _, _, rfl⟩
  obtain ⟨ev', q, _⟩ := key
  exact ⟨ev', q⟩
theorem ne_ints (as bs : List Int) : D.ne (.lst (as.map D.int)) (.lst (bs.map D.int)) = some (!(as == bs)) := by
  unfold D.ne
  rw [eq_ints]
  rfl
theorem ne_int (a b : Int) : D.ne (.int a) (.int b) = some (!(a == b)) := by
  unfold D.ne
  rw [eq_int]
  rfl
theorem right_t {nm : Str} {n : Int} {f : Int → Int} (h : KOk nm n) (o : Ord nm n f) : m__law_kind_right [told nm n, .lst ((win nm n f).map D.int)] = some (.bl true) := by
  obtain ⟨ev', q⟩ := out_t h o
  have hi := init_t h
  have hx0 : D.ix (told nm n) (.int 0) = some (.str nm) := by rfl
  have hx1 : D.ix (told nm n) (.int 1) = some (.int n) := by rfl
  have nn : D.ne (.str nm) (.str nm) = some false := by
    unfold D.ne
    rw [eq_str (nm_ok h) (nm_ok h)]
    simp
  have hl : (places nm n).length ≤ 1000000 := by
    have := places_len (nm := nm) (n := n) (by rcases h with ⟨_, _, _⟩ | ⟨_, _, _⟩ | ⟨_, _, _⟩ <;> omega)
    have : n ≤ 7 := by rcases h with ⟨_, _, _⟩ | ⟨_, _, _⟩ | ⟨_, _, _⟩ <;> omega
    omega
  simp [m__law_kind_right, mb__law_kind_right, pdef, odef, fdef, outP, outO, outF, start', sseq, sasg, sasgO, sput, gN, gS, gT, gTn, gLs, gs0, gs1, sdrop, sapp, sappN, sif, sret, sretF, sretO, sretV, snever, snx, sbk, sct, sfz, frz, smul, emV, emO, emN, putMR, lift, fL1, fL1o, f2, fc2, fB, fT, fnB, fif, ftup, flst, fF, facons, fseq, frg1, xv, xb, xc, xl, xixo, ownAt, setOwn, mayOwn, noPar, isPar, acons, anil, m1, m2, m2o, mL, mLo, mM, mMo, mF, mK, reordL, c2, ch2, vB, tB', nB, andB, orB, Lay.xand, Lay.xor, Lay.xnot, xif, xtup, xlst, iseq, iSeqD, irg1, irg2, xrg1, xrg2, xlrg, pN, pS, tight, tightO, tyes, List.replicate, Option.bind_eq_bind, Option.bind_some, Option.map_some, Option.bind_none, Option.map_none, List.length_cons, List.length_nil, List.getElem?_cons_zero, List.getElem?_cons_succ, List.set_cons_zero, List.set_cons_succ, List.map_cons, List.map_nil, List.cons_append, List.nil_append, List.all_cons, List.all_nil, if_true, if_false, reduceIte, Nat.reduceAdd, Nat.reduceSub, Nat.reduceEqDiff, Nat.reduceLeDiff, xcut, xcutT, hx0, hx1, hi, ob1, ob2, ob3, ob4, name_t, size_t, steps_t h, kstart_t h, start_t h, many_t h, nn, ne_int, ne_ints, hl, keq_t h h, keqt_t, D.notN, D.isN, sfor, many_rg h]
  simp only [outB, inB, sfor] at q
  rw [q]
end k01

namespace k01
open PySem Lay
def kindsD : List D := kinds.map fun k => told k.1 k.2
theorem kinds_ok {d : D} (h : d ∈ kindsD) : ∃ nm n, d = told nm n ∧ KOk nm n := by
  obtain ⟨⟨nm, n⟩, hk, rfl⟩ := List.mem_map.1 h
  refine ⟨nm, n, rfl, ?_⟩
  unfold kinds at hk
  simp only [List.mem_cons, List.not_mem_nil, or_false, Prod.mk.injEq] at hk
  unfold KOk
  rcases hk with ⟨rfl, rfl⟩ | ⟨rfl, rfl⟩ | ⟨rfl, rfl⟩ | ⟨rfl, rfl⟩ | ⟨rfl, rfl⟩ | ⟨rfl, rfl⟩ | ⟨rfl, rfl⟩ | ⟨rfl, rfl⟩ | ⟨rfl, rfl⟩ | ⟨rfl, rfl⟩ | ⟨rfl, rfl⟩ | ⟨rfl, rfl⟩ | ⟨rfl, rfl⟩ | ⟨rfl, rfl⟩ | ⟨rfl, rfl⟩ | ⟨rfl, rfl⟩ <;> simp
theorem lists_t (ns : List Int) : (xl (m2o D.cat (xl (m2o D.cat (xl (lcM false (.one 6) [6] (irg2 (xc (.int 1)) (xc (.int 8))) tyes (xtup (acons (xc (.str "plain")) (acons (xv 6) anil))))) (xl (lcM false (.one 6) [6] (irg2 (xc (.int 1)) (xc (.int 6))) tyes (xtup (acons (xc (.str "mirror")) (acons (xv 6) anil))))))) (xl (lcM false (.one 6) [6] (irg2 (xc (.int 2)) (xc (.int 6))) tyes (xtup (acons (xc (.str "ring")) (acons (xv 6) anil))))))) [.val (.scr ns), .emp, .emp, .emp, .emp, .emp, .emp] = some (.lst kindsD) := by rfl
theorem ne_bl (a b : Bool) : D.ne (.bl a) (.bl b) = some (!(a == b)) := by
  unfold D.ne
  simp [D.eq, D.toPy, SeqAt.shaped, PyData.canLay0, PyData.depth, PyData.eqv]
theorem first_t (ns : List Int) : ∃ x, forGo (gN 2) (sif (lift (nB (tB' (mL m__law_kind_right (acons (xv 2) (acons (xl (mLo m__law_start (acons (xv 2) anil))) anil)))))) (sret (xc (.bl false))) snx) kindsD [.val (.scr ns), .val (.lst kindsD), .emp, .emp, .emp, .emp, .emp] = some (.nx, [.val (.scr ns), .val (.lst kindsD), x, .emp, .emp, .emp, .emp]) := by
  obtain ⟨ev', q, x, rfl⟩ := forGo_inv (f := gN 2) (b := sif (lift (nB (tB' (mL m__law_kind_right (acons (xv 2) (acons (xl (mLo m__law_start (acons (xv 2) anil))) anil)))))) (sret (xc (.bl false))) snx) (fun ev => ∃ x, ev = [.val (.scr ns), .val (.lst kindsD), x, .emp, .emp, .emp, .emp]) (ds := kindsD) (ev := [.val (.scr ns), .val (.lst kindsD), .emp, .emp, .emp, .emp, .emp]) (by
    intro d hd ev ⟨x, hev⟩
    subst hev
    obtain ⟨nm, n, rfl, h⟩ := kinds_ok hd
    have r := right_t h ord_id
    rw [win_id] at r
    refine ⟨_, [.val (.scr ns), .val (.lst kindsD), .val (told nm n), .emp, .emp, .emp, .emp], rfl, ?_, _, rfl⟩
    simp [pdef, odef, fdef, outP, outO, outF, start', sseq, sasg, sasgO, sput, gN, gS, gT, gTn, gLs, gs0, gs1, sdrop, sapp, sappN, sif, sret, sretF, sretO, sretV, snever, snx, sbk, sct, sfz, frz, smul, emV, emO, emN, putMR, lift, fL1, fL1o, f2, fc2, fB, fT, fnB, fif, ftup, flst, fF, facons, fseq, frg1, xv, xb, xc, xl, xixo, ownAt, setOwn, mayOwn, noPar, isPar, acons, anil, m1, m2, m2o, mL, mLo, mM, mMo, mF, mK, reordL, c2, ch2, vB, tB', nB, andB, orB, Lay.xand, Lay.xor, Lay.xnot, xif, xtup, xlst, iseq, iSeqD, irg1, irg2, xrg1, xrg2, xlrg, pN, pS, tight, tightO, tyes, List.replicate, Option.bind_eq_bind, Option.bind_some, Option.map_some, Option.bind_none, Option.map_none, List.length_cons, List.length_nil, List.getElem?_cons_zero, List.getElem?_cons_succ, List.set_cons_zero, List.set_cons_succ, List.map_cons, List.map_nil, List.cons_append, List.nil_append, List.all_cons, List.all_nil, if_true, if_false, reduceIte, Nat.reduceAdd, Nat.reduceSub, Nat.reduceEqDiff, Nat.reduceLeDiff, xcut, xcutT, start_t h, r]) ⟨_, rfl⟩
  exact ⟨x, q⟩
abbrev lastB : SM := sseq (sasgO 4 (mLo m__law_generator (acons (xv 0) (acons (xv 3) anil))))
    (sseq (smul [2, 5] (emV (fF 4 m__law_kind (lift anil)) (emV (fF 4 m__law_kind (lift anil)) emN)))
    (sseq (sif (fnB (fT (fL1 m__law_kind_right (facons (lift (xv 2)) (facons (fF 4 m__law_order (lift (acons (xv 2) (acons (xc (.int 12)) anil)))) (lift anil)))))) (sret (xc (.bl false))) snx)
    (sif (lift (c2 D.ne (vB (c2 (D.eqO "Kind" m_Kind___eq__) (mL m_Kind___init__ (acons (m2 D.ix (xv 2) (xc (.int 0))) (acons (m2 D.ix (xv 2) (xc (.int 1))) anil))) (mL m_Kind___init__ (acons (m2 D.ix (xv 5) (xc (.int 0))) (acons (m2 D.ix (xv 5) (xc (.int 1))) anil))))) (vB (c2 D.eq (xv 2) (xv 5))))) (sret (xc (.bl false))) snx)))
theorem last_t (ns : List Int) {i : Int} (h0 : 0 ≤ i) (h3 : i < 3) {s x y z : Slot} : ∃ x' y' z', lastB [.val (.scr ns), s, x, .val (.int i), y, z, .emp] = some (.nx, [.val (.scr ns), s, x', .val (.int i), y', z', .emp]) := by
  obtain ⟨g, e0, G⟩ := gen_t ns i h0 h3
  obtain ⟨nm, n, g1, e1, h1, G1⟩ := kind_t (by decide) G
  obtain ⟨nm2, n2, g2, e2, h2, G2⟩ := kind_t (by decide) G1
  obtain ⟨f, g3, e3, o, G3⟩ := order_t h1 G2 (m := 12) (by decide) (by decide) (by decide)
  have r := right_t h1 o
  have hi1 := init_t h1
  have hi2 := init_t h2
  have hx0 : ∀ nm n, D.ix (told nm n) (.int 0) = some (.str nm) := fun _ _ => rfl
  have hx1 : ∀ nm n, D.ix (told nm n) (.int 1) = some (.int n) := fun _ _ => rfl
  have ke := keq_t h1 h2
  have et : D.eq (told nm n) (told nm2 n2) = some (nm == nm2 && n == n2) := eq_told (nm_ok h1) (nm_ok h2)
  have e1' : m__law_kind g [] = some (told nm n, g1) := e1
  have e2' : m__law_kind g1 [] = some (told nm2 n2, g2) := e2
  refine ⟨.val (told nm n), .own g3, .val (told nm2 n2), ?_⟩
  simp [lastB, pdef, odef, fdef, outP, outO, outF, start', sseq, sasg, sasgO, sput, gN, gS, gT, gTn, gLs, gs0, gs1, sdrop, sapp, sappN, sif, sret, sretF, sretO, sretV, snever, snx, sbk, sct, sfz, frz, smul, emV, emO, emN, putMR, lift, fL1, fL1o, f2, fc2, fB, fT, fnB, fif, ftup, flst, fF, facons, fseq, frg1, xv, xb, xc, xl, xixo, ownAt, setOwn, mayOwn, noPar, isPar, acons, anil, m1, m2, m2o, mL, mLo, mM, mMo, mF, mK, reordL, c2, ch2, vB, tB', nB, andB, orB, Lay.xand, Lay.xor, Lay.xnot, xif, xtup, xlst, iseq, iSeqD, irg1, irg2, xrg1, xrg2, xlrg, pN, pS, tight, tightO, tyes, List.replicate, Option.bind_eq_bind, Option.bind_some, Option.map_some, Option.bind_none, Option.map_none, List.length_cons, List.length_nil, List.getElem?_cons_zero, List.getElem?_cons_succ, List.set_cons_zero, List.set_cons_succ, List.map_cons, List.map_nil, List.cons_append, List.nil_append, List.all_cons, List.all_nil, if_true, if_false, reduceIte, Nat.reduceAdd, Nat.reduceSub, Nat.reduceEqDiff, Nat.reduceLeDiff, xcut, xcutT, e0, e1', e2', e3, r, hx0, hx1, hi1, hi2, ke, et, ne_bl]
theorem sseq_nx {m n : SM} {ev ev1 : Env'} (h : m ev = some (.nx, ev1)) : sseq m n ev = n ev1 := by
  unfold sseq
  rw [h]
theorem law_true (ns : List Int) (_ : ns.length ≤ 63) : m_law [.scr ns] = some (.bl true) := by
  obtain ⟨x, q1⟩ := first_t ns
  obtain ⟨ev', q2, _⟩ := forGo_inv (f := gN 3) (b := lastB) (fun ev => ∃ x w y z, ev = [.val (.scr ns), .val (.lst kindsD), x, w, y, z, .emp]) (ds := (rgI 0 3).map D.int) (ev := [.val (.scr ns), .val (.lst kindsD), x, .emp, .emp, .emp, .emp]) (by
    intro d hd ev ⟨x, w, y, z, hev⟩
    subst hev
    obtain ⟨i, rfl, i0, i1⟩ := rg_mem hd
    obtain ⟨x', y', z', q⟩ := last_t ns i0 i1 (s := .val (.lst kindsD)) (x := x) (y := y) (z := z)
    exact ⟨_, _, rfl, q, _, _, _, _, rfl⟩) ⟨_, _, _, _, rfl⟩
  have hl := lists_t ns
  have e1 : mb_law [.val (.scr ns), .emp, .emp, .emp, .emp, .emp, .emp] = some (.ret (.val (.bl true)), ev') := by
    unfold mb_law
    refine (sseq_nx (ev1 := [.val (.scr ns), .val (.lst kindsD), .emp, .emp, .emp, .emp, .emp]) ?_).trans ?_
    · unfold sasg lift
      rw [hl]
      rfl
    refine (sseq_nx (ev1 := [.val (.scr ns), .val (.lst kindsD), x, .emp, .emp, .emp, .emp]) ?_).trans ?_
    · exact q1
    refine (sseq_nx (ev1 := ev') ?_).trans ?_
    · exact q2
    rfl
  show (if [D.scr ns].length = 1 then outP (mb_law (start' 1 7 [D.scr ns])) else none) = _
  rw [if_pos (show [D.scr ns].length = 1 from rfl)]
  show outP (mb_law [.val (.scr ns), .emp, .emp, .emp, .emp, .emp, .emp]) = _
  rw [e1]
  rfl
end k01

namespace k01
open PySem PySem.Spec PyProof.Rows L2 Lay
open Evl (Ex)
def top (i : Nat) : Stmt := PySem.Challenge.pw_seamlayers_k01_kinds_and_waits.main.body.getD i (.Pass ⟨0, 0, 0, 0⟩)
def clsBody : Stmt → List Stmt
  | .ClassDef (body := b) .. => b
  | _ => []
def sub (i j : Nat) : Stmt := (clsBody (top i)).getD j (.Pass ⟨0, 0, 0, 0⟩)
section
variable {P : Program} {w : World} {K : PySem.W.Frag} {cl : Str → Addr} {mg : Str → Option Value} {base : Heap}
abbrev s__law_cell : Stmt := (top 17)
abbrev n__law_cell : List Str := [("_law_script" : Str), ("_law_index" : Str)]
abbrev N__law_cell : List Str := [("_law_script" : Str), ("_law_index" : Str)]
theorem sc__law_cell : FnScope N__law_cell n__law_cell (defScope s__law_cell) := ⟨rfl, rfl, rfl, by decide +kernel, rfl, by decide +kernel, by decide +kernel⟩
theorem bd__law_cell (B : Bs mg) (Q : KG w K cl mg) : Body P w K cl mg base N__law_cell (defScope s__law_cell) 0 (defBody s__law_cell) mb__law_cell := by
  intro X h1 h2 h3 h4 h5 C
  subst h1 h2 h3 h4 h5
  exact (ss_cons (s_if (eft_et (et_cmp op_lt rc_lt (ev_v (C.v (i := 1) (by decide +kernel) rfl)) (ev_fl fl_len (ev_B call_lenD' rdl_len (C.g (x := "len") (by decide +kernel)) (B.len_) (by decide +kernel) (ea_cons (ev_v (C.v (i := 0) (by decide +kernel) rfl)) ea_nil) (by decide +kernel) (by decide +kernel))) (nomark _))) (ss_one (s_ret (ev_ix (ev_v (C.v (i := 0) (by decide +kernel) rfl)) (ev_v (C.v (i := 1) (by decide +kernel) rfl)) (fun _ _ => rfl)))) ss_nil)
    (ss_one (s_ret (ev_bin op_mod rd_mod (ev_fl fl_sum (ev_B (cr_sum C.calm) rdl_sum (C.g (x := "sum") (by decide +kernel)) (B.sum_) (by decide +kernel) (ea_cons (ev_of_eo (eo_cut (ev_v (C.v (i := 0) (by decide +kernel) rfl)) ep_none (ep_some ev_int))) ea_nil) (by decide +kernel) (by decide +kernel))) ev_int))))
theorem fo__law_cell (B : Bs mg) (Q : KG w K cl mg) {f : Addr} {fd : FuncData} (F : FunD K "_law_cell" "_law_cell" (defArgs s__law_cell) (defBody s__law_cell) (defScope s__law_cell) [] [] f fd) : FnOk P w K mg base CX0 1 f fd n__law_cell (spP K cl m__law_cell) := fn_P F sc__law_cell (cl := cl) (bd__law_cell B Q )
theorem ok__law_cell (B : Bs mg) (Q : KG w K cl mg) {f : Addr} {fd : FuncData} (F : FunD K "_law_cell" "_law_cell" (defArgs s__law_cell) (defBody s__law_cell) (defScope s__law_cell) [] [] f fd) (hm : mg "_law_cell" = some (.ref f)) : FnG P w K mg base "_law_cell" 1 n__law_cell (spP K cl m__law_cell) :=
  ⟨⟨f, fd, fo__law_cell B Q  F, hm, F.kp, F.bindsN fun _ _ _ _ _ _ us hl => match us, hl with | [_, _], _ => rfl⟩⟩
abbrev s__law_generator : Stmt := (top 18)
abbrev n__law_generator : List Str := [("_law_script" : Str), ("_law_index" : Str)]
abbrev N__law_generator : List Str := [("_law_script" : Str), ("_law_index" : Str), ("_law_seed" : Str)]
theorem sc__law_generator : FnScope N__law_generator n__law_generator (defScope s__law_generator) := ⟨rfl, rfl, rfl, by decide +kernel, rfl, by decide +kernel, by decide +kernel⟩
theorem bd__law_generator (B : Bs mg) (Q : KG w K cl mg)
    (h__law_cell : FnG P w K mg base "_law_cell" 1 n__law_cell (spP K cl m__law_cell)) : Body P w K cl mg base N__law_generator (defScope s__law_generator) 1 (defBody s__law_generator) mb__law_generator := by
  intro X h1 h2 h3 h4 h5 C
  subst h1 h2 h3 h4 h5
  exact (ss_cons (s_set (C.l (i := 2) (by decide +kernel) rfl) (ef_ev (ev_call h__law_cell C.rm (C.g (x := "_law_cell") (by decide +kernel)) (ea_cons (ev_v (C.v (i := 0) (by decide +kernel) rfl)) (ea_cons (ev_v (C.v (i := 1) (by decide +kernel) rfl)) ea_nil)) (by decide +kernel))))
    (ss_one (s_retO (eo_lst (ea_cons (ev_bin op_mod rd_mod (ev_fl fl_int (ev_Ty call_int1 rdl_int (C.g (x := "int") (by decide +kernel)) (B.int_) (by decide +kernel) (ea_cons (ev_fl fl_max (ev_B (call_max2 C.calm) rdl_max (C.g (x := "max") (by decide +kernel)) (B.max_) (by decide +kernel) (ea_cons (ev_bin op_sub rd_sub (ev_v (C.v (i := 2) (by decide +kernel) rfl)) (ev_bin op_powD rd_pow ev_int ev_int)) (ea_cons ev_int ea_nil)) (by decide +kernel) (by decide +kernel))) ea_nil) (by decide +kernel) (by decide +kernel))) (ev_bin op_powD rd_pow (ev_bin op_powD rd_pow ev_int ev_int) ev_int)) (ea_cons (ev_bin op_mod rd_mod (ev_fl fl_int (ev_Ty call_int1 rdl_int (C.g (x := "int") (by decide +kernel)) (B.int_) (by decide +kernel) (ea_cons (ev_v (C.v (i := 2) (by decide +kernel) rfl)) ea_nil) (by decide +kernel) (by decide +kernel))) ev_int) (ea_cons (ev_bin op_mulD rd_mul ev_int (ev_v (C.v (i := 1) (by decide +kernel) rfl))) ea_nil)))))))
theorem fo__law_generator (B : Bs mg) (Q : KG w K cl mg)
    (h__law_cell : FnG P w K mg base "_law_cell" 1 n__law_cell (spP K cl m__law_cell)) {f : Addr} {fd : FuncData} (F : FunD K "_law_generator" "_law_generator" (defArgs s__law_generator) (defBody s__law_generator) (defScope s__law_generator) [] [] f fd) : FnOk P w K mg base CX0 2 f fd n__law_generator (spO K cl m__law_generator) := fn_O F sc__law_generator (cl := cl) (bd__law_generator B Q h__law_cell)
theorem ok__law_generator (B : Bs mg) (Q : KG w K cl mg)
    (h__law_cell : FnG P w K mg base "_law_cell" 1 n__law_cell (spP K cl m__law_cell)) {f : Addr} {fd : FuncData} (F : FunD K "_law_generator" "_law_generator" (defArgs s__law_generator) (defBody s__law_generator) (defScope s__law_generator) [] [] f fd) (hm : mg "_law_generator" = some (.ref f)) : FnG P w K mg base "_law_generator" 2 n__law_generator (spO K cl m__law_generator) :=
  ⟨⟨f, fd, fo__law_generator B Q h__law_cell F, hm, F.kp, F.bindsN fun _ _ _ _ _ _ us hl => match us, hl with | [_, _], _ => rfl⟩⟩
abbrev s_is_whole : Stmt := (top 6)
abbrev n_is_whole : List Str := [("value" : Str)]
abbrev N_is_whole : List Str := [("value" : Str)]
theorem sc_is_whole : FnScope N_is_whole n_is_whole (defScope s_is_whole) := ⟨rfl, rfl, rfl, by decide +kernel, rfl, by decide +kernel, by decide +kernel⟩
theorem bd_is_whole (B : Bs mg) (Q : KG w K cl mg) : Body P w K cl mg base N_is_whole (defScope s_is_whole) 0 (defBody s_is_whole) mb_is_whole := by
  intro X h1 h2 h3 h4 h5 C
  subst h1 h2 h3 h4 h5
  exact (ss_one (s_ret (ev_and (ev_isT (C.g (x := "isinstance") (by decide +kernel)) B.isinstance_ (C.g (x := "int") (by decide +kernel)) B.int_ (by decide +kernel) (ev_v (C.v (i := 0) (by decide +kernel) rfl)) (by decide +kernel) (by decide +kernel)) (ev_one (ev_not (ev_isT (C.g (x := "isinstance") (by decide +kernel)) B.isinstance_ (C.g (x := "bool") (by decide +kernel)) B.bool_ (by decide +kernel) (ev_v (C.v (i := 0) (by decide +kernel) rfl)) (by decide +kernel) (by decide +kernel)))))))
theorem fo_is_whole (B : Bs mg) (Q : KG w K cl mg) {f : Addr} {fd : FuncData} (F : FunD K "is_whole" "is_whole" (defArgs s_is_whole) (defBody s_is_whole) (defScope s_is_whole) [] [] f fd) : FnOk P w K mg base CX0 1 f fd n_is_whole (spP K cl m_is_whole) := fn_P F sc_is_whole (cl := cl) (bd_is_whole B Q )
theorem ok_is_whole (B : Bs mg) (Q : KG w K cl mg) {f : Addr} {fd : FuncData} (F : FunD K "is_whole" "is_whole" (defArgs s_is_whole) (defBody s_is_whole) (defScope s_is_whole) [] [] f fd) (hm : mg "is_whole" = some (.ref f)) : FnG P w K mg base "is_whole" 1 n_is_whole (spP K cl m_is_whole) :=
  ⟨⟨f, fd, fo_is_whole B Q  F, hm, F.kp, F.bindsN fun _ _ _ _ _ _ us hl => match us, hl with | [_], _ => rfl⟩⟩
abbrev s_is_between : Stmt := (top 7)
abbrev n_is_between : List Str := [("value" : Str), ("low" : Str), ("high" : Str)]
abbrev N_is_between : List Str := [("value" : Str), ("low" : Str), ("high" : Str)]
theorem sc_is_between : FnScope N_is_between n_is_between (defScope s_is_between) := ⟨rfl, rfl, rfl, by decide +kernel, rfl, by decide +kernel, by decide +kernel⟩
theorem bd_is_between (B : Bs mg) (Q : KG w K cl mg)
    (h_is_whole : FnG P w K mg base "is_whole" 1 n_is_whole (spP K cl m_is_whole)) : Body P w K cl mg base N_is_between (defScope s_is_between) 1 (defBody s_is_between) mb_is_between := by
  intro X h1 h2 h3 h4 h5 C
  subst h1 h2 h3 h4 h5
  exact (ss_one (s_ret (ev_and (ev_call h_is_whole C.rm (C.g (x := "is_whole") (by decide +kernel)) (ea_cons (ev_v (C.v (i := 0) (by decide +kernel) rfl)) ea_nil) (by decide +kernel)) (ev_and (ev_cmp op_ge rc_ge (ev_v (C.v (i := 0) (by decide +kernel) rfl)) (ev_v (C.v (i := 1) (by decide +kernel) rfl)) (nomark _)) (ev_one (ev_or (ev_cmp op_isD rc_is (ev_v (C.v (i := 2) (by decide +kernel) rfl)) ev_non (nomark _)) (ev_one (ev_cmp op_le rc_le (ev_v (C.v (i := 0) (by decide +kernel) rfl)) (ev_v (C.v (i := 2) (by decide +kernel) rfl)) (nomark _)))))))))
theorem fo_is_between (B : Bs mg) (Q : KG w K cl mg)
    (h_is_whole : FnG P w K mg base "is_whole" 1 n_is_whole (spP K cl m_is_whole)) {f : Addr} {fd : FuncData} (F : FunD K "is_between" "is_between" (defArgs s_is_between) (defBody s_is_between) (defScope s_is_between) [] [] f fd) : FnOk P w K mg base CX0 2 f fd n_is_between (spP K cl m_is_between) := fn_P F sc_is_between (cl := cl) (bd_is_between B Q h_is_whole)
theorem ok_is_between (B : Bs mg) (Q : KG w K cl mg)
    (h_is_whole : FnG P w K mg base "is_whole" 1 n_is_whole (spP K cl m_is_whole)) {f : Addr} {fd : FuncData} (F : FunD K "is_between" "is_between" (defArgs s_is_between) (defBody s_is_between) (defScope s_is_between) [] [] f fd) (hm : mg "is_between" = some (.ref f)) : FnG P w K mg base "is_between" 2 n_is_between (spP K cl m_is_between) :=
  ⟨⟨f, fd, fo_is_between B Q h_is_whole F, hm, F.kp, F.bindsN fun _ _ _ _ _ _ us hl => match us, hl with | [_, _, _], _ => rfl⟩⟩
abbrev s_check_number : Stmt := (top 8)
abbrev n_check_number : List Str := [("number" : Str), ("low" : Str), ("high" : Str)]
abbrev N_check_number : List Str := [("number" : Str), ("low" : Str), ("high" : Str)]
theorem sc_check_number : FnScope N_check_number n_check_number (defScope s_check_number) := ⟨rfl, rfl, rfl, by decide +kernel, rfl, by decide +kernel, by decide +kernel⟩
theorem bd_check_number (B : Bs mg) (Q : KG w K cl mg)
    (h_is_between : FnG P w K mg base "is_between" 2 n_is_between (spP K cl m_is_between)) : Body P w K cl mg base N_check_number (defScope s_check_number) 2 (defBody s_check_number) mb_check_number := by
  intro X h1 h2 h3 h4 h5 C
  subst h1 h2 h3 h4 h5
  exact (ss_one (s_if (eft_et (et_not (et_val (ev_call h_is_between C.rm (C.g (x := "is_between") (by decide +kernel)) (ea_cons (ev_v (C.v (i := 0) (by decide +kernel) rfl)) (ea_cons (ev_v (C.v (i := 1) (by decide +kernel) rfl)) (ea_cons (ev_v (C.v (i := 2) (by decide +kernel) rfl)) ea_nil))) (by decide +kernel))))) (ss_one s_never) ss_nil))
theorem fo_check_number (B : Bs mg) (Q : KG w K cl mg)
    (h_is_between : FnG P w K mg base "is_between" 2 n_is_between (spP K cl m_is_between)) {f : Addr} {fd : FuncData} (F : FunD K "check_number" "check_number" (defArgs s_check_number) (defBody s_check_number) (defScope s_check_number) [] [] f fd) : FnOk P w K mg base CX0 3 f fd n_check_number (spP K cl m_check_number) := fn_P F sc_check_number (cl := cl) (bd_check_number B Q h_is_between)
theorem ok_check_number (B : Bs mg) (Q : KG w K cl mg)
    (h_is_between : FnG P w K mg base "is_between" 2 n_is_between (spP K cl m_is_between)) {f : Addr} {fd : FuncData} (F : FunD K "check_number" "check_number" (defArgs s_check_number) (defBody s_check_number) (defScope s_check_number) [] [] f fd) (hm : mg "check_number" = some (.ref f)) : FnG P w K mg base "check_number" 3 n_check_number (spP K cl m_check_number) :=
  ⟨⟨f, fd, fo_check_number B Q h_is_between F, hm, F.kp, F.bindsN fun _ _ _ _ _ _ us hl => match us, hl with | [_, _, _], _ => rfl⟩⟩
abbrev s_Kind___init__ : Stmt := (sub 9 0)
abbrev n_Kind___init__ : List Str := [("self" : Str), ("name" : Str), ("size" : Str)]
abbrev N_Kind___init__ : List Str := [("self" : Str), ("name" : Str), ("size" : Str)]
theorem sc_Kind___init__ : FnScope N_Kind___init__ n_Kind___init__ (defScope s_Kind___init__) := ⟨rfl, rfl, rfl, by decide +kernel, rfl, by decide +kernel, by decide +kernel⟩
theorem fo_Kind___init__ (B : Bs mg) (Q : KG w K cl mg)
    (h_check_number : FnG P w K mg base "check_number" 3 n_check_number (spP K cl m_check_number)) {f : Addr} {fd : FuncData} (F : FunD K "__init__" "Kind.__init__" (defArgs s_Kind___init__) (defBody s_Kind___init__) (defScope s_Kind___init__) [] [] f fd) : FnOk P w K mg base CX0 4 f fd n_Kind___init__ (spI K cl m_Kind___init__) := by
  refine fn_I F sc_Kind___init__ Q.g.cls Q.na1 Q.na2 (by decide) (by decide +kernel) (by decide +kernel) (by decide +kernel) ?_
  intro X h1 h2 h3 h4 h5 C
  subst h1 h2 h3 h4 h5
  exact ⟨(et_pw (ew_or (et_not (et_val (ev_isT (C.g (x := "isinstance") (by decide +kernel)) B.isinstance_ (C.g (x := "str") (by decide +kernel)) B.str_ (by decide +kernel) (ev_v (C.v (i := 1) (by decide +kernel) rfl)) (by decide +kernel) (by decide +kernel)))) (ew_or1 (et_bnot Q.bnd (C.g (x := "BOUNDS") (by decide +kernel)) (ev_v (C.v (i := 1) (by decide +kernel) rfl)))))), (ev_call h_check_number C.rm (C.g (x := "check_number") (by decide +kernel)) (ea_cons (ev_v (C.v (i := 2) (by decide +kernel) rfl)) (ea_cons (ev_bix Q.bnd (C.g (x := "BOUNDS") (by decide +kernel)) (ev_v (C.v (i := 1) (by decide +kernel) rfl)) ev_int (fun _ _ => rfl) (fun _ _ => rfl)) (ea_cons (ev_bix Q.bnd (C.g (x := "BOUNDS") (by decide +kernel)) (ev_v (C.v (i := 1) (by decide +kernel) rfl)) ev_int (fun _ _ => rfl) (fun _ _ => rfl)) ea_nil))) (by decide +kernel)), rfl, rfl, rfl⟩
theorem ok_Kind___init__ (B : Bs mg) (Q : KG w K cl mg)
    (h_check_number : FnG P w K mg base "check_number" 3 n_check_number (spP K cl m_check_number)) {f : Addr} {fd : FuncData} (F : FunD K "__init__" "Kind.__init__" (defArgs s_Kind___init__) (defBody s_Kind___init__) (defScope s_Kind___init__) [] [] f fd) (M : Mk K (cl "Kind") f) : MkG P w K cl mg base "Kind" 4 n_Kind___init__ m_Kind___init__ :=
  ⟨⟨f, fd, fo_Kind___init__ B Q h_check_number F, Q.mgK, M, F.bindsN fun _ _ _ _ _ _ us hl => match us, hl with | [_, _, _], _ => rfl⟩, initM_cl, initM_ob⟩
abbrev s__law_many : Stmt := (top 20)
abbrev n__law_many : List Str := [("_law_told" : Str)]
abbrev N__law_many : List Str := [("_law_told" : Str)]
theorem sc__law_many : FnScope N__law_many n__law_many (defScope s__law_many) := ⟨rfl, rfl, rfl, by decide +kernel, rfl, by decide +kernel, by decide +kernel⟩
theorem bd__law_many (B : Bs mg) (Q : KG w K cl mg) : Body P w K cl mg base N__law_many (defScope s__law_many) 0 (defBody s__law_many) mb__law_many := by
  intro X h1 h2 h3 h4 h5 C
  subst h1 h2 h3 h4 h5
  exact (ss_one (s_ret (ev_bin op_sub rd_sub (ev_ix (ev_v (C.v (i := 0) (by decide +kernel) rfl)) ev_int (fun _ _ => rfl)) (ev_fl fl_int (ev_Ty call_int1 rdl_int (C.g (x := "int") (by decide +kernel)) (B.int_) (by decide +kernel) (ea_cons (ev_cmp (op_eqD C.un) rc_eq (ev_ix (ev_v (C.v (i := 0) (by decide +kernel) rfl)) ev_int (fun _ _ => rfl)) ev_str (nomark _)) ea_nil) (by decide +kernel) (by decide +kernel))))))
theorem fo__law_many (B : Bs mg) (Q : KG w K cl mg) {f : Addr} {fd : FuncData} (F : FunD K "_law_many" "_law_many" (defArgs s__law_many) (defBody s__law_many) (defScope s__law_many) [] [] f fd) : FnOk P w K mg base CX0 1 f fd n__law_many (spP K cl m__law_many) := fn_P F sc__law_many (cl := cl) (bd__law_many B Q )
theorem ok__law_many (B : Bs mg) (Q : KG w K cl mg) {f : Addr} {fd : FuncData} (F : FunD K "_law_many" "_law_many" (defArgs s__law_many) (defBody s__law_many) (defScope s__law_many) [] [] f fd) (hm : mg "_law_many" = some (.ref f)) : FnG P w K mg base "_law_many" 1 n__law_many (spP K cl m__law_many) :=
  ⟨⟨f, fd, fo__law_many B Q  F, hm, F.kp, F.bindsN fun _ _ _ _ _ _ us hl => match us, hl with | [_], _ => rfl⟩⟩
abbrev s_Kind_name : Stmt := (sub 9 1)
abbrev n_Kind_name : List Str := [("self" : Str)]
abbrev N_Kind_name : List Str := [("self" : Str)]
theorem sc_Kind_name : FnScope N_Kind_name n_Kind_name (defScope s_Kind_name) := ⟨rfl, rfl, rfl, by decide +kernel, rfl, by decide +kernel, by decide +kernel⟩
theorem bd_Kind_name (B : Bs mg) (Q : KG w K cl mg) : Body P w K cl mg base N_Kind_name (defScope s_Kind_name) 0 (defBody s_Kind_name) mb_Kind_name := by
  intro X h1 h2 h3 h4 h5 C
  subst h1 h2 h3 h4 h5
  exact (ss_one (s_ret (ev_fld Q.g.cls Q.na1 (ev_v (C.v (i := 0) (by decide +kernel) rfl)))))
theorem fo_Kind_name (B : Bs mg) (Q : KG w K cl mg) {f : Addr} {fd : FuncData} (F : FunD K "name" "Kind.name" (defArgs s_Kind_name) (defBody s_Kind_name) (defScope s_Kind_name) [] [] f fd) : FnOk P w K mg base CX0 1 f fd n_Kind_name (spP K cl m_Kind_name) := fn_P F sc_Kind_name (cl := cl) (bd_Kind_name B Q )
theorem ok_Kind_name (B : Bs mg) (Q : KG w K cl mg) {f : Addr} {fd : FuncData} (F : FunD K "name" "Kind.name" (defArgs s_Kind_name) (defBody s_Kind_name) (defScope s_Kind_name) [] [] f fd) (M : Meth K (cl "Kind") "name" f) : MethG P w K mg base (cl "Kind") "name" 1 n_Kind_name (spP K cl m_Kind_name) :=
  ⟨Q.g.cls, f, fd, fo_Kind_name B Q  F, M, F.bindsN fun _ _ _ _ _ _ us hl => match us, hl with | [_], _ => rfl⟩
abbrev s_Kind_size : Stmt := (sub 9 2)
abbrev n_Kind_size : List Str := [("self" : Str)]
abbrev N_Kind_size : List Str := [("self" : Str)]
theorem sc_Kind_size : FnScope N_Kind_size n_Kind_size (defScope s_Kind_size) := ⟨rfl, rfl, rfl, by decide +kernel, rfl, by decide +kernel, by decide +kernel⟩
theorem bd_Kind_size (B : Bs mg) (Q : KG w K cl mg) : Body P w K cl mg base N_Kind_size (defScope s_Kind_size) 0 (defBody s_Kind_size) mb_Kind_size := by
  intro X h1 h2 h3 h4 h5 C
  subst h1 h2 h3 h4 h5
  exact (ss_one (s_ret (ev_fld Q.g.cls Q.na2 (ev_v (C.v (i := 0) (by decide +kernel) rfl)))))
theorem fo_Kind_size (B : Bs mg) (Q : KG w K cl mg) {f : Addr} {fd : FuncData} (F : FunD K "size" "Kind.size" (defArgs s_Kind_size) (defBody s_Kind_size) (defScope s_Kind_size) [] [] f fd) : FnOk P w K mg base CX0 1 f fd n_Kind_size (spP K cl m_Kind_size) := fn_P F sc_Kind_size (cl := cl) (bd_Kind_size B Q )
theorem ok_Kind_size (B : Bs mg) (Q : KG w K cl mg) {f : Addr} {fd : FuncData} (F : FunD K "size" "Kind.size" (defArgs s_Kind_size) (defBody s_Kind_size) (defScope s_Kind_size) [] [] f fd) (M : Meth K (cl "Kind") "size" f) : MethG P w K mg base (cl "Kind") "size" 1 n_Kind_size (spP K cl m_Kind_size) :=
  ⟨Q.g.cls, f, fd, fo_Kind_size B Q  F, M, F.bindsN fun _ _ _ _ _ _ us hl => match us, hl with | [_], _ => rfl⟩
abbrev s_Kind_steps : Stmt := (sub 9 3)
abbrev n_Kind_steps : List Str := [("self" : Str)]
abbrev N_Kind_steps : List Str := [("self" : Str)]
theorem sc_Kind_steps : FnScope N_Kind_steps n_Kind_steps (defScope s_Kind_steps) := ⟨rfl, rfl, rfl, by decide +kernel, rfl, by decide +kernel, by decide +kernel⟩
theorem bd_Kind_steps (B : Bs mg) (Q : KG w K cl mg) : Body P w K cl mg base N_Kind_steps (defScope s_Kind_steps) 0 (defBody s_Kind_steps) mb_Kind_steps := by
  intro X h1 h2 h3 h4 h5 C
  subst h1 h2 h3 h4 h5
  exact (ss_one (s_ret (ev_bin op_sub rd_sub (ev_fld Q.g.cls Q.na2 (ev_v (C.v (i := 0) (by decide +kernel) rfl))) (ev_fl fl_int (ev_Ty call_int1 rdl_int (C.g (x := "int") (by decide +kernel)) (B.int_) (by decide +kernel) (ea_cons (ev_cmp (op_eqD C.un) rc_eq (ev_fld Q.g.cls Q.na1 (ev_v (C.v (i := 0) (by decide +kernel) rfl))) ev_str (nomark _)) ea_nil) (by decide +kernel) (by decide +kernel))))))
theorem fo_Kind_steps (B : Bs mg) (Q : KG w K cl mg) {f : Addr} {fd : FuncData} (F : FunD K "steps" "Kind.steps" (defArgs s_Kind_steps) (defBody s_Kind_steps) (defScope s_Kind_steps) [] [] f fd) : FnOk P w K mg base CX0 1 f fd n_Kind_steps (spP K cl m_Kind_steps) := fn_P F sc_Kind_steps (cl := cl) (bd_Kind_steps B Q )
theorem ok_Kind_steps (B : Bs mg) (Q : KG w K cl mg) {f : Addr} {fd : FuncData} (F : FunD K "steps" "Kind.steps" (defArgs s_Kind_steps) (defBody s_Kind_steps) (defScope s_Kind_steps) [] [] f fd) (M : Meth K (cl "Kind") "steps" f) : MethG P w K mg base (cl "Kind") "steps" 1 n_Kind_steps (spP K cl m_Kind_steps) :=
  ⟨Q.g.cls, f, fd, fo_Kind_steps B Q  F, M, F.bindsN fun _ _ _ _ _ _ us hl => match us, hl with | [_], _ => rfl⟩
abbrev s_Kind_start : Stmt := (sub 9 4)
abbrev n_Kind_start : List Str := [("self" : Str)]
abbrev N_Kind_start : List Str := [("self" : Str), ("first" : Str)]
theorem sc_Kind_start : FnScope N_Kind_start n_Kind_start (defScope s_Kind_start) := ⟨rfl, rfl, rfl, by decide +kernel, rfl, by decide +kernel, by decide +kernel⟩
theorem bd_Kind_start (B : Bs mg) (Q : KG w K cl mg) : Body P w K cl mg base N_Kind_start (defScope s_Kind_start) 0 (defBody s_Kind_start) mb_Kind_start := by
  intro X h1 h2 h3 h4 h5 C
  subst h1 h2 h3 h4 h5
  exact (ss_cons (s_set (C.l (i := 1) (by decide +kernel) rfl) (ef_ev (ev_fl fl_int (ev_Ty call_int1 rdl_int (C.g (x := "int") (by decide +kernel)) (B.int_) (by decide +kernel) (ea_cons (ev_cmp (op_eqD C.un) rc_eq (ev_fld Q.g.cls Q.na1 (ev_v (C.v (i := 0) (by decide +kernel) rfl))) ev_str (nomark _)) ea_nil) (by decide +kernel) (by decide +kernel)))))
    (ss_one (s_retO (eo_listRg C.calm (C.g (x := "list") (by decide +kernel)) B.list_ (er_2 (C.g (x := "range") (by decide +kernel)) B.range_ (ev_v (C.v (i := 1) (by decide +kernel) rfl)) (ev_bin op_addD rd_add (ev_v (C.v (i := 1) (by decide +kernel) rfl)) (ev_fld Q.g.cls Q.na2 (ev_v (C.v (i := 0) (by decide +kernel) rfl)))))))))
theorem fo_Kind_start (B : Bs mg) (Q : KG w K cl mg) {f : Addr} {fd : FuncData} (F : FunD K "start" "Kind.start" (defArgs s_Kind_start) (defBody s_Kind_start) (defScope s_Kind_start) [] [] f fd) : FnOk P w K mg base CX0 1 f fd n_Kind_start (spO K cl m_Kind_start) := fn_O F sc_Kind_start (cl := cl) (bd_Kind_start B Q )
theorem ok_Kind_start (B : Bs mg) (Q : KG w K cl mg) {f : Addr} {fd : FuncData} (F : FunD K "start" "Kind.start" (defArgs s_Kind_start) (defBody s_Kind_start) (defScope s_Kind_start) [] [] f fd) (M : Meth K (cl "Kind") "start" f) : MethG P w K mg base (cl "Kind") "start" 1 n_Kind_start (spO K cl m_Kind_start) :=
  ⟨Q.g.cls, f, fd, fo_Kind_start B Q  F, M, F.bindsN fun _ _ _ _ _ _ us hl => match us, hl with | [_], _ => rfl⟩
abbrev s__law_start : Stmt := (top 21)
abbrev n__law_start : List Str := [("_law_told" : Str)]
abbrev N__law_start : List Str := [("_law_told" : Str)]
theorem sc__law_start : FnScope N__law_start n__law_start (defScope s__law_start) := ⟨rfl, rfl, rfl, by decide +kernel, rfl, by decide +kernel, by decide +kernel⟩
theorem bd__law_start (B : Bs mg) (Q : KG w K cl mg) : Body P w K cl mg base N__law_start (defScope s__law_start) 0 (defBody s__law_start) mb__law_start := by
  intro X h1 h2 h3 h4 h5 C
  subst h1 h2 h3 h4 h5
  exact (ss_one (s_retO (eo_listRg C.calm (C.g (x := "list") (by decide +kernel)) B.list_ (er_2 (C.g (x := "range") (by decide +kernel)) B.range_ (ev_fl fl_int (ev_Ty call_int1 rdl_int (C.g (x := "int") (by decide +kernel)) (B.int_) (by decide +kernel) (ea_cons (ev_cmp (op_eqD C.un) rc_eq (ev_ix (ev_v (C.v (i := 0) (by decide +kernel) rfl)) ev_int (fun _ _ => rfl)) ev_str (nomark _)) ea_nil) (by decide +kernel) (by decide +kernel))) (ev_bin op_addD rd_add (ev_ix (ev_v (C.v (i := 0) (by decide +kernel) rfl)) ev_int (fun _ _ => rfl)) (ev_fl fl_int (ev_Ty call_int1 rdl_int (C.g (x := "int") (by decide +kernel)) (B.int_) (by decide +kernel) (ea_cons (ev_cmp (op_eqD C.un) rc_eq (ev_ix (ev_v (C.v (i := 0) (by decide +kernel) rfl)) ev_int (fun _ _ => rfl)) ev_str (nomark _)) ea_nil) (by decide +kernel) (by decide +kernel))))))))
theorem fo__law_start (B : Bs mg) (Q : KG w K cl mg) {f : Addr} {fd : FuncData} (F : FunD K "_law_start" "_law_start" (defArgs s__law_start) (defBody s__law_start) (defScope s__law_start) [] [] f fd) : FnOk P w K mg base CX0 1 f fd n__law_start (spO K cl m__law_start) := fn_O F sc__law_start (cl := cl) (bd__law_start B Q )
theorem ok__law_start (B : Bs mg) (Q : KG w K cl mg) {f : Addr} {fd : FuncData} (F : FunD K "_law_start" "_law_start" (defArgs s__law_start) (defBody s__law_start) (defScope s__law_start) [] [] f fd) (hm : mg "_law_start" = some (.ref f)) : FnG P w K mg base "_law_start" 1 n__law_start (spO K cl m__law_start) :=
  ⟨⟨f, fd, fo__law_start B Q  F, hm, F.kp, F.bindsN fun _ _ _ _ _ _ us hl => match us, hl with | [_], _ => rfl⟩⟩
abbrev s_Kind___eq__ : Stmt := (sub 9 5)
abbrev n_Kind___eq__ : List Str := [("self" : Str), ("other" : Str)]
abbrev N_Kind___eq__ : List Str := [("self" : Str), ("other" : Str)]
theorem sc_Kind___eq__ : FnScope N_Kind___eq__ n_Kind___eq__ (defScope s_Kind___eq__) := ⟨rfl, rfl, rfl, by decide +kernel, rfl, by decide +kernel, by decide +kernel⟩
theorem bd_Kind___eq__ (B : Bs mg) (Q : KG w K cl mg) : Body P w K cl mg base N_Kind___eq__ (defScope s_Kind___eq__) 0 (defBody s_Kind___eq__) mb_Kind___eq__ := by
  intro X h1 h2 h3 h4 h5 C
  subst h1 h2 h3 h4 h5
  exact (ss_cons (s_if (eft_et (et_not (et_val (ev_isC Q.g (C.g (x := "isinstance") (by decide +kernel)) B.isinstance_ (C.g (x := "Kind") (by decide +kernel)) Q.mgK (ev_v (C.v (i := 1) (by decide +kernel) rfl)) (by decide +kernel))))) (ss_one (s_ret ev_bl)) ss_nil)
    (ss_one (s_ret (ev_and (ev_cmp (op_eqD C.un) rc_eq (ev_fld Q.g.cls Q.na1 (ev_v (C.v (i := 0) (by decide +kernel) rfl))) (ev_fld Q.g.cls Q.na1 (ev_v (C.v (i := 1) (by decide +kernel) rfl))) (nomark _)) (ev_one (ev_cmp (op_eqD C.un) rc_eq (ev_fld Q.g.cls Q.na2 (ev_v (C.v (i := 0) (by decide +kernel) rfl))) (ev_fld Q.g.cls Q.na2 (ev_v (C.v (i := 1) (by decide +kernel) rfl))) (nomark _)))))))
theorem fo_Kind___eq__ (B : Bs mg) (Q : KG w K cl mg) {f : Addr} {fd : FuncData} (F : FunD K "__eq__" "Kind.__eq__" (defArgs s_Kind___eq__) (defBody s_Kind___eq__) (defScope s_Kind___eq__) [] [] f fd) : FnOk P w K mg base CX0 1 f fd n_Kind___eq__ (spP K cl m_Kind___eq__) := fn_P F sc_Kind___eq__ (cl := cl) (bd_Kind___eq__ B Q )
theorem ok_Kind___eq__ (B : Bs mg) (Q : KG w K cl mg) {f : Addr} {fd : FuncData} (F : FunD K "__eq__" "Kind.__eq__" (defArgs s_Kind___eq__) (defBody s_Kind___eq__) (defScope s_Kind___eq__) [] [] f fd) (M : Meth K (cl "Kind") "__eq__" f) : EqG P w K mg base (cl "Kind") 1 n_Kind___eq__ (spP K cl m_Kind___eq__) :=
  ⟨⟨f, fd, fo_Kind___eq__ B Q  F, M.at_, M.fn, F.bindsN fun _ _ _ _ _ _ us hl => match us, hl with | [_, _], _ => rfl⟩⟩
abbrev s__law_item : Stmt := (top 22)
abbrev n__law_item : List Str := [("_law_told" : Str), ("_law_order_here" : Str), ("_law_place" : Str)]
abbrev N__law_item : List Str := [("_law_told" : Str), ("_law_order_here" : Str), ("_law_place" : Str)]
theorem sc__law_item : FnScope N__law_item n__law_item (defScope s__law_item) := ⟨rfl, rfl, rfl, by decide +kernel, rfl, by decide +kernel, by decide +kernel⟩
theorem bd__law_item (B : Bs mg) (Q : KG w K cl mg) : Body P w K cl mg base N__law_item (defScope s__law_item) 0 (defBody s__law_item) mb__law_item := by
  intro X h1 h2 h3 h4 h5 C
  subst h1 h2 h3 h4 h5
  exact (ss_cons (s_if (eft_et (et_cmp (op_eqD C.un) rc_eq (ev_ix (ev_v (C.v (i := 0) (by decide +kernel) rfl)) ev_int (fun _ _ => rfl)) ev_str (nomark _))) (ss_one (s_ret (ev_bin op_mulD rd_mul (ev_ix (ev_v (C.v (i := 1) (by decide +kernel) rfl)) (ev_bin op_sub rd_sub (ev_fl fl_abs (ev_B call_abs rdl_abs (C.g (x := "abs") (by decide +kernel)) (B.abs_) (by decide +kernel) (ea_cons (ev_v (C.v (i := 2) (by decide +kernel) rfl)) ea_nil) (by decide +kernel) (by decide +kernel))) ev_int) (fun _ _ => rfl)) (ev_if (et_cmp op_gt rc_gt (ev_v (C.v (i := 2) (by decide +kernel) rfl)) ev_int (nomark _)) ev_int (ev_un un_neg rd_neg ev_int))))) ss_nil)
    (ss_one (s_ret (ev_bin op_sub rd_sub (ev_bin op_addD rd_add (ev_ix (ev_v (C.v (i := 1) (by decide +kernel) rfl)) (ev_bin op_mod rd_mod (ev_fl fl_int (ev_Ty call_int1 rdl_int (C.g (x := "int") (by decide +kernel)) (B.int_) (by decide +kernel) (ea_cons (ev_v (C.v (i := 2) (by decide +kernel) rfl)) ea_nil) (by decide +kernel) (by decide +kernel))) (ev_ix (ev_v (C.v (i := 0) (by decide +kernel) rfl)) ev_int (fun _ _ => rfl))) (fun _ _ => rfl)) (ev_v (C.v (i := 2) (by decide +kernel) rfl))) (ev_bin op_mod rd_mod (ev_fl fl_int (ev_Ty call_int1 rdl_int (C.g (x := "int") (by decide +kernel)) (B.int_) (by decide +kernel) (ea_cons (ev_v (C.v (i := 2) (by decide +kernel) rfl)) ea_nil) (by decide +kernel) (by decide +kernel))) (ev_ix (ev_v (C.v (i := 0) (by decide +kernel) rfl)) ev_int (fun _ _ => rfl)))))))
theorem fo__law_item (B : Bs mg) (Q : KG w K cl mg) {f : Addr} {fd : FuncData} (F : FunD K "_law_item" "_law_item" (defArgs s__law_item) (defBody s__law_item) (defScope s__law_item) [] [] f fd) : FnOk P w K mg base CX0 1 f fd n__law_item (spP K cl m__law_item) := fn_P F sc__law_item (cl := cl) (bd__law_item B Q )
theorem ok__law_item (B : Bs mg) (Q : KG w K cl mg) {f : Addr} {fd : FuncData} (F : FunD K "_law_item" "_law_item" (defArgs s__law_item) (defBody s__law_item) (defScope s__law_item) [] [] f fd) (hm : mg "_law_item" = some (.ref f)) : FnG P w K mg base "_law_item" 1 n__law_item (spP K cl m__law_item) :=
  ⟨⟨f, fd, fo__law_item B Q  F, hm, F.kp, F.bindsN fun _ _ _ _ _ _ us hl => match us, hl with | [_, _, _], _ => rfl⟩⟩
abbrev s__law_turned : Stmt := (top 23)
abbrev n__law_turned : List Str := [("_law_told" : Str), ("_law_step" : Str), ("_law_place" : Str)]
abbrev N__law_turned : List Str := [("_law_told" : Str), ("_law_step" : Str), ("_law_place" : Str), ("_law_apart" : Str)]
theorem sc__law_turned : FnScope N__law_turned n__law_turned (defScope s__law_turned) := ⟨rfl, rfl, rfl, by decide +kernel, rfl, by decide +kernel, by decide +kernel⟩
theorem bd__law_turned (B : Bs mg) (Q : KG w K cl mg) : Body P w K cl mg base N__law_turned (defScope s__law_turned) 0 (defBody s__law_turned) mb__law_turned := by
  intro X h1 h2 h3 h4 h5 C
  subst h1 h2 h3 h4 h5
  exact (ss_cons (s_if (eft_et (et_cmp (op_eqD C.un) rc_eq (ev_ix (ev_v (C.v (i := 0) (by decide +kernel) rfl)) ev_int (fun _ _ => rfl)) ev_str (nomark _))) (ss_cons (s_if (eft_et (et_cmp (op_eqD C.un) rc_eq (ev_v (C.v (i := 1) (by decide +kernel) rfl)) ev_int (nomark _))) (ss_one (s_ret (ev_if (et_cmp (op_eqD C.un) rc_eq (ev_fl fl_abs (ev_B call_abs rdl_abs (C.g (x := "abs") (by decide +kernel)) (B.abs_) (by decide +kernel) (ea_cons (ev_v (C.v (i := 2) (by decide +kernel) rfl)) ea_nil) (by decide +kernel) (by decide +kernel))) ev_int (nomark _)) (ev_un un_neg rd_neg (ev_v (C.v (i := 2) (by decide +kernel) rfl))) (ev_v (C.v (i := 2) (by decide +kernel) rfl))))) ss_nil)
    (ss_cons (s_if (eft_et (et_cmp op_in_seq rc_in (ev_fl fl_abs (ev_B call_abs rdl_abs (C.g (x := "abs") (by decide +kernel)) (B.abs_) (by decide +kernel) (ea_cons (ev_v (C.v (i := 2) (by decide +kernel) rfl)) ea_nil) (by decide +kernel) (by decide +kernel))) (ev_of_eo (eo_lst (ea_cons (ev_v (C.v (i := 1) (by decide +kernel) rfl)) (ea_cons (ev_bin op_addD rd_add (ev_v (C.v (i := 1) (by decide +kernel) rfl)) ev_int) ea_nil)))) rfl)) (ss_one (s_ret (ev_bin op_mulD rd_mul (ev_bin op_sub rd_sub (ev_bin op_addD rd_add (ev_bin op_mulD rd_mul ev_int (ev_v (C.v (i := 1) (by decide +kernel) rfl))) ev_int) (ev_fl fl_abs (ev_B call_abs rdl_abs (C.g (x := "abs") (by decide +kernel)) (B.abs_) (by decide +kernel) (ea_cons (ev_v (C.v (i := 2) (by decide +kernel) rfl)) ea_nil) (by decide +kernel) (by decide +kernel)))) (ev_if (et_cmp op_gt rc_gt (ev_v (C.v (i := 2) (by decide +kernel) rfl)) ev_int (nomark _)) ev_int (ev_un un_neg rd_neg ev_int))))) ss_nil)
    (ss_one (s_ret (ev_v (C.v (i := 2) (by decide +kernel) rfl)))))) ss_nil)
    (ss_cons (s_set (C.l (i := 3) (by decide +kernel) rfl) (ef_ev (ev_bin op_mod rd_mod (ev_fl fl_int (ev_Ty call_int1 rdl_int (C.g (x := "int") (by decide +kernel)) (B.int_) (by decide +kernel) (ea_cons (ev_bin op_sub rd_sub (ev_v (C.v (i := 2) (by decide +kernel) rfl)) (ev_v (C.v (i := 1) (by decide +kernel) rfl))) ea_nil) (by decide +kernel) (by decide +kernel))) (ev_ix (ev_v (C.v (i := 0) (by decide +kernel) rfl)) ev_int (fun _ _ => rfl)))))
    (ss_one (s_ret (ev_if (et_cmp (op_eqD C.un) rc_eq (ev_v (C.v (i := 3) (by decide +kernel) rfl)) ev_int (nomark _)) (ev_bin op_addD rd_add (ev_v (C.v (i := 2) (by decide +kernel) rfl)) ev_int) (ev_if (et_cmp (op_eqD C.un) rc_eq (ev_v (C.v (i := 3) (by decide +kernel) rfl)) ev_int (nomark _)) (ev_bin op_sub rd_sub (ev_v (C.v (i := 2) (by decide +kernel) rfl)) ev_int) (ev_v (C.v (i := 2) (by decide +kernel) rfl))))))))
theorem fo__law_turned (B : Bs mg) (Q : KG w K cl mg) {f : Addr} {fd : FuncData} (F : FunD K "_law_turned" "_law_turned" (defArgs s__law_turned) (defBody s__law_turned) (defScope s__law_turned) [] [] f fd) : FnOk P w K mg base CX0 1 f fd n__law_turned (spP K cl m__law_turned) := fn_P F sc__law_turned (cl := cl) (bd__law_turned B Q )
theorem ok__law_turned (B : Bs mg) (Q : KG w K cl mg) {f : Addr} {fd : FuncData} (F : FunD K "_law_turned" "_law_turned" (defArgs s__law_turned) (defBody s__law_turned) (defScope s__law_turned) [] [] f fd) (hm : mg "_law_turned" = some (.ref f)) : FnG P w K mg base "_law_turned" 1 n__law_turned (spP K cl m__law_turned) :=
  ⟨⟨f, fd, fo__law_turned B Q  F, hm, F.kp, F.bindsN fun _ _ _ _ _ _ us hl => match us, hl with | [_, _, _], _ => rfl⟩⟩
abbrev s__law_stepped : Stmt := (top 24)
abbrev n__law_stepped : List Str := [("_law_told" : Str), ("_law_order_here" : Str), ("_law_step" : Str)]
abbrev N__law_stepped : List Str := [("_law_told" : Str), ("_law_order_here" : Str), ("_law_step" : Str), ("_law_place" : Str)]
theorem sc__law_stepped : FnScope N__law_stepped n__law_stepped (defScope s__law_stepped) := ⟨rfl, rfl, rfl, by decide +kernel, rfl, by decide +kernel, by decide +kernel⟩
theorem bd__law_stepped (B : Bs mg) (Q : KG w K cl mg)
    (h__law_start : FnG P w K mg base "_law_start" 1 n__law_start (spO K cl m__law_start))
    (h__law_item : FnG P w K mg base "_law_item" 1 n__law_item (spP K cl m__law_item))
    (h__law_turned : FnG P w K mg base "_law_turned" 1 n__law_turned (spP K cl m__law_turned)) : Body P w K cl mg base N__law_stepped (defScope s__law_stepped) 1 (defBody s__law_stepped) mb__law_stepped := by
  intro X h1 h2 h3 h4 h5 C
  subst h1 h2 h3 h4 h5
  exact (ss_one (s_retO (eo_lc (own := [("_law_place", 3)]) (fl := false) (.inl rfl) C.calm C.nd (ei_seq (ev_of_eo (eo_call h__law_start C.rm (C.g (x := "_law_start") (by decide +kernel)) (ea_cons (ev_v (C.v (i := 0) (by decide +kernel) rfl)) ea_nil) (by decide +kernel)))) (CXo.blkOk C (by decide +kernel)) (by decide) (fun s_ H_ C_ c_ fp_ => (gt_one ((CXo.blk C rfl s_ H_ C_ c_ fp_).l (i := 3) (by decide +kernel) rfl))) (fun s_ H_ C_ c_ fp_ => ets_nil) (fun s_ H_ C_ c_ fp_ => (ev_call h__law_item (CXo.blk C rfl s_ H_ C_ c_ fp_).rm ((CXo.blk C rfl s_ H_ C_ c_ fp_).g (x := "_law_item") (by decide +kernel)) (ea_cons (ev_v ((CXo.blk C rfl s_ H_ C_ c_ fp_).v (i := 0) (by decide +kernel) rfl)) (ea_cons (ev_v ((CXo.blk C rfl s_ H_ C_ c_ fp_).v (i := 1) (by decide +kernel) rfl)) (ea_cons (ev_call h__law_turned (CXo.blk C rfl s_ H_ C_ c_ fp_).rm ((CXo.blk C rfl s_ H_ C_ c_ fp_).g (x := "_law_turned") (by decide +kernel)) (ea_cons (ev_v ((CXo.blk C rfl s_ H_ C_ c_ fp_).v (i := 0) (by decide +kernel) rfl)) (ea_cons (ev_v ((CXo.blk C rfl s_ H_ C_ c_ fp_).v (i := 2) (by decide +kernel) rfl)) (ea_cons (ev_v ((CXo.blk C rfl s_ H_ C_ c_ fp_).v (i := 3) (by decide +kernel) rfl)) ea_nil))) (by decide +kernel)) ea_nil))) (by decide +kernel))))))
theorem fo__law_stepped (B : Bs mg) (Q : KG w K cl mg)
    (h__law_start : FnG P w K mg base "_law_start" 1 n__law_start (spO K cl m__law_start))
    (h__law_item : FnG P w K mg base "_law_item" 1 n__law_item (spP K cl m__law_item))
    (h__law_turned : FnG P w K mg base "_law_turned" 1 n__law_turned (spP K cl m__law_turned)) {f : Addr} {fd : FuncData} (F : FunD K "_law_stepped" "_law_stepped" (defArgs s__law_stepped) (defBody s__law_stepped) (defScope s__law_stepped) [] [] f fd) : FnOk P w K mg base CX0 2 f fd n__law_stepped (spO K cl m__law_stepped) := fn_O F sc__law_stepped (cl := cl) (bd__law_stepped B Q h__law_start h__law_item h__law_turned)
theorem ok__law_stepped (B : Bs mg) (Q : KG w K cl mg)
    (h__law_start : FnG P w K mg base "_law_start" 1 n__law_start (spO K cl m__law_start))
    (h__law_item : FnG P w K mg base "_law_item" 1 n__law_item (spP K cl m__law_item))
    (h__law_turned : FnG P w K mg base "_law_turned" 1 n__law_turned (spP K cl m__law_turned)) {f : Addr} {fd : FuncData} (F : FunD K "_law_stepped" "_law_stepped" (defArgs s__law_stepped) (defBody s__law_stepped) (defScope s__law_stepped) [] [] f fd) (hm : mg "_law_stepped" = some (.ref f)) : FnG P w K mg base "_law_stepped" 2 n__law_stepped (spO K cl m__law_stepped) :=
  ⟨⟨f, fd, fo__law_stepped B Q h__law_start h__law_item h__law_turned F, hm, F.kp, F.bindsN fun _ _ _ _ _ _ us hl => match us, hl with | [_, _, _], _ => rfl⟩⟩
abbrev s__law_wait : Stmt := (top 29)
abbrev n__law_wait : List Str := [("_law_told" : Str), ("_law_order_here" : Str), ("_law_one" : Str), ("_law_other" : Str)]
abbrev N__law_wait : List Str := [("_law_told" : Str), ("_law_order_here" : Str), ("_law_one" : Str), ("_law_other" : Str), ("_law_turn" : Str), ("_law_low" : Str), ("_law_high" : Str)]
theorem sc__law_wait : FnScope N__law_wait n__law_wait (defScope s__law_wait) := ⟨rfl, rfl, rfl, by decide +kernel, rfl, by decide +kernel, by decide +kernel⟩
theorem bd__law_wait (B : Bs mg) (Q : KG w K cl mg)
    (h__law_stepped : FnG P w K mg base "_law_stepped" 2 n__law_stepped (spO K cl m__law_stepped)) : Body P w K cl mg base N__law_wait (defScope s__law_wait) 2 (defBody s__law_wait) mb__law_wait := by
  intro X h1 h2 h3 h4 h5 C
  subst h1 h2 h3 h4 h5
  exact (ss_cons (s_par C.calm (C.l (i := 5) (by decide +kernel) rfl) (C.l (i := 6) (by decide +kernel) rfl) (by decide) (C.p (i := 5) (by decide +kernel) rfl) (C.p (i := 6) (by decide +kernel) rfl) (em_val (ef_ev (ev_of_eo (eo_Ty call_list_of rol_list (C.g (x := "list") (by decide +kernel)) (B.list_) (by decide +kernel) (ea_cons (ev_v (C.v (i := 1) (by decide +kernel) rfl)) ea_nil) (by decide +kernel) (by decide +kernel)))) (em_val (ef_ev (ev_of_eo (eo_Ty call_list_of rol_list (C.g (x := "list") (by decide +kernel)) (B.list_) (by decide +kernel) (ea_cons (ev_v (C.v (i := 1) (by decide +kernel) rfl)) ea_nil) (by decide +kernel) (by decide +kernel)))) em_nil)) (swapped2 C.sc.kind (C.p (i := 5) (by decide +kernel) rfl) (C.p (i := 6) (by decide +kernel) rfl) (by decide +kernel) rfl ⟨rfl, rfl⟩ rfl rfl))
    (ss_cons (s_for C.xe C.calm (efi_ei (ei_rg2 (C.g (x := "range") (by decide +kernel)) B.range_ ev_int ev_int)) (st_name (C.l (i := 4) (by decide +kernel) rfl)) (ss_cons (s_set (C.l (i := 5) (by decide +kernel) rfl) (ef_ev (ev_of_eo (eo_call h__law_stepped C.rm (C.g (x := "_law_stepped") (by decide +kernel)) (ea_cons (ev_v (C.v (i := 0) (by decide +kernel) rfl)) (ea_cons (ev_v (C.v (i := 5) (by decide +kernel) rfl)) (ea_cons (ev_ix (ev_of_eo (eo_lst (ea_cons (ev_v (C.v (i := 3) (by decide +kernel) rfl)) (ea_cons (ev_v (C.v (i := 2) (by decide +kernel) rfl)) ea_nil)))) (ev_bin op_mod rd_mod (ev_fl fl_int (ev_Ty call_int1 rdl_int (C.g (x := "int") (by decide +kernel)) (B.int_) (by decide +kernel) (ea_cons (ev_v (C.v (i := 4) (by decide +kernel) rfl)) ea_nil) (by decide +kernel) (by decide +kernel))) ev_int) (fun _ _ => rfl)) ea_nil))) (by decide +kernel)))))
    (ss_cons (s_set (C.l (i := 6) (by decide +kernel) rfl) (ef_ev (ev_of_eo (eo_call h__law_stepped C.rm (C.g (x := "_law_stepped") (by decide +kernel)) (ea_cons (ev_v (C.v (i := 0) (by decide +kernel) rfl)) (ea_cons (ev_v (C.v (i := 6) (by decide +kernel) rfl)) (ea_cons (ev_ix (ev_of_eo (eo_lst (ea_cons (ev_v (C.v (i := 2) (by decide +kernel) rfl)) (ea_cons (ev_v (C.v (i := 3) (by decide +kernel) rfl)) ea_nil)))) (ev_bin op_mod rd_mod (ev_fl fl_int (ev_Ty call_int1 rdl_int (C.g (x := "int") (by decide +kernel)) (B.int_) (by decide +kernel) (ea_cons (ev_v (C.v (i := 4) (by decide +kernel) rfl)) ea_nil) (by decide +kernel) (by decide +kernel))) ev_int) (fun _ _ => rfl)) ea_nil))) (by decide +kernel)))))
    (ss_one (s_if (eft_et (et_cmp (op_eqD C.un) rc_eq (ev_v (C.v (i := 5) (by decide +kernel) rfl)) (ev_v (C.v (i := 6) (by decide +kernel) rfl)) (nomark _))) (ss_one (s_ret (ev_v (C.v (i := 4) (by decide +kernel) rfl)))) ss_nil)))))
    (ss_one (s_ret ev_non))))
theorem fo__law_wait (B : Bs mg) (Q : KG w K cl mg)
    (h__law_stepped : FnG P w K mg base "_law_stepped" 2 n__law_stepped (spO K cl m__law_stepped)) {f : Addr} {fd : FuncData} (F : FunD K "_law_wait" "_law_wait" (defArgs s__law_wait) (defBody s__law_wait) (defScope s__law_wait) [] [] f fd) : FnOk P w K mg base CX0 3 f fd n__law_wait (spP K cl m__law_wait) := fn_P F sc__law_wait (cl := cl) (bd__law_wait B Q h__law_stepped)
theorem ok__law_wait (B : Bs mg) (Q : KG w K cl mg)
    (h__law_stepped : FnG P w K mg base "_law_stepped" 2 n__law_stepped (spO K cl m__law_stepped)) {f : Addr} {fd : FuncData} (F : FunD K "_law_wait" "_law_wait" (defArgs s__law_wait) (defBody s__law_wait) (defScope s__law_wait) [] [] f fd) (hm : mg "_law_wait" = some (.ref f)) : FnG P w K mg base "_law_wait" 3 n__law_wait (spP K cl m__law_wait) :=
  ⟨⟨f, fd, fo__law_wait B Q h__law_stepped F, hm, F.kp, F.bindsN fun _ _ _ _ _ _ us hl => match us, hl with | [_, _, _, _], _ => rfl⟩⟩
abbrev s_check_kind : Stmt := (top 10)
abbrev n_check_kind : List Str := [("kind" : Str)]
abbrev N_check_kind : List Str := [("kind" : Str)]
theorem sc_check_kind : FnScope N_check_kind n_check_kind (defScope s_check_kind) := ⟨rfl, rfl, rfl, by decide +kernel, rfl, by decide +kernel, by decide +kernel⟩
theorem bd_check_kind (B : Bs mg) (Q : KG w K cl mg) : Body P w K cl mg base N_check_kind (defScope s_check_kind) 0 (defBody s_check_kind) mb_check_kind := by
  intro X h1 h2 h3 h4 h5 C
  subst h1 h2 h3 h4 h5
  exact (ss_one (s_if (eft_et (et_not (et_val (ev_isC Q.g (C.g (x := "isinstance") (by decide +kernel)) B.isinstance_ (C.g (x := "Kind") (by decide +kernel)) Q.mgK (ev_v (C.v (i := 0) (by decide +kernel) rfl)) (by decide +kernel))))) (ss_one s_never) ss_nil))
theorem fo_check_kind (B : Bs mg) (Q : KG w K cl mg) {f : Addr} {fd : FuncData} (F : FunD K "check_kind" "check_kind" (defArgs s_check_kind) (defBody s_check_kind) (defScope s_check_kind) [] [] f fd) : FnOk P w K mg base CX0 1 f fd n_check_kind (spP K cl m_check_kind) := fn_P F sc_check_kind (cl := cl) (bd_check_kind B Q )
theorem ok_check_kind (B : Bs mg) (Q : KG w K cl mg) {f : Addr} {fd : FuncData} (F : FunD K "check_kind" "check_kind" (defArgs s_check_kind) (defBody s_check_kind) (defScope s_check_kind) [] [] f fd) (hm : mg "check_kind" = some (.ref f)) : FnG P w K mg base "check_kind" 1 n_check_kind (spP K cl m_check_kind) :=
  ⟨⟨f, fd, fo_check_kind B Q  F, hm, F.kp, F.bindsN fun _ _ _ _ _ _ us hl => match us, hl with | [_], _ => rfl⟩⟩
abbrev s_check_step : Stmt := (top 11)
abbrev n_check_step : List Str := [("kind" : Str), ("step" : Str)]
abbrev N_check_step : List Str := [("kind" : Str), ("step" : Str)]
theorem sc_check_step : FnScope N_check_step n_check_step (defScope s_check_step) := ⟨rfl, rfl, rfl, by decide +kernel, rfl, by decide +kernel, by decide +kernel⟩
theorem bd_check_step (B : Bs mg) (Q : KG w K cl mg)
    (h_check_number : FnG P w K mg base "check_number" 3 n_check_number (spP K cl m_check_number))
    (h_Kind_steps : MethG P w K mg base (cl "Kind") "steps" 1 n_Kind_steps (spP K cl m_Kind_steps)) : Body P w K cl mg base N_check_step (defScope s_check_step) 3 (defBody s_check_step) mb_check_step := by
  intro X h1 h2 h3 h4 h5 C
  subst h1 h2 h3 h4 h5
  exact (ss_one (s_expr (ef_ev (ev_call h_check_number C.rm (C.g (x := "check_number") (by decide +kernel)) (ea_cons (ev_v (C.v (i := 1) (by decide +kernel) rfl)) (ea_cons ev_int (ea_cons (ev_bin op_sub rd_sub (ev_meth0 h_Kind_steps C.rm (ev_v (C.v (i := 0) (by decide +kernel) rfl))) ev_int) ea_nil))) (by decide +kernel)))))
theorem fo_check_step (B : Bs mg) (Q : KG w K cl mg)
    (h_check_number : FnG P w K mg base "check_number" 3 n_check_number (spP K cl m_check_number))
    (h_Kind_steps : MethG P w K mg base (cl "Kind") "steps" 1 n_Kind_steps (spP K cl m_Kind_steps)) {f : Addr} {fd : FuncData} (F : FunD K "check_step" "check_step" (defArgs s_check_step) (defBody s_check_step) (defScope s_check_step) [] [] f fd) : FnOk P w K mg base CX0 4 f fd n_check_step (spP K cl m_check_step) := fn_P F sc_check_step (cl := cl) (bd_check_step B Q h_check_number h_Kind_steps)
theorem ok_check_step (B : Bs mg) (Q : KG w K cl mg)
    (h_check_number : FnG P w K mg base "check_number" 3 n_check_number (spP K cl m_check_number))
    (h_Kind_steps : MethG P w K mg base (cl "Kind") "steps" 1 n_Kind_steps (spP K cl m_Kind_steps)) {f : Addr} {fd : FuncData} (F : FunD K "check_step" "check_step" (defArgs s_check_step) (defBody s_check_step) (defScope s_check_step) [] [] f fd) (hm : mg "check_step" = some (.ref f)) : FnG P w K mg base "check_step" 4 n_check_step (spP K cl m_check_step) :=
  ⟨⟨f, fd, fo_check_step B Q h_check_number h_Kind_steps F, hm, F.kp, F.bindsN fun _ _ _ _ _ _ us hl => match us, hl with | [_, _], _ => rfl⟩⟩
abbrev s_wait_of : Stmt := (top 12)
abbrev n_wait_of : List Str := [("kind" : Str), ("one" : Str), ("other" : Str)]
abbrev N_wait_of : List Str := [("kind" : Str), ("one" : Str), ("other" : Str), ("near" : Str), ("low" : Str), ("high" : Str), ("size" : Str)]
theorem sc_wait_of : FnScope N_wait_of n_wait_of (defScope s_wait_of) := ⟨rfl, rfl, rfl, by decide +kernel, rfl, by decide +kernel, by decide +kernel⟩
theorem bd_wait_of (B : Bs mg) (Q : KG w K cl mg)
    (h_Kind_size : MethG P w K mg base (cl "Kind") "size" 1 n_Kind_size (spP K cl m_Kind_size))
    (h_Kind_name : MethG P w K mg base (cl "Kind") "name" 1 n_Kind_name (spP K cl m_Kind_name)) : Body P w K cl mg base N_wait_of (defScope s_wait_of) 1 (defBody s_wait_of) mb_wait_of := by
  intro X h1 h2 h3 h4 h5 C
  subst h1 h2 h3 h4 h5
  exact (ss_cons (s_par3 C.calm (C.l (i := 4) (by decide +kernel) rfl) (C.l (i := 5) (by decide +kernel) rfl) (C.l (i := 6) (by decide +kernel) rfl) (by decide) (by decide) (by decide) (C.p (i := 4) (by decide +kernel) rfl) (C.p (i := 5) (by decide +kernel) rfl) (C.p (i := 6) (by decide +kernel) rfl) (em_val (ef_ev (ev_fl fl_min (ev_B (call_min2 C.calm) rdl_min (C.g (x := "min") (by decide +kernel)) (B.min_) (by decide +kernel) (ea_cons (ev_v (C.v (i := 1) (by decide +kernel) rfl)) (ea_cons (ev_v (C.v (i := 2) (by decide +kernel) rfl)) ea_nil)) (by decide +kernel) (by decide +kernel)))) (em_val (ef_ev (ev_fl fl_max (ev_B (call_max2 C.calm) rdl_max (C.g (x := "max") (by decide +kernel)) (B.max_) (by decide +kernel) (ea_cons (ev_v (C.v (i := 1) (by decide +kernel) rfl)) (ea_cons (ev_v (C.v (i := 2) (by decide +kernel) rfl)) ea_nil)) (by decide +kernel) (by decide +kernel)))) (em_val (ef_ev (ev_meth0 h_Kind_size C.rm (ev_v (C.v (i := 0) (by decide +kernel) rfl)))) em_nil))) (swapped3 C.sc.kind (C.p (i := 4) (by decide +kernel) rfl) (C.p (i := 5) (by decide +kernel) rfl) (C.p (i := 6) (by decide +kernel) rfl) (by decide +kernel) (by decide +kernel) (by decide +kernel) rfl rfl ⟨rfl, rfl, rfl⟩ rfl rfl))
    (ss_cons (s_if (eft_et (et_pw (ew_and (et_cmp (op_eqD C.un) rc_eq (ev_meth0 h_Kind_name C.rm (ev_v (C.v (i := 0) (by decide +kernel) rfl))) ev_str (nomark _)) (ew_and1 (et_cmp (op_eqD C.un) rc_eq (ev_v (C.v (i := 6) (by decide +kernel) rfl)) ev_int (nomark _)))))) (ss_one (s_ret ev_non)) ss_nil)
    (ss_cons (s_if (eft_et (et_pw (ew_and (et_cmp (op_eqD C.un) rc_eq (ev_meth0 h_Kind_name C.rm (ev_v (C.v (i := 0) (by decide +kernel) rfl))) ev_str (nomark _)) (ew_and1 (et_cmp (op_eqD C.un) rc_eq (ev_tup (ea_cons (ev_v (C.v (i := 4) (by decide +kernel) rfl)) (ea_cons (ev_v (C.v (i := 5) (by decide +kernel) rfl)) ea_nil))) (ev_tup (ea_cons ev_int (ea_cons ev_int ea_nil))) (nomark _)))))) (ss_one (s_ret ev_int)) ss_nil)
    (ss_cons (s_set (C.l (i := 3) (by decide +kernel) rfl) (ef_ev (ev_or (ev_cmp (op_eqD C.un) rc_eq (ev_bin op_sub rd_sub (ev_v (C.v (i := 5) (by decide +kernel) rfl)) (ev_v (C.v (i := 4) (by decide +kernel) rfl))) ev_int (nomark _)) (ev_one (ev_and (ev_cmp (op_eqD C.un) rc_eq (ev_meth0 h_Kind_name C.rm (ev_v (C.v (i := 0) (by decide +kernel) rfl))) ev_str (nomark _)) (ev_one (ev_cmp (op_eqD C.un) rc_eq (ev_bin op_sub rd_sub (ev_v (C.v (i := 5) (by decide +kernel) rfl)) (ev_v (C.v (i := 4) (by decide +kernel) rfl))) (ev_bin op_sub rd_sub (ev_v (C.v (i := 6) (by decide +kernel) rfl)) ev_int) (nomark _))))))))
    (ss_one (s_ret (ev_if (et_val (ev_v (C.v (i := 3) (by decide +kernel) rfl))) ev_int ev_int)))))))
theorem fo_wait_of (B : Bs mg) (Q : KG w K cl mg)
    (h_Kind_size : MethG P w K mg base (cl "Kind") "size" 1 n_Kind_size (spP K cl m_Kind_size))
    (h_Kind_name : MethG P w K mg base (cl "Kind") "name" 1 n_Kind_name (spP K cl m_Kind_name)) {f : Addr} {fd : FuncData} (F : FunD K "wait_of" "wait_of" (defArgs s_wait_of) (defBody s_wait_of) (defScope s_wait_of) [] [] f fd) : FnOk P w K mg base CX0 2 f fd n_wait_of (spP K cl m_wait_of) := fn_P F sc_wait_of (cl := cl) (bd_wait_of B Q h_Kind_size h_Kind_name)
theorem ok_wait_of (B : Bs mg) (Q : KG w K cl mg)
    (h_Kind_size : MethG P w K mg base (cl "Kind") "size" 1 n_Kind_size (spP K cl m_Kind_size))
    (h_Kind_name : MethG P w K mg base (cl "Kind") "name" 1 n_Kind_name (spP K cl m_Kind_name)) {f : Addr} {fd : FuncData} (F : FunD K "wait_of" "wait_of" (defArgs s_wait_of) (defBody s_wait_of) (defScope s_wait_of) [] [] f fd) (hm : mg "wait_of" = some (.ref f)) : FnG P w K mg base "wait_of" 2 n_wait_of (spP K cl m_wait_of) :=
  ⟨⟨f, fd, fo_wait_of B Q h_Kind_size h_Kind_name F, hm, F.kp, F.bindsN fun _ _ _ _ _ _ us hl => match us, hl with | [_, _, _], _ => rfl⟩⟩
abbrev s_wait : Stmt := (top 13)
abbrev n_wait : List Str := [("kind" : Str), ("one" : Str), ("other" : Str)]
abbrev N_wait : List Str := [("kind" : Str), ("one" : Str), ("other" : Str)]
theorem sc_wait : FnScope N_wait n_wait (defScope s_wait) := ⟨rfl, rfl, rfl, by decide +kernel, rfl, by decide +kernel, by decide +kernel⟩
theorem bd_wait (B : Bs mg) (Q : KG w K cl mg)
    (h_check_kind : FnG P w K mg base "check_kind" 1 n_check_kind (spP K cl m_check_kind))
    (h_check_step : FnG P w K mg base "check_step" 4 n_check_step (spP K cl m_check_step))
    (h_wait_of : FnG P w K mg base "wait_of" 2 n_wait_of (spP K cl m_wait_of)) : Body P w K cl mg base N_wait (defScope s_wait) 4 (defBody s_wait) mb_wait := by
  intro X h1 h2 h3 h4 h5 C
  subst h1 h2 h3 h4 h5
  exact (ss_cons (s_expr (ef_ev (ev_call h_check_kind C.rm (C.g (x := "check_kind") (by decide +kernel)) (ea_cons (ev_v (C.v (i := 0) (by decide +kernel) rfl)) ea_nil) (by decide +kernel))))
    (ss_cons (s_expr (ef_ev (ev_call h_check_step C.rm (C.g (x := "check_step") (by decide +kernel)) (ea_cons (ev_v (C.v (i := 0) (by decide +kernel) rfl)) (ea_cons (ev_v (C.v (i := 1) (by decide +kernel) rfl)) ea_nil)) (by decide +kernel))))
    (ss_cons (s_expr (ef_ev (ev_call h_check_step C.rm (C.g (x := "check_step") (by decide +kernel)) (ea_cons (ev_v (C.v (i := 0) (by decide +kernel) rfl)) (ea_cons (ev_v (C.v (i := 2) (by decide +kernel) rfl)) ea_nil)) (by decide +kernel))))
    (ss_cons (s_if (eft_et (et_cmp (op_eqD C.un) rc_eq (ev_v (C.v (i := 1) (by decide +kernel) rfl)) (ev_v (C.v (i := 2) (by decide +kernel) rfl)) (nomark _))) (ss_one s_never) ss_nil)
    (ss_one (s_ret (ev_call h_wait_of C.rm (C.g (x := "wait_of") (by decide +kernel)) (ea_cons (ev_v (C.v (i := 0) (by decide +kernel) rfl)) (ea_cons (ev_v (C.v (i := 1) (by decide +kernel) rfl)) (ea_cons (ev_v (C.v (i := 2) (by decide +kernel) rfl)) ea_nil))) (by decide +kernel))))))))
theorem fo_wait (B : Bs mg) (Q : KG w K cl mg)
    (h_check_kind : FnG P w K mg base "check_kind" 1 n_check_kind (spP K cl m_check_kind))
    (h_check_step : FnG P w K mg base "check_step" 4 n_check_step (spP K cl m_check_step))
    (h_wait_of : FnG P w K mg base "wait_of" 2 n_wait_of (spP K cl m_wait_of)) {f : Addr} {fd : FuncData} (F : FunD K "wait" "wait" (defArgs s_wait) (defBody s_wait) (defScope s_wait) [] [] f fd) : FnOk P w K mg base CX0 5 f fd n_wait (spP K cl m_wait) := fn_P F sc_wait (cl := cl) (bd_wait B Q h_check_kind h_check_step h_wait_of)
theorem ok_wait (B : Bs mg) (Q : KG w K cl mg)
    (h_check_kind : FnG P w K mg base "check_kind" 1 n_check_kind (spP K cl m_check_kind))
    (h_check_step : FnG P w K mg base "check_step" 4 n_check_step (spP K cl m_check_step))
    (h_wait_of : FnG P w K mg base "wait_of" 2 n_wait_of (spP K cl m_wait_of)) {f : Addr} {fd : FuncData} (F : FunD K "wait" "wait" (defArgs s_wait) (defBody s_wait) (defScope s_wait) [] [] f fd) (hm : mg "wait" = some (.ref f)) : FnG P w K mg base "wait" 5 n_wait (spP K cl m_wait) :=
  ⟨⟨f, fd, fo_wait B Q h_check_kind h_check_step h_wait_of F, hm, F.kp, F.bindsN fun _ _ _ _ _ _ us hl => match us, hl with | [_, _, _], _ => rfl⟩⟩
abbrev s__law_kind_right : Stmt := (top 30)
abbrev n__law_kind_right : List Str := [("_law_told" : Str), ("_law_order_here" : Str)]
abbrev N__law_kind_right : List Str := [("_law_told" : Str), ("_law_order_here" : Str), ("_law_kind_here" : Str), ("_law_one" : Str), ("_law_other" : Str), ("_law_due" : Str)]
theorem sc__law_kind_right : FnScope N__law_kind_right n__law_kind_right (defScope s__law_kind_right) := ⟨rfl, rfl, rfl, by decide +kernel, rfl, by decide +kernel, by decide +kernel⟩
theorem bd__law_kind_right (B : Bs mg) (Q : KG w K cl mg)
    (h_Kind___init__ : MkG P w K cl mg base "Kind" 4 n_Kind___init__ m_Kind___init__)
    (h_Kind_start : MethG P w K mg base (cl "Kind") "start" 1 n_Kind_start (spO K cl m_Kind_start))
    (h__law_start : FnG P w K mg base "_law_start" 1 n__law_start (spO K cl m__law_start))
    (h_Kind_steps : MethG P w K mg base (cl "Kind") "steps" 1 n_Kind_steps (spP K cl m_Kind_steps))
    (h__law_many : FnG P w K mg base "_law_many" 1 n__law_many (spP K cl m__law_many))
    (h_Kind_size : MethG P w K mg base (cl "Kind") "size" 1 n_Kind_size (spP K cl m_Kind_size))
    (h_Kind_name : MethG P w K mg base (cl "Kind") "name" 1 n_Kind_name (spP K cl m_Kind_name))
    (h_Kind___eq__ : EqG P w K mg base (cl "Kind") 1 n_Kind___eq__ (spP K cl m_Kind___eq__))
    (hq_Kind_size_name : MkK P w K cl mg base "Kind" 4 n_Kind___init__ m_Kind___init__ 0 [("size" : Str), ("name" : Str)] (0 :: [1, 0].map (· + 1)))
    (h__law_wait : FnG P w K mg base "_law_wait" 3 n__law_wait (spP K cl m__law_wait))
    (hk_wait_0_other_one_kind : FnK P w K mg base "wait" 5 n_wait (spP K cl m_wait) 0 [("other" : Str), ("one" : Str), ("kind" : Str)] [2, 1, 0])
    (h_wait : FnG P w K mg base "wait" 5 n_wait (spP K cl m_wait)) : Body P w K cl mg base N__law_kind_right (defScope s__law_kind_right) 5 (defBody s__law_kind_right) mb__law_kind_right := by
  intro X h1 h2 h3 h4 h5 C
  subst h1 h2 h3 h4 h5
  exact (ss_cons (s_set (C.l (i := 2) (by decide +kernel) rfl) (ef_ev (ev_make h_Kind___init__ C.rm (C.g (x := "Kind") (by decide +kernel)) (ea_cons (ev_ix (ev_v (C.v (i := 0) (by decide +kernel) rfl)) ev_int (fun _ _ => rfl)) (ea_cons (ev_ix (ev_v (C.v (i := 0) (by decide +kernel) rfl)) ev_int (fun _ _ => rfl)) ea_nil)) (by decide +kernel))))
    (ss_cons (s_if (eft_et (et_pw (ew_or (et_cmp (op_neD C.un) rc_ne (ev_meth0 h_Kind_name C.rm (ev_v (C.v (i := 2) (by decide +kernel) rfl))) (ev_ix (ev_v (C.v (i := 0) (by decide +kernel) rfl)) ev_int (fun _ _ => rfl)) (nomark _)) (ew_or (et_cmp (op_neD C.un) rc_ne (ev_meth0 h_Kind_size C.rm (ev_v (C.v (i := 2) (by decide +kernel) rfl))) (ev_ix (ev_v (C.v (i := 0) (by decide +kernel) rfl)) ev_int (fun _ _ => rfl)) (nomark _)) (ew_or (et_cmp (op_neD C.un) rc_ne (ev_meth0 h_Kind_steps C.rm (ev_v (C.v (i := 2) (by decide +kernel) rfl))) (ev_call h__law_many C.rm (C.g (x := "_law_many") (by decide +kernel)) (ea_cons (ev_v (C.v (i := 0) (by decide +kernel) rfl)) ea_nil) (by decide +kernel)) (nomark _)) (ew_or1 (et_cmp (op_neD C.un) rc_ne (ev_of_eo (eo_meth0 h_Kind_start C.rm (ev_v (C.v (i := 2) (by decide +kernel) rfl)))) (ev_of_eo (eo_call h__law_start C.rm (C.g (x := "_law_start") (by decide +kernel)) (ea_cons (ev_v (C.v (i := 0) (by decide +kernel) rfl)) ea_nil) (by decide +kernel))) (nomark _)))))))) (ss_one (s_ret ev_bl)) ss_nil)
    (ss_cons (s_appN (eo_meth0 h_Kind_start C.rm (ev_v (C.v (i := 2) (by decide +kernel) rfl))) ev_int (fun _ _ po pe => pe_bm PySem.F.plainAttrs_list PySem.F.slot_list_append PySem.F.type_list_append mt_append po (pa_cons pe pa_nil)))
    (ss_cons (s_if (eft_et (et_pw (ew_or (et_cmp (op_neD C.un) rc_ne (ev_of_eo (eo_meth0 h_Kind_start C.rm (ev_v (C.v (i := 2) (by decide +kernel) rfl)))) (ev_of_eo (eo_call h__law_start C.rm (C.g (x := "_law_start") (by decide +kernel)) (ea_cons (ev_v (C.v (i := 0) (by decide +kernel) rfl)) ea_nil) (by decide +kernel))) (nomark _)) (ew_or (et_cmp op_notD rc_notis (ev_cmp (op_eqO Q.g h_Kind___eq__ C.rm) rc_eqO (ev_makeK0 (is := [1, 0]) hq_Kind_size_name C.rm (C.g (x := "Kind") (by decide +kernel)) (ek_cons (ev_ix (ev_v (C.v (i := 0) (by decide +kernel) rfl)) ev_int (fun _ _ => rfl)) (ek_cons (ev_ix (ev_v (C.v (i := 0) (by decide +kernel) rfl)) ev_int (fun _ _ => rfl)) ek_nil)) (by decide +kernel)) (ev_v (C.v (i := 2) (by decide +kernel) rfl)) (nomark _)) ev_bl (nomark _)) (ew_or1 (et_cmp op_notD rc_notis (ev_cmp (op_eqO Q.g h_Kind___eq__ C.rm) rc_eqO (ev_v (C.v (i := 2) (by decide +kernel) rfl)) (ev_v (C.v (i := 0) (by decide +kernel) rfl)) (nomark _)) ev_bl (nomark _))))))) (ss_one (s_ret ev_bl)) ss_nil)
    (ss_cons (s_for C.xe C.calm (efi_ei (ei_rg1 (C.g (x := "range") (by decide +kernel)) B.range_ (ev_call h__law_many C.rm (C.g (x := "_law_many") (by decide +kernel)) (ea_cons (ev_v (C.v (i := 0) (by decide +kernel) rfl)) ea_nil) (by decide +kernel)))) (st_name (C.l (i := 3) (by decide +kernel) rfl)) (ss_one (s_for C.xe C.calm (efi_ei (ei_rg1 (C.g (x := "range") (by decide +kernel)) B.range_ (ev_call h__law_many C.rm (C.g (x := "_law_many") (by decide +kernel)) (ea_cons (ev_v (C.v (i := 0) (by decide +kernel) rfl)) ea_nil) (by decide +kernel)))) (st_name (C.l (i := 4) (by decide +kernel) rfl)) (ss_one (s_if (eft_et (et_cmp (op_neD C.un) rc_ne (ev_v (C.v (i := 3) (by decide +kernel) rfl)) (ev_v (C.v (i := 4) (by decide +kernel) rfl)) (nomark _))) (ss_cons (s_set (C.l (i := 5) (by decide +kernel) rfl) (ef_ev (ev_call h__law_wait C.rm (C.g (x := "_law_wait") (by decide +kernel)) (ea_cons (ev_v (C.v (i := 0) (by decide +kernel) rfl)) (ea_cons (ev_v (C.v (i := 1) (by decide +kernel) rfl)) (ea_cons (ev_v (C.v (i := 3) (by decide +kernel) rfl)) (ea_cons (ev_v (C.v (i := 4) (by decide +kernel) rfl)) ea_nil)))) (by decide +kernel))))
    (ss_one (s_if (eft_et (et_pw (ew_or (et_cmp (op_neD C.un) rc_ne (ev_fl fl_repr (ev_B call_reprD rdl_repr (C.g (x := "repr") (by decide +kernel)) (B.repr_) (by decide +kernel) (ea_cons (ev_call h_wait C.rm (C.g (x := "wait") (by decide +kernel)) (ea_cons (ev_v (C.v (i := 2) (by decide +kernel) rfl)) (ea_cons (ev_v (C.v (i := 3) (by decide +kernel) rfl)) (ea_cons (ev_v (C.v (i := 4) (by decide +kernel) rfl)) ea_nil))) (by decide +kernel)) ea_nil) (by decide +kernel) (by decide +kernel))) (ev_fl fl_repr (ev_B call_reprD rdl_repr (C.g (x := "repr") (by decide +kernel)) (B.repr_) (by decide +kernel) (ea_cons (ev_v (C.v (i := 5) (by decide +kernel) rfl)) ea_nil) (by decide +kernel) (by decide +kernel))) (nomark _)) (ew_or1 (et_cmp (op_neD C.un) rc_ne (ev_fl fl_repr (ev_B call_reprD rdl_repr (C.g (x := "repr") (by decide +kernel)) (B.repr_) (by decide +kernel) (ea_cons (ev_callK0 hk_wait_0_other_one_kind C.rm (C.g (x := "wait") (by decide +kernel)) (ek_cons (ev_v (C.v (i := 4) (by decide +kernel) rfl)) (ek_cons (ev_v (C.v (i := 3) (by decide +kernel) rfl)) (ek_cons (ev_v (C.v (i := 2) (by decide +kernel) rfl)) ek_nil))) (by decide +kernel)) ea_nil) (by decide +kernel) (by decide +kernel))) (ev_fl fl_repr (ev_B call_reprD rdl_repr (C.g (x := "repr") (by decide +kernel)) (B.repr_) (by decide +kernel) (ea_cons (ev_v (C.v (i := 5) (by decide +kernel) rfl)) ea_nil) (by decide +kernel) (by decide +kernel))) (nomark _)))))) (ss_one (s_ret ev_bl)) ss_nil))) ss_nil)))))
    (ss_one (s_ret ev_bl)))))))
theorem fo__law_kind_right (B : Bs mg) (Q : KG w K cl mg)
    (h_Kind___init__ : MkG P w K cl mg base "Kind" 4 n_Kind___init__ m_Kind___init__)
    (h_Kind_start : MethG P w K mg base (cl "Kind") "start" 1 n_Kind_start (spO K cl m_Kind_start))
    (h__law_start : FnG P w K mg base "_law_start" 1 n__law_start (spO K cl m__law_start))
    (h_Kind_steps : MethG P w K mg base (cl "Kind") "steps" 1 n_Kind_steps (spP K cl m_Kind_steps))
    (h__law_many : FnG P w K mg base "_law_many" 1 n__law_many (spP K cl m__law_many))
    (h_Kind_size : MethG P w K mg base (cl "Kind") "size" 1 n_Kind_size (spP K cl m_Kind_size))
    (h_Kind_name : MethG P w K mg base (cl "Kind") "name" 1 n_Kind_name (spP K cl m_Kind_name))
    (h_Kind___eq__ : EqG P w K mg base (cl "Kind") 1 n_Kind___eq__ (spP K cl m_Kind___eq__))
    (hq_Kind_size_name : MkK P w K cl mg base "Kind" 4 n_Kind___init__ m_Kind___init__ 0 [("size" : Str), ("name" : Str)] (0 :: [1, 0].map (· + 1)))
    (h__law_wait : FnG P w K mg base "_law_wait" 3 n__law_wait (spP K cl m__law_wait))
    (hk_wait_0_other_one_kind : FnK P w K mg base "wait" 5 n_wait (spP K cl m_wait) 0 [("other" : Str), ("one" : Str), ("kind" : Str)] [2, 1, 0])
    (h_wait : FnG P w K mg base "wait" 5 n_wait (spP K cl m_wait)) {f : Addr} {fd : FuncData} (F : FunD K "_law_kind_right" "_law_kind_right" (defArgs s__law_kind_right) (defBody s__law_kind_right) (defScope s__law_kind_right) [] [] f fd) : FnOk P w K mg base CX0 6 f fd n__law_kind_right (spP K cl m__law_kind_right) := fn_P F sc__law_kind_right (cl := cl) (bd__law_kind_right B Q h_Kind___init__ h_Kind_start h__law_start h_Kind_steps h__law_many h_Kind_size h_Kind_name h_Kind___eq__ hq_Kind_size_name h__law_wait hk_wait_0_other_one_kind h_wait)
theorem ok__law_kind_right (B : Bs mg) (Q : KG w K cl mg)
    (h_Kind___init__ : MkG P w K cl mg base "Kind" 4 n_Kind___init__ m_Kind___init__)
    (h_Kind_start : MethG P w K mg base (cl "Kind") "start" 1 n_Kind_start (spO K cl m_Kind_start))
    (h__law_start : FnG P w K mg base "_law_start" 1 n__law_start (spO K cl m__law_start))
    (h_Kind_steps : MethG P w K mg base (cl "Kind") "steps" 1 n_Kind_steps (spP K cl m_Kind_steps))
    (h__law_many : FnG P w K mg base "_law_many" 1 n__law_many (spP K cl m__law_many))
    (h_Kind_size : MethG P w K mg base (cl "Kind") "size" 1 n_Kind_size (spP K cl m_Kind_size))
    (h_Kind_name : MethG P w K mg base (cl "Kind") "name" 1 n_Kind_name (spP K cl m_Kind_name))
    (h_Kind___eq__ : EqG P w K mg base (cl "Kind") 1 n_Kind___eq__ (spP K cl m_Kind___eq__))
    (hq_Kind_size_name : MkK P w K cl mg base "Kind" 4 n_Kind___init__ m_Kind___init__ 0 [("size" : Str), ("name" : Str)] (0 :: [1, 0].map (· + 1)))
    (h__law_wait : FnG P w K mg base "_law_wait" 3 n__law_wait (spP K cl m__law_wait))
    (hk_wait_0_other_one_kind : FnK P w K mg base "wait" 5 n_wait (spP K cl m_wait) 0 [("other" : Str), ("one" : Str), ("kind" : Str)] [2, 1, 0])
    (h_wait : FnG P w K mg base "wait" 5 n_wait (spP K cl m_wait)) {f : Addr} {fd : FuncData} (F : FunD K "_law_kind_right" "_law_kind_right" (defArgs s__law_kind_right) (defBody s__law_kind_right) (defScope s__law_kind_right) [] [] f fd) (hm : mg "_law_kind_right" = some (.ref f)) : FnG P w K mg base "_law_kind_right" 6 n__law_kind_right (spP K cl m__law_kind_right) :=
  ⟨⟨f, fd, fo__law_kind_right B Q h_Kind___init__ h_Kind_start h__law_start h_Kind_steps h__law_many h_Kind_size h_Kind_name h_Kind___eq__ hq_Kind_size_name h__law_wait hk_wait_0_other_one_kind h_wait F, hm, F.kp, F.bindsN fun _ _ _ _ _ _ us hl => match us, hl with | [_, _], _ => rfl⟩⟩
abbrev s__law_hash : Stmt := (top 15)
abbrev n__law_hash : List Str := [("_law_seed" : Str), ("_law_index" : Str)]
abbrev N__law_hash : List Str := [("_law_seed" : Str), ("_law_index" : Str), ("_law_mixed" : Str)]
theorem sc__law_hash : FnScope N__law_hash n__law_hash (defScope s__law_hash) := ⟨rfl, rfl, rfl, by decide +kernel, rfl, by decide +kernel, by decide +kernel⟩
theorem bd__law_hash (B : Bs mg) (Q : KG w K cl mg) : Body P w K cl mg base N__law_hash (defScope s__law_hash) 0 (defBody s__law_hash) mb__law_hash := by
  intro X h1 h2 h3 h4 h5 C
  subst h1 h2 h3 h4 h5
  exact (ss_cons (s_set (C.l (i := 2) (by decide +kernel) rfl) (ef_ev (ev_bin op_mod rd_mod (ev_fl fl_int (ev_Ty call_int1 rdl_int (C.g (x := "int") (by decide +kernel)) (B.int_) (by decide +kernel) (ea_cons (ev_bin op_addD rd_add (ev_bin op_addD rd_add (ev_bin op_addD rd_add (ev_bin op_mulD rd_mul (ev_v (C.v (i := 0) (by decide +kernel) rfl)) ev_int) (ev_bin op_mulD rd_mul (ev_bin op_mulD rd_mul ev_int (ev_v (C.v (i := 1) (by decide +kernel) rfl))) (ev_v (C.v (i := 1) (by decide +kernel) rfl)))) (ev_bin op_mulD rd_mul ev_int (ev_v (C.v (i := 1) (by decide +kernel) rfl)))) ev_int) ea_nil) (by decide +kernel) (by decide +kernel))) ev_int)))
    (ss_cons (s_set (C.l (i := 2) (by decide +kernel) rfl) (ef_ev (ev_bin op_mod rd_mod (ev_fl fl_int (ev_Ty call_int1 rdl_int (C.g (x := "int") (by decide +kernel)) (B.int_) (by decide +kernel) (ea_cons (ev_bin op_addD rd_add (ev_bin op_addD rd_add (ev_bin op_mulD rd_mul (ev_v (C.v (i := 2) (by decide +kernel) rfl)) (ev_v (C.v (i := 2) (by decide +kernel) rfl))) (ev_bin op_mulD rd_mul ev_int (ev_v (C.v (i := 1) (by decide +kernel) rfl)))) ev_int) ea_nil) (by decide +kernel) (by decide +kernel))) ev_int)))
    (ss_one (s_ret (ev_bin op_mod rd_mod (ev_fl fl_int (ev_Ty call_int1 rdl_int (C.g (x := "int") (by decide +kernel)) (B.int_) (by decide +kernel) (ea_cons (ev_bin op_mulD rd_mul (ev_v (C.v (i := 2) (by decide +kernel) rfl)) ev_int) ea_nil) (by decide +kernel) (by decide +kernel))) ev_int)))))
theorem fo__law_hash (B : Bs mg) (Q : KG w K cl mg) {f : Addr} {fd : FuncData} (F : FunD K "_law_hash" "_law_hash" (defArgs s__law_hash) (defBody s__law_hash) (defScope s__law_hash) [] [] f fd) : FnOk P w K mg base CX0 1 f fd n__law_hash (spP K cl m__law_hash) := fn_P F sc__law_hash (cl := cl) (bd__law_hash B Q )
theorem ok__law_hash (B : Bs mg) (Q : KG w K cl mg) {f : Addr} {fd : FuncData} (F : FunD K "_law_hash" "_law_hash" (defArgs s__law_hash) (defBody s__law_hash) (defScope s__law_hash) [] [] f fd) (hm : mg "_law_hash" = some (.ref f)) : FnG P w K mg base "_law_hash" 1 n__law_hash (spP K cl m__law_hash) :=
  ⟨⟨f, fd, fo__law_hash B Q  F, hm, F.kp, F.bindsN fun _ _ _ _ _ _ us hl => match us, hl with | [_, _], _ => rfl⟩⟩
abbrev s__law_random : Stmt := (top 16)
abbrev n__law_random : List Str := [("_law_generator_here" : Str), ("_law_bound" : Str)]
abbrev N__law_random : List Str := [("_law_generator_here" : Str), ("_law_bound" : Str), ("_law_drawn" : Str), ("_law_turn" : Str)]
theorem sc__law_random : FnScope N__law_random n__law_random (defScope s__law_random) := ⟨rfl, rfl, rfl, by decide +kernel, rfl, by decide +kernel, by decide +kernel⟩
theorem bd__law_random (B : Bs mg) (Q : KG w K cl mg)
    (h__law_hash : FnG P w K mg base "_law_hash" 1 n__law_hash (spP K cl m__law_hash)) : Body P w K cl mg base N__law_random (defScope s__law_random) 1 (defBody s__law_random) mb__law_random := by
  intro X h1 h2 h3 h4 h5 C
  subst h1 h2 h3 h4 h5
  exact (ss_cons (s_if (eft_et (et_cmp op_gt rc_gt (ev_ixo (C.v (i := 0) (by decide +kernel) rfl) ev_int (fun _ _ => rfl)) ev_int (nomark _))) (ss_cons (s_set (C.l (i := 2) (by decide +kernel) rfl) (ef_ev (ev_bin op_mod rd_mod (ev_fl fl_int (ev_Ty call_int1 rdl_int (C.g (x := "int") (by decide +kernel)) (B.int_) (by decide +kernel) (ea_cons (ev_ixo (C.v (i := 0) (by decide +kernel) rfl) ev_int (fun _ _ => rfl)) ea_nil) (by decide +kernel) (by decide +kernel))) (ev_v (C.v (i := 1) (by decide +kernel) rfl)))))
    (ss_cons (s_asg (ef_ev (ev_bin op_fdivW rd_fdiv (ev_ixo (C.v (i := 0) (by decide +kernel) rfl) ev_int (fun _ _ => rfl)) (ev_v (C.v (i := 1) (by decide +kernel) rfl)))) (st_sub (C.v (i := 0) (by decide +kernel) rfl) ev_int))
    (ss_one (s_ret (ev_v (C.v (i := 2) (by decide +kernel) rfl)))))) ss_nil)
    (ss_cons (s_set (C.l (i := 2) (by decide +kernel) rfl) (ef_ev ev_int))
    (ss_cons (s_for C.xe C.calm (efi_ei (ei_rg1 (C.g (x := "range") (by decide +kernel)) B.range_ (ev_bin op_addD rd_add ev_int (ev_bin op_fdivW rd_fdiv (ev_bits (ev_v (C.v (i := 1) (by decide +kernel) rfl))) ev_int)))) (st_name (C.l (i := 3) (by decide +kernel) rfl)) (ss_cons (s_asg (ef_ev (ev_bin op_addD rd_add (ev_ixo (C.v (i := 0) (by decide +kernel) rfl) ev_int (fun _ _ => rfl)) ev_int)) (st_sub (C.v (i := 0) (by decide +kernel) rfl) ev_int))
    (ss_one (s_set (C.l (i := 2) (by decide +kernel) rfl) (ef_ev (ev_bin op_addD rd_add (ev_bin op_mulD rd_mul (ev_v (C.v (i := 2) (by decide +kernel) rfl)) ev_int) (ev_call h__law_hash C.rm (C.g (x := "_law_hash") (by decide +kernel)) (ea_cons (ev_ixo (C.v (i := 0) (by decide +kernel) rfl) ev_int (fun _ _ => rfl)) (ea_cons (ev_ixo (C.v (i := 0) (by decide +kernel) rfl) ev_int (fun _ _ => rfl)) ea_nil)) (by decide +kernel))))))))
    (ss_one (s_ret (ev_bin op_mod rd_mod (ev_fl fl_int (ev_Ty call_int1 rdl_int (C.g (x := "int") (by decide +kernel)) (B.int_) (by decide +kernel) (ea_cons (ev_v (C.v (i := 2) (by decide +kernel) rfl)) ea_nil) (by decide +kernel) (by decide +kernel))) (ev_v (C.v (i := 1) (by decide +kernel) rfl))))))))
theorem fo__law_random (B : Bs mg) (Q : KG w K cl mg)
    (h__law_hash : FnG P w K mg base "_law_hash" 1 n__law_hash (spP K cl m__law_hash)) {f : Addr} {fd : FuncData} (F : FunD K "_law_random" "_law_random" (defArgs s__law_random) (defBody s__law_random) (defScope s__law_random) [] [] f fd) : FnOk P w K mg base CX0 2 f fd n__law_random (spF K cl m__law_random) := fn_F F sc__law_random (cl := cl) (by decide) (by decide) (bd__law_random B Q h__law_hash)
theorem ok__law_random (B : Bs mg) (Q : KG w K cl mg)
    (h__law_hash : FnG P w K mg base "_law_hash" 1 n__law_hash (spP K cl m__law_hash)) {f : Addr} {fd : FuncData} (F : FunD K "_law_random" "_law_random" (defArgs s__law_random) (defBody s__law_random) (defScope s__law_random) [] [] f fd) (hm : mg "_law_random" = some (.ref f)) : FnG P w K mg base "_law_random" 2 n__law_random (spF K cl m__law_random) :=
  ⟨⟨f, fd, fo__law_random B Q h__law_hash F, hm, F.kp, F.bindsN fun _ _ _ _ _ _ us hl => match us, hl with | [_, _], _ => rfl⟩⟩
abbrev s__law_kind : Stmt := (top 19)
abbrev n__law_kind : List Str := [("_law_generator_here" : Str)]
abbrev N__law_kind : List Str := [("_law_generator_here" : Str), ("_law_name" : Str), ("_law_size" : Str), ("_law_great" : Str), ("_law_chosen" : Str)]
theorem sc__law_kind : FnScope N__law_kind n__law_kind (defScope s__law_kind) := ⟨rfl, rfl, rfl, by decide +kernel, rfl, by decide +kernel, by decide +kernel⟩
theorem bd__law_kind (B : Bs mg) (Q : KG w K cl mg)
    (h__law_random : FnG P w K mg base "_law_random" 2 n__law_random (spF K cl m__law_random)) : Body P w K cl mg base N__law_kind (defScope s__law_kind) 2 (defBody s__law_kind) mb__law_kind := by
  intro X h1 h2 h3 h4 h5 C
  subst h1 h2 h3 h4 h5
  exact (ss_cons (s_set (C.l (i := 1) (by decide +kernel) rfl) (ef_ix (ef_ev (ev_of_eo (eo_lst (ea_cons ev_str (ea_cons ev_str (ea_cons ev_str ea_nil)))))) (ef_callF h__law_random C.rm (C.g (x := "_law_random") (by decide +kernel)) (C.v (i := 0) (by decide +kernel) rfl) (efa_ea (ea_cons ev_int ea_nil)) (by decide +kernel)) (fun _ _ => rfl)))
    (ss_cons (s_set (C.l (i := 2) (by decide +kernel) rfl) (ef_lst (efa_cons (ef_bin op_addD rd_add (ef_ev ev_int) (ef_callF h__law_random C.rm (C.g (x := "_law_random") (by decide +kernel)) (C.v (i := 0) (by decide +kernel) rfl) (efa_ea (ea_cons ev_int ea_nil)) (by decide +kernel))) (efa_cons (ef_bin op_addD rd_add (ef_ev ev_int) (ef_callF h__law_random C.rm (C.g (x := "_law_random") (by decide +kernel)) (C.v (i := 0) (by decide +kernel) rfl) (efa_ea (ea_cons ev_int ea_nil)) (by decide +kernel))) (efa_cons (ef_bin op_addD rd_add (ef_ev ev_int) (ef_callF h__law_random C.rm (C.g (x := "_law_random") (by decide +kernel)) (C.v (i := 0) (by decide +kernel) rfl) (efa_ea (ea_cons ev_int ea_nil)) (by decide +kernel))) (efa_ea ea_nil))))))
    (ss_cons (s_set (C.l (i := 3) (by decide +kernel) rfl) (ef_lst (efa_cons (ef_bin op_addD rd_add (ef_ev ev_int) (ef_callF h__law_random C.rm (C.g (x := "_law_random") (by decide +kernel)) (C.v (i := 0) (by decide +kernel) rfl) (efa_ea (ea_cons ev_int ea_nil)) (by decide +kernel))) (efa_ea (ea_cons ev_int (ea_cons ev_int ea_nil))))))
    (ss_cons (s_set (C.l (i := 4) (by decide +kernel) rfl) (ef_if (eft_cmp (op_eqD C.un) rc_eq (ef_callF h__law_random C.rm (C.g (x := "_law_random") (by decide +kernel)) (C.v (i := 0) (by decide +kernel) rfl) (efa_ea (ea_cons ev_int ea_nil)) (by decide +kernel)) (ef_ev ev_int) (nomark _)) (ef_ev (ev_v (C.v (i := 3) (by decide +kernel) rfl))) (ef_ev (ev_v (C.v (i := 2) (by decide +kernel) rfl)))))
    (ss_one (s_ret (ev_tup (ea_cons (ev_v (C.v (i := 1) (by decide +kernel) rfl)) (ea_cons (ev_ix (ev_v (C.v (i := 4) (by decide +kernel) rfl)) (ev_index (ev_of_eo (eo_lst (ea_cons ev_str (ea_cons ev_str (ea_cons ev_str ea_nil))))) (ev_v (C.v (i := 1) (by decide +kernel) rfl)) (fun _ _ pa pb => pe_bm PySem.F.plainAttrs_list PySem.F.slot_list_index PySem.F.type_list_index mt_index pa (pa_cons pb pa_nil))) (fun _ _ => rfl)) ea_nil)))))))))
theorem fo__law_kind (B : Bs mg) (Q : KG w K cl mg)
    (h__law_random : FnG P w K mg base "_law_random" 2 n__law_random (spF K cl m__law_random)) {f : Addr} {fd : FuncData} (F : FunD K "_law_kind" "_law_kind" (defArgs s__law_kind) (defBody s__law_kind) (defScope s__law_kind) [] [] f fd) : FnOk P w K mg base CX0 3 f fd n__law_kind (spF K cl m__law_kind) := fn_F F sc__law_kind (cl := cl) (by decide) (by decide) (bd__law_kind B Q h__law_random)
theorem ok__law_kind (B : Bs mg) (Q : KG w K cl mg)
    (h__law_random : FnG P w K mg base "_law_random" 2 n__law_random (spF K cl m__law_random)) {f : Addr} {fd : FuncData} (F : FunD K "_law_kind" "_law_kind" (defArgs s__law_kind) (defBody s__law_kind) (defScope s__law_kind) [] [] f fd) (hm : mg "_law_kind" = some (.ref f)) : FnG P w K mg base "_law_kind" 3 n__law_kind (spF K cl m__law_kind) :=
  ⟨⟨f, fd, fo__law_kind B Q h__law_random F, hm, F.kp, F.bindsN fun _ _ _ _ _ _ us hl => match us, hl with | [_], _ => rfl⟩⟩
abbrev s__law_row : Stmt := (top 26)
abbrev n__law_row : List Str := [("_law_generator_here" : Str), ("_law_told" : Str), ("_law_most" : Str)]
abbrev N__law_row : List Str := [("_law_generator_here" : Str), ("_law_told" : Str), ("_law_most" : Str), ("_law_turn" : Str)]
theorem sc__law_row : FnScope N__law_row n__law_row (defScope s__law_row) := ⟨rfl, rfl, rfl, by decide +kernel, rfl, by decide +kernel, by decide +kernel⟩
theorem bd__law_row (B : Bs mg) (Q : KG w K cl mg)
    (h__law_many : FnG P w K mg base "_law_many" 1 n__law_many (spP K cl m__law_many))
    (h__law_random : FnG P w K mg base "_law_random" 2 n__law_random (spF K cl m__law_random)) : Body P w K cl mg base N__law_row (defScope s__law_row) 2 (defBody s__law_row) mb__law_row := by
  intro X h1 h2 h3 h4 h5 C
  subst h1 h2 h3 h4 h5
  exact (ss_cons (s_if (eft_et (et_cmp (op_eqD C.un) rc_eq (ev_call h__law_many C.rm (C.g (x := "_law_many") (by decide +kernel)) (ea_cons (ev_v (C.v (i := 1) (by decide +kernel) rfl)) ea_nil) (by decide +kernel)) ev_int (nomark _))) (ss_one (s_ret (ev_of_eo (eo_lst ea_nil)))) ss_nil)
    (ss_one (s_retF (ef_lc (own := [("_law_turn", 3)]) C.calm C.nd (efi_rg1 (C.g (x := "range") (by decide +kernel)) B.range_ (ef_callF h__law_random C.rm (C.g (x := "_law_random") (by decide +kernel)) (C.v (i := 0) (by decide +kernel) rfl) (efa_ea (ea_cons (ev_bin op_addD rd_add (ev_v (C.v (i := 2) (by decide +kernel) rfl)) ev_int) ea_nil)) (by decide +kernel))) (CXo.blkOk C (by decide +kernel)) (by decide) (fun s_ H_ C_ c_ fp_ => (gt_one ((CXo.blk C rfl s_ H_ C_ c_ fp_).l (i := 3) (by decide +kernel) rfl))) (fun s_ H_ C_ c_ fp_ => (ef_callF h__law_random (CXo.blk C rfl s_ H_ C_ c_ fp_).rm ((CXo.blk C rfl s_ H_ C_ c_ fp_).g (x := "_law_random") (by decide +kernel)) ((CXo.blk C rfl s_ H_ C_ c_ fp_).v (i := 0) (by decide +kernel) rfl) (efa_ea (ea_cons (ev_call h__law_many (CXo.blk C rfl s_ H_ C_ c_ fp_).rm ((CXo.blk C rfl s_ H_ C_ c_ fp_).g (x := "_law_many") (by decide +kernel)) (ea_cons (ev_v ((CXo.blk C rfl s_ H_ C_ c_ fp_).v (i := 1) (by decide +kernel) rfl)) ea_nil) (by decide +kernel)) ea_nil)) (by decide +kernel)))))))
theorem fo__law_row (B : Bs mg) (Q : KG w K cl mg)
    (h__law_many : FnG P w K mg base "_law_many" 1 n__law_many (spP K cl m__law_many))
    (h__law_random : FnG P w K mg base "_law_random" 2 n__law_random (spF K cl m__law_random)) {f : Addr} {fd : FuncData} (F : FunD K "_law_row" "_law_row" (defArgs s__law_row) (defBody s__law_row) (defScope s__law_row) [] [] f fd) : FnOk P w K mg base CX0 3 f fd n__law_row (spF K cl m__law_row) := fn_F F sc__law_row (cl := cl) (by decide) (by decide) (bd__law_row B Q h__law_many h__law_random)
theorem ok__law_row (B : Bs mg) (Q : KG w K cl mg)
    (h__law_many : FnG P w K mg base "_law_many" 1 n__law_many (spP K cl m__law_many))
    (h__law_random : FnG P w K mg base "_law_random" 2 n__law_random (spF K cl m__law_random)) {f : Addr} {fd : FuncData} (F : FunD K "_law_row" "_law_row" (defArgs s__law_row) (defBody s__law_row) (defScope s__law_row) [] [] f fd) (hm : mg "_law_row" = some (.ref f)) : FnG P w K mg base "_law_row" 3 n__law_row (spF K cl m__law_row) :=
  ⟨⟨f, fd, fo__law_row B Q h__law_many h__law_random F, hm, F.kp, F.bindsN fun _ _ _ _ _ _ us hl => match us, hl with | [_, _, _], _ => rfl⟩⟩
abbrev s__law_is_crossed : Stmt := (top 25)
abbrev n__law_is_crossed : List Str := [("_law_told" : Str), ("_law_order_here" : Str), ("_law_step" : Str)]
abbrev N__law_is_crossed : List Str := [("_law_told" : Str), ("_law_order_here" : Str), ("_law_step" : Str), ("_law_low" : Str)]
theorem sc__law_is_crossed : FnScope N__law_is_crossed n__law_is_crossed (defScope s__law_is_crossed) := ⟨rfl, rfl, rfl, by decide +kernel, rfl, by decide +kernel, by decide +kernel⟩
theorem bd__law_is_crossed (B : Bs mg) (Q : KG w K cl mg)
    (h__law_item : FnG P w K mg base "_law_item" 1 n__law_item (spP K cl m__law_item))
    (h__law_turned : FnG P w K mg base "_law_turned" 1 n__law_turned (spP K cl m__law_turned)) : Body P w K cl mg base N__law_is_crossed (defScope s__law_is_crossed) 1 (defBody s__law_is_crossed) mb__law_is_crossed := by
  intro X h1 h2 h3 h4 h5 C
  subst h1 h2 h3 h4 h5
  exact (ss_cons (s_set (C.l (i := 3) (by decide +kernel) rfl) (ef_ev (ev_if (et_cmp (op_neD C.un) rc_ne (ev_ix (ev_v (C.v (i := 0) (by decide +kernel) rfl)) ev_int (fun _ _ => rfl)) ev_str (nomark _)) (ev_v (C.v (i := 2) (by decide +kernel) rfl)) (ev_if (et_cmp op_gt rc_gt (ev_v (C.v (i := 2) (by decide +kernel) rfl)) ev_int (nomark _)) (ev_v (C.v (i := 2) (by decide +kernel) rfl)) (ev_un un_neg rd_neg ev_int)))))
    (ss_one (s_ret (ev_cmp op_gt rc_gt (ev_call h__law_item C.rm (C.g (x := "_law_item") (by decide +kernel)) (ea_cons (ev_v (C.v (i := 0) (by decide +kernel) rfl)) (ea_cons (ev_v (C.v (i := 1) (by decide +kernel) rfl)) (ea_cons (ev_v (C.v (i := 3) (by decide +kernel) rfl)) ea_nil))) (by decide +kernel)) (ev_call h__law_item C.rm (C.g (x := "_law_item") (by decide +kernel)) (ea_cons (ev_v (C.v (i := 0) (by decide +kernel) rfl)) (ea_cons (ev_v (C.v (i := 1) (by decide +kernel) rfl)) (ea_cons (ev_call h__law_turned C.rm (C.g (x := "_law_turned") (by decide +kernel)) (ea_cons (ev_v (C.v (i := 0) (by decide +kernel) rfl)) (ea_cons (ev_v (C.v (i := 2) (by decide +kernel) rfl)) (ea_cons (ev_v (C.v (i := 3) (by decide +kernel) rfl)) ea_nil))) (by decide +kernel)) ea_nil))) (by decide +kernel)) (nomark _)))))
theorem fo__law_is_crossed (B : Bs mg) (Q : KG w K cl mg)
    (h__law_item : FnG P w K mg base "_law_item" 1 n__law_item (spP K cl m__law_item))
    (h__law_turned : FnG P w K mg base "_law_turned" 1 n__law_turned (spP K cl m__law_turned)) {f : Addr} {fd : FuncData} (F : FunD K "_law_is_crossed" "_law_is_crossed" (defArgs s__law_is_crossed) (defBody s__law_is_crossed) (defScope s__law_is_crossed) [] [] f fd) : FnOk P w K mg base CX0 2 f fd n__law_is_crossed (spP K cl m__law_is_crossed) := fn_P F sc__law_is_crossed (cl := cl) (bd__law_is_crossed B Q h__law_item h__law_turned)
theorem ok__law_is_crossed (B : Bs mg) (Q : KG w K cl mg)
    (h__law_item : FnG P w K mg base "_law_item" 1 n__law_item (spP K cl m__law_item))
    (h__law_turned : FnG P w K mg base "_law_turned" 1 n__law_turned (spP K cl m__law_turned)) {f : Addr} {fd : FuncData} (F : FunD K "_law_is_crossed" "_law_is_crossed" (defArgs s__law_is_crossed) (defBody s__law_is_crossed) (defScope s__law_is_crossed) [] [] f fd) (hm : mg "_law_is_crossed" = some (.ref f)) : FnG P w K mg base "_law_is_crossed" 2 n__law_is_crossed (spP K cl m__law_is_crossed) :=
  ⟨⟨f, fd, fo__law_is_crossed B Q h__law_item h__law_turned F, hm, F.kp, F.bindsN fun _ _ _ _ _ _ us hl => match us, hl with | [_, _, _], _ => rfl⟩⟩
abbrev s__law_gained : Stmt := (top 27)
abbrev n__law_gained : List Str := [("_law_told" : Str), ("_law_order_here" : Str), ("_law_step" : Str)]
abbrev N__law_gained : List Str := [("_law_told" : Str), ("_law_order_here" : Str), ("_law_step" : Str)]
theorem sc__law_gained : FnScope N__law_gained n__law_gained (defScope s__law_gained) := ⟨rfl, rfl, rfl, by decide +kernel, rfl, by decide +kernel, by decide +kernel⟩
theorem bd__law_gained (B : Bs mg) (Q : KG w K cl mg)
    (h__law_is_crossed : FnG P w K mg base "_law_is_crossed" 2 n__law_is_crossed (spP K cl m__law_is_crossed))
    (h__law_stepped : FnG P w K mg base "_law_stepped" 2 n__law_stepped (spO K cl m__law_stepped)) : Body P w K cl mg base N__law_gained (defScope s__law_gained) 2 (defBody s__law_gained) mb__law_gained := by
  intro X h1 h2 h3 h4 h5 C
  subst h1 h2 h3 h4 h5
  exact (ss_one (s_ret (ev_if (et_val (ev_call h__law_is_crossed C.rm (C.g (x := "_law_is_crossed") (by decide +kernel)) (ea_cons (ev_v (C.v (i := 0) (by decide +kernel) rfl)) (ea_cons (ev_v (C.v (i := 1) (by decide +kernel) rfl)) (ea_cons (ev_v (C.v (i := 2) (by decide +kernel) rfl)) ea_nil))) (by decide +kernel))) (ev_v (C.v (i := 1) (by decide +kernel) rfl)) (ev_of_eo (eo_call h__law_stepped C.rm (C.g (x := "_law_stepped") (by decide +kernel)) (ea_cons (ev_v (C.v (i := 0) (by decide +kernel) rfl)) (ea_cons (ev_v (C.v (i := 1) (by decide +kernel) rfl)) (ea_cons (ev_v (C.v (i := 2) (by decide +kernel) rfl)) ea_nil))) (by decide +kernel))))))
theorem fo__law_gained (B : Bs mg) (Q : KG w K cl mg)
    (h__law_is_crossed : FnG P w K mg base "_law_is_crossed" 2 n__law_is_crossed (spP K cl m__law_is_crossed))
    (h__law_stepped : FnG P w K mg base "_law_stepped" 2 n__law_stepped (spO K cl m__law_stepped)) {f : Addr} {fd : FuncData} (F : FunD K "_law_gained" "_law_gained" (defArgs s__law_gained) (defBody s__law_gained) (defScope s__law_gained) [] [] f fd) : FnOk P w K mg base CX0 3 f fd n__law_gained (spP K cl m__law_gained) := fn_P F sc__law_gained (cl := cl) (bd__law_gained B Q h__law_is_crossed h__law_stepped)
theorem ok__law_gained (B : Bs mg) (Q : KG w K cl mg)
    (h__law_is_crossed : FnG P w K mg base "_law_is_crossed" 2 n__law_is_crossed (spP K cl m__law_is_crossed))
    (h__law_stepped : FnG P w K mg base "_law_stepped" 2 n__law_stepped (spO K cl m__law_stepped)) {f : Addr} {fd : FuncData} (F : FunD K "_law_gained" "_law_gained" (defArgs s__law_gained) (defBody s__law_gained) (defScope s__law_gained) [] [] f fd) (hm : mg "_law_gained" = some (.ref f)) : FnG P w K mg base "_law_gained" 3 n__law_gained (spP K cl m__law_gained) :=
  ⟨⟨f, fd, fo__law_gained B Q h__law_is_crossed h__law_stepped F, hm, F.kp, F.bindsN fun _ _ _ _ _ _ us hl => match us, hl with | [_, _, _], _ => rfl⟩⟩
abbrev s__law_order : Stmt := (top 28)
abbrev n__law_order : List Str := [("_law_generator_here" : Str), ("_law_told" : Str), ("_law_most" : Str)]
abbrev N__law_order : List Str := [("_law_generator_here" : Str), ("_law_told" : Str), ("_law_most" : Str), ("_law_found" : Str), ("_law_step" : Str)]
theorem sc__law_order : FnScope N__law_order n__law_order (defScope s__law_order) := ⟨rfl, rfl, rfl, by decide +kernel, rfl, by decide +kernel, by decide +kernel⟩
theorem bd__law_order (B : Bs mg) (Q : KG w K cl mg)
    (h__law_start : FnG P w K mg base "_law_start" 1 n__law_start (spO K cl m__law_start))
    (h__law_row : FnG P w K mg base "_law_row" 3 n__law_row (spF K cl m__law_row))
    (h__law_gained : FnG P w K mg base "_law_gained" 3 n__law_gained (spP K cl m__law_gained)) : Body P w K cl mg base N__law_order (defScope s__law_order) 3 (defBody s__law_order) mb__law_order := by
  intro X h1 h2 h3 h4 h5 C
  subst h1 h2 h3 h4 h5
  exact (ss_cons (s_set (C.l (i := 3) (by decide +kernel) rfl) (ef_ev (ev_of_eo (eo_call h__law_start C.rm (C.g (x := "_law_start") (by decide +kernel)) (ea_cons (ev_v (C.v (i := 1) (by decide +kernel) rfl)) ea_nil) (by decide +kernel)))))
    (ss_cons (s_for C.xe C.calm (efi_seq (ef_callF h__law_row C.rm (C.g (x := "_law_row") (by decide +kernel)) (C.v (i := 0) (by decide +kernel) rfl) (efa_ea (ea_cons (ev_v (C.v (i := 1) (by decide +kernel) rfl)) (ea_cons (ev_v (C.v (i := 2) (by decide +kernel) rfl)) ea_nil))) (by decide +kernel))) (st_name (C.l (i := 4) (by decide +kernel) rfl)) (ss_one (s_set (C.l (i := 3) (by decide +kernel) rfl) (ef_ev (ev_call h__law_gained C.rm (C.g (x := "_law_gained") (by decide +kernel)) (ea_cons (ev_v (C.v (i := 1) (by decide +kernel) rfl)) (ea_cons (ev_v (C.v (i := 3) (by decide +kernel) rfl)) (ea_cons (ev_v (C.v (i := 4) (by decide +kernel) rfl)) ea_nil))) (by decide +kernel))))))
    (ss_one (s_ret (ev_v (C.v (i := 3) (by decide +kernel) rfl))))))
theorem fo__law_order (B : Bs mg) (Q : KG w K cl mg)
    (h__law_start : FnG P w K mg base "_law_start" 1 n__law_start (spO K cl m__law_start))
    (h__law_row : FnG P w K mg base "_law_row" 3 n__law_row (spF K cl m__law_row))
    (h__law_gained : FnG P w K mg base "_law_gained" 3 n__law_gained (spP K cl m__law_gained)) {f : Addr} {fd : FuncData} (F : FunD K "_law_order" "_law_order" (defArgs s__law_order) (defBody s__law_order) (defScope s__law_order) [] [] f fd) : FnOk P w K mg base CX0 4 f fd n__law_order (spF K cl m__law_order) := fn_F F sc__law_order (cl := cl) (by decide) (by decide) (bd__law_order B Q h__law_start h__law_row h__law_gained)
theorem ok__law_order (B : Bs mg) (Q : KG w K cl mg)
    (h__law_start : FnG P w K mg base "_law_start" 1 n__law_start (spO K cl m__law_start))
    (h__law_row : FnG P w K mg base "_law_row" 3 n__law_row (spF K cl m__law_row))
    (h__law_gained : FnG P w K mg base "_law_gained" 3 n__law_gained (spP K cl m__law_gained)) {f : Addr} {fd : FuncData} (F : FunD K "_law_order" "_law_order" (defArgs s__law_order) (defBody s__law_order) (defScope s__law_order) [] [] f fd) (hm : mg "_law_order" = some (.ref f)) : FnG P w K mg base "_law_order" 4 n__law_order (spF K cl m__law_order) :=
  ⟨⟨f, fd, fo__law_order B Q h__law_start h__law_row h__law_gained F, hm, F.kp, F.bindsN fun _ _ _ _ _ _ us hl => match us, hl with | [_, _, _], _ => rfl⟩⟩
abbrev s_law : Stmt := (top 31)
abbrev n_law : List Str := [("_law_script" : Str)]
abbrev N_law : List Str := [("_law_script" : Str), ("_law_kinds" : Str), ("_law_told" : Str), ("_law_index" : Str), ("_law_generator_here" : Str), ("_law_beside" : Str), ("_law_size" : Str)]
theorem sc_law : FnScope N_law n_law (defScope s_law) := ⟨rfl, rfl, rfl, by decide +kernel, rfl, by decide +kernel, by decide +kernel⟩
theorem bd_law (B : Bs mg) (Q : KG w K cl mg)
    (h__law_kind_right : FnG P w K mg base "_law_kind_right" 6 n__law_kind_right (spP K cl m__law_kind_right))
    (h__law_start : FnG P w K mg base "_law_start" 1 n__law_start (spO K cl m__law_start))
    (h__law_generator : FnG P w K mg base "_law_generator" 2 n__law_generator (spO K cl m__law_generator))
    (h__law_kind : FnG P w K mg base "_law_kind" 3 n__law_kind (spF K cl m__law_kind))
    (h__law_order : FnG P w K mg base "_law_order" 4 n__law_order (spF K cl m__law_order))
    (h_Kind___eq__ : EqG P w K mg base (cl "Kind") 1 n_Kind___eq__ (spP K cl m_Kind___eq__))
    (h_Kind___init__ : MkG P w K cl mg base "Kind" 4 n_Kind___init__ m_Kind___init__) : Body P w K cl mg base N_law (defScope s_law) 6 (defBody s_law) mb_law := by
  intro X h1 h2 h3 h4 h5 C
  subst h1 h2 h3 h4 h5
  exact (ss_cons (s_set (C.l (i := 1) (by decide +kernel) rfl) (ef_ev (ev_of_eo (eo_bin op_cat ro_cat (ev_of_eo (eo_bin op_cat ro_cat (ev_of_eo (eo_lc (own := [("_law_size", 6)]) (fl := false) (.inl rfl) C.calm C.nd (ei_rg2 (C.g (x := "range") (by decide +kernel)) B.range_ ev_int ev_int) (CXo.blkOk C (by decide +kernel)) (by decide) (fun s_ H_ C_ c_ fp_ => (gt_one ((CXo.blk C rfl s_ H_ C_ c_ fp_).l (i := 6) (by decide +kernel) rfl))) (fun s_ H_ C_ c_ fp_ => ets_nil) (fun s_ H_ C_ c_ fp_ => (ev_tup (ea_cons ev_str (ea_cons (ev_v ((CXo.blk C rfl s_ H_ C_ c_ fp_).v (i := 6) (by decide +kernel) rfl)) ea_nil)))))) (ev_of_eo (eo_lc (own := [("_law_size", 6)]) (fl := false) (.inl rfl) C.calm C.nd (ei_rg2 (C.g (x := "range") (by decide +kernel)) B.range_ ev_int ev_int) (CXo.blkOk C (by decide +kernel)) (by decide) (fun s_ H_ C_ c_ fp_ => (gt_one ((CXo.blk C rfl s_ H_ C_ c_ fp_).l (i := 6) (by decide +kernel) rfl))) (fun s_ H_ C_ c_ fp_ => ets_nil) (fun s_ H_ C_ c_ fp_ => (ev_tup (ea_cons ev_str (ea_cons (ev_v ((CXo.blk C rfl s_ H_ C_ c_ fp_).v (i := 6) (by decide +kernel) rfl)) ea_nil)))))))) (ev_of_eo (eo_lc (own := [("_law_size", 6)]) (fl := false) (.inl rfl) C.calm C.nd (ei_rg2 (C.g (x := "range") (by decide +kernel)) B.range_ ev_int ev_int) (CXo.blkOk C (by decide +kernel)) (by decide) (fun s_ H_ C_ c_ fp_ => (gt_one ((CXo.blk C rfl s_ H_ C_ c_ fp_).l (i := 6) (by decide +kernel) rfl))) (fun s_ H_ C_ c_ fp_ => ets_nil) (fun s_ H_ C_ c_ fp_ => (ev_tup (ea_cons ev_str (ea_cons (ev_v ((CXo.blk C rfl s_ H_ C_ c_ fp_).v (i := 6) (by decide +kernel) rfl)) ea_nil))))))))))
    (ss_cons (s_for C.xe C.calm (efi_ei (ei_seq (ev_v (C.v (i := 1) (by decide +kernel) rfl)))) (st_name (C.l (i := 2) (by decide +kernel) rfl)) (ss_one (s_if (eft_et (et_not (et_val (ev_call h__law_kind_right C.rm (C.g (x := "_law_kind_right") (by decide +kernel)) (ea_cons (ev_v (C.v (i := 2) (by decide +kernel) rfl)) (ea_cons (ev_of_eo (eo_call h__law_start C.rm (C.g (x := "_law_start") (by decide +kernel)) (ea_cons (ev_v (C.v (i := 2) (by decide +kernel) rfl)) ea_nil) (by decide +kernel))) ea_nil)) (by decide +kernel))))) (ss_one (s_ret ev_bl)) ss_nil)))
    (ss_cons (s_for C.xe C.calm (efi_ei (ei_rg1 (C.g (x := "range") (by decide +kernel)) B.range_ ev_int)) (st_name (C.l (i := 3) (by decide +kernel) rfl)) (ss_cons (s_setO (C.l (i := 4) (by decide +kernel) rfl) (eo_call h__law_generator C.rm (C.g (x := "_law_generator") (by decide +kernel)) (ea_cons (ev_v (C.v (i := 0) (by decide +kernel) rfl)) (ea_cons (ev_v (C.v (i := 3) (by decide +kernel) rfl)) ea_nil)) (by decide +kernel)))
    (ss_cons (s_par C.calm (C.l (i := 2) (by decide +kernel) rfl) (C.l (i := 5) (by decide +kernel) rfl) (by decide) (C.p (i := 2) (by decide +kernel) rfl) (C.p (i := 5) (by decide +kernel) rfl) (em_val (ef_callF h__law_kind C.rm (C.g (x := "_law_kind") (by decide +kernel)) (C.v (i := 4) (by decide +kernel) rfl) (efa_ea ea_nil) (by decide +kernel)) (em_val (ef_callF h__law_kind C.rm (C.g (x := "_law_kind") (by decide +kernel)) (C.v (i := 4) (by decide +kernel) rfl) (efa_ea ea_nil) (by decide +kernel)) em_nil)) (swapped2 C.sc.kind (C.p (i := 2) (by decide +kernel) rfl) (C.p (i := 5) (by decide +kernel) rfl) (by decide +kernel) rfl ⟨rfl, rfl⟩ rfl rfl))
    (ss_cons (s_if (eft_not (eft_val (ef_call h__law_kind_right C.rm (C.g (x := "_law_kind_right") (by decide +kernel)) (efa_cons (ef_ev (ev_v (C.v (i := 2) (by decide +kernel) rfl))) (efa_cons (ef_callF h__law_order C.rm (C.g (x := "_law_order") (by decide +kernel)) (C.v (i := 4) (by decide +kernel) rfl) (efa_ea (ea_cons (ev_v (C.v (i := 2) (by decide +kernel) rfl)) (ea_cons ev_int ea_nil))) (by decide +kernel)) (efa_ea ea_nil))) (by decide +kernel)))) (ss_one (s_ret ev_bl)) ss_nil)
    (ss_one (s_if (eft_et (et_cmp (op_neD C.un) rc_ne (ev_cmp (op_eqO Q.g h_Kind___eq__ C.rm) rc_eqO (ev_make h_Kind___init__ C.rm (C.g (x := "Kind") (by decide +kernel)) (ea_cons (ev_ix (ev_v (C.v (i := 2) (by decide +kernel) rfl)) ev_int (fun _ _ => rfl)) (ea_cons (ev_ix (ev_v (C.v (i := 2) (by decide +kernel) rfl)) ev_int (fun _ _ => rfl)) ea_nil)) (by decide +kernel)) (ev_make h_Kind___init__ C.rm (C.g (x := "Kind") (by decide +kernel)) (ea_cons (ev_ix (ev_v (C.v (i := 5) (by decide +kernel) rfl)) ev_int (fun _ _ => rfl)) (ea_cons (ev_ix (ev_v (C.v (i := 5) (by decide +kernel) rfl)) ev_int (fun _ _ => rfl)) ea_nil)) (by decide +kernel)) (nomark _)) (ev_cmp (op_eqD C.un) rc_eq (ev_v (C.v (i := 2) (by decide +kernel) rfl)) (ev_v (C.v (i := 5) (by decide +kernel) rfl)) (nomark _)) (nomark _))) (ss_one (s_ret ev_bl)) ss_nil))))))
    (ss_one (s_ret ev_bl)))))
theorem fo_law (B : Bs mg) (Q : KG w K cl mg)
    (h__law_kind_right : FnG P w K mg base "_law_kind_right" 6 n__law_kind_right (spP K cl m__law_kind_right))
    (h__law_start : FnG P w K mg base "_law_start" 1 n__law_start (spO K cl m__law_start))
    (h__law_generator : FnG P w K mg base "_law_generator" 2 n__law_generator (spO K cl m__law_generator))
    (h__law_kind : FnG P w K mg base "_law_kind" 3 n__law_kind (spF K cl m__law_kind))
    (h__law_order : FnG P w K mg base "_law_order" 4 n__law_order (spF K cl m__law_order))
    (h_Kind___eq__ : EqG P w K mg base (cl "Kind") 1 n_Kind___eq__ (spP K cl m_Kind___eq__))
    (h_Kind___init__ : MkG P w K cl mg base "Kind" 4 n_Kind___init__ m_Kind___init__) {f : Addr} {fd : FuncData} (F : FunD K "law" "law" (defArgs s_law) (defBody s_law) (defScope s_law) [] [] f fd) : FnOk P w K mg base CX0 7 f fd n_law (spP K cl m_law) := fn_P F sc_law (cl := cl) (bd_law B Q h__law_kind_right h__law_start h__law_generator h__law_kind h__law_order h_Kind___eq__ h_Kind___init__)
theorem ok_law (B : Bs mg) (Q : KG w K cl mg)
    (h__law_kind_right : FnG P w K mg base "_law_kind_right" 6 n__law_kind_right (spP K cl m__law_kind_right))
    (h__law_start : FnG P w K mg base "_law_start" 1 n__law_start (spO K cl m__law_start))
    (h__law_generator : FnG P w K mg base "_law_generator" 2 n__law_generator (spO K cl m__law_generator))
    (h__law_kind : FnG P w K mg base "_law_kind" 3 n__law_kind (spF K cl m__law_kind))
    (h__law_order : FnG P w K mg base "_law_order" 4 n__law_order (spF K cl m__law_order))
    (h_Kind___eq__ : EqG P w K mg base (cl "Kind") 1 n_Kind___eq__ (spP K cl m_Kind___eq__))
    (h_Kind___init__ : MkG P w K cl mg base "Kind" 4 n_Kind___init__ m_Kind___init__) {f : Addr} {fd : FuncData} (F : FunD K "law" "law" (defArgs s_law) (defBody s_law) (defScope s_law) [] [] f fd) (hm : mg "law" = some (.ref f)) : FnG P w K mg base "law" 7 n_law (spP K cl m_law) :=
  ⟨⟨f, fd, fo_law B Q h__law_kind_right h__law_start h__law_generator h__law_kind h__law_order h_Kind___eq__ h_Kind___init__ F, hm, F.kp, F.bindsN fun _ _ _ _ _ _ us hl => match us, hl with | [_], _ => rfl⟩⟩
end
end k01

namespace k01
open PySem PySem.Spec PyProof.Rows L2 Lay
open Evl (Ex)
def d__law_cell : He.DefD := ⟨("_law_cell", none), "_law_cell", "_law_cell", defArgs s__law_cell, defBody s__law_cell, defScope s__law_cell, [], []⟩
def d__law_generator : He.DefD := ⟨("_law_generator", none), "_law_generator", "_law_generator", defArgs s__law_generator, defBody s__law_generator, defScope s__law_generator, [], []⟩
def d_is_whole : He.DefD := ⟨("is_whole", none), "is_whole", "is_whole", defArgs s_is_whole, defBody s_is_whole, defScope s_is_whole, [], []⟩
def d_is_between : He.DefD := ⟨("is_between", none), "is_between", "is_between", defArgs s_is_between, defBody s_is_between, defScope s_is_between, [], []⟩
def d_check_number : He.DefD := ⟨("check_number", none), "check_number", "check_number", defArgs s_check_number, defBody s_check_number, defScope s_check_number, [], []⟩
def d_Kind___init__ : He.DefD := ⟨("Kind", some "__init__"), "__init__", "Kind.__init__", defArgs s_Kind___init__, defBody s_Kind___init__, defScope s_Kind___init__, [], []⟩
def d__law_many : He.DefD := ⟨("_law_many", none), "_law_many", "_law_many", defArgs s__law_many, defBody s__law_many, defScope s__law_many, [], []⟩
def d_Kind_name : He.DefD := ⟨("Kind", some "name"), "name", "Kind.name", defArgs s_Kind_name, defBody s_Kind_name, defScope s_Kind_name, [], []⟩
def d_Kind_size : He.DefD := ⟨("Kind", some "size"), "size", "Kind.size", defArgs s_Kind_size, defBody s_Kind_size, defScope s_Kind_size, [], []⟩
def d_Kind_steps : He.DefD := ⟨("Kind", some "steps"), "steps", "Kind.steps", defArgs s_Kind_steps, defBody s_Kind_steps, defScope s_Kind_steps, [], []⟩
def d_Kind_start : He.DefD := ⟨("Kind", some "start"), "start", "Kind.start", defArgs s_Kind_start, defBody s_Kind_start, defScope s_Kind_start, [], []⟩
def d__law_start : He.DefD := ⟨("_law_start", none), "_law_start", "_law_start", defArgs s__law_start, defBody s__law_start, defScope s__law_start, [], []⟩
def d_Kind___eq__ : He.DefD := ⟨("Kind", some "__eq__"), "__eq__", "Kind.__eq__", defArgs s_Kind___eq__, defBody s_Kind___eq__, defScope s_Kind___eq__, [], []⟩
def d__law_item : He.DefD := ⟨("_law_item", none), "_law_item", "_law_item", defArgs s__law_item, defBody s__law_item, defScope s__law_item, [], []⟩
def d__law_turned : He.DefD := ⟨("_law_turned", none), "_law_turned", "_law_turned", defArgs s__law_turned, defBody s__law_turned, defScope s__law_turned, [], []⟩
def d__law_stepped : He.DefD := ⟨("_law_stepped", none), "_law_stepped", "_law_stepped", defArgs s__law_stepped, defBody s__law_stepped, defScope s__law_stepped, [], []⟩
def d__law_wait : He.DefD := ⟨("_law_wait", none), "_law_wait", "_law_wait", defArgs s__law_wait, defBody s__law_wait, defScope s__law_wait, [], []⟩
def d_check_kind : He.DefD := ⟨("check_kind", none), "check_kind", "check_kind", defArgs s_check_kind, defBody s_check_kind, defScope s_check_kind, [], []⟩
def d_check_step : He.DefD := ⟨("check_step", none), "check_step", "check_step", defArgs s_check_step, defBody s_check_step, defScope s_check_step, [], []⟩
def d_wait_of : He.DefD := ⟨("wait_of", none), "wait_of", "wait_of", defArgs s_wait_of, defBody s_wait_of, defScope s_wait_of, [], []⟩
def d_wait : He.DefD := ⟨("wait", none), "wait", "wait", defArgs s_wait, defBody s_wait, defScope s_wait, [], []⟩
def d__law_kind_right : He.DefD := ⟨("_law_kind_right", none), "_law_kind_right", "_law_kind_right", defArgs s__law_kind_right, defBody s__law_kind_right, defScope s__law_kind_right, [], []⟩
def d__law_hash : He.DefD := ⟨("_law_hash", none), "_law_hash", "_law_hash", defArgs s__law_hash, defBody s__law_hash, defScope s__law_hash, [], []⟩
def d__law_random : He.DefD := ⟨("_law_random", none), "_law_random", "_law_random", defArgs s__law_random, defBody s__law_random, defScope s__law_random, [], []⟩
def d__law_kind : He.DefD := ⟨("_law_kind", none), "_law_kind", "_law_kind", defArgs s__law_kind, defBody s__law_kind, defScope s__law_kind, [], []⟩
def d__law_row : He.DefD := ⟨("_law_row", none), "_law_row", "_law_row", defArgs s__law_row, defBody s__law_row, defScope s__law_row, [], []⟩
def d__law_is_crossed : He.DefD := ⟨("_law_is_crossed", none), "_law_is_crossed", "_law_is_crossed", defArgs s__law_is_crossed, defBody s__law_is_crossed, defScope s__law_is_crossed, [], []⟩
def d__law_gained : He.DefD := ⟨("_law_gained", none), "_law_gained", "_law_gained", defArgs s__law_gained, defBody s__law_gained, defScope s__law_gained, [], []⟩
def d__law_order : He.DefD := ⟨("_law_order", none), "_law_order", "_law_order", defArgs s__law_order, defBody s__law_order, defScope s__law_order, [], []⟩
def d_law : He.DefD := ⟨("law", none), "law", "law", defArgs s_law, defBody s_law, defScope s_law, [], []⟩
def fn : List He.DefD := [d__law_cell, d__law_generator, d_is_whole, d_is_between, d_check_number, d_Kind___init__, d__law_many, d_Kind_name, d_Kind_size, d_Kind_steps, d_Kind_start, d__law_start, d_Kind___eq__, d__law_item, d__law_turned, d__law_stepped, d__law_wait, d_check_kind, d_check_step, d_wait_of, d_wait, d__law_kind_right, d__law_hash, d__law_random, d__law_kind, d__law_row, d__law_is_crossed, d__law_gained, d__law_order, d_law]
def fa : List He.Fa := [.free "len", .free "int", .free "abs", .free "max", .free "min", .free "sum", .free "sorted", .free "list", .free "tuple", .free "range", .free "enumerate", .free "zip", .free "reversed", .free "isinstance", .free "repr", .free "bool", .free "str", .cls "Kind", .noat "Kind" "_name", .noat "Kind" "_size", .glo "Kind", .glo "BOUNDS", .glo "_law_cell", .glo "_law_generator", .glo "is_whole", .glo "is_between", .glo "check_number", .mkr "Kind", .glo "_law_many", .meth "Kind" "name", .meth "Kind" "size", .meth "Kind" "steps", .meth "Kind" "start", .glo "_law_start", .meth "Kind" "__eq__", .glo "_law_item", .glo "_law_turned", .glo "_law_stepped", .glo "_law_wait", .glo "check_kind", .glo "check_step", .glo "wait_of", .glo "wait", .glo "_law_kind_right", .glo "_law_hash", .glo "_law_random", .glo "_law_kind", .glo "_law_row", .glo "_law_is_crossed", .glo "_law_gained", .glo "_law_order", .glo "law"]
def loose : List Str := [("SeamError" : Str), ("InvalidKind" : Str), ("InvalidNumber" : Str), ("BOUNDS" : Str), ("is_whole" : Str), ("is_between" : Str), ("check_number" : Str), ("Kind" : Str), ("check_kind" : Str), ("check_step" : Str), ("wait_of" : Str), ("wait" : Str), ("_law_hash" : Str), ("_law_random" : Str), ("_law_cell" : Str), ("_law_generator" : Str), ("_law_kind" : Str), ("_law_many" : Str), ("_law_start" : Str), ("_law_item" : Str), ("_law_turned" : Str), ("_law_stepped" : Str), ("_law_is_crossed" : Str), ("_law_row" : Str), ("_law_gained" : Str), ("_law_order" : Str), ("_law_wait" : Str), ("_law_kind_right" : Str)]
abbrev R : PySem.W.OpenRow := PySem.W.OpenLaw.row PySem.Challenge.rw_seamlayers_k01_kinds_and_waits
abbrev hk : PySem.W.Hook := He.hookX 5 fa fn tsK [] exK
def ob (s : PySem.W.SharedT) : He.AlX := He.obsX 5 fa fn tsK [] exK (HandSHeadRun.getT s)
theorem ob_eq (s : PySem.W.SharedT) : ob s = hk.obs s.abs := He.obsX_eq (s := s.abs) (HandSHeadRun.getT_eq s)
theorem run (w : World) : HandSHeadRun.RunEq R (PySem.W.view R.prog [31]) hk ob 3420 loose w :=
  PySem.W.byRow2 "special-get-raises" (P := fun w => HandSHeadRun.RunEq R (PySem.W.view R.prog [31]) hk ob 3420 loose w) (fun w os => by kernel_rfl) (fun w os => by kernel_rfl) w
theorem facts {P : Program} {w : World} {K : PySem.W.Frag} {h : Heap} {mg : Str → Option Value} {f : Addr} (X : K.In h) (G : h.Ns mainGlobals mg) (hfa : mg ("law" : Str) = some (.ref f)) (c : He.SaysX fa fn tsK [] exK w h K) :
    ∃ fd : FuncData, (∀ (s : Shared) (v : Value), BindsTo s fd ⟨[v], []⟩ [("_law_script", v)]) ∧ ∀ base : Heap, K.In base → base.Ns mainGlobals mg → FnOk P w K mg base CX0 7 f fd n_law (spP K (clK K) m_law) := by
  have B : Bs mg := ⟨He.free_ok X G (c.t.d.fact 0 (f := .free "len") rfl), He.free_ok X G (c.t.d.fact 1 (f := .free "int") rfl), He.free_ok X G (c.t.d.fact 2 (f := .free "abs") rfl), He.free_ok X G (c.t.d.fact 3 (f := .free "max") rfl), He.free_ok X G (c.t.d.fact 4 (f := .free "min") rfl), He.free_ok X G (c.t.d.fact 5 (f := .free "sum") rfl), He.free_ok X G (c.t.d.fact 6 (f := .free "sorted") rfl), He.free_ok X G (c.t.d.fact 7 (f := .free "list") rfl), He.free_ok X G (c.t.d.fact 8 (f := .free "tuple") rfl), He.free_ok X G (c.t.d.fact 9 (f := .free "range") rfl), He.free_ok X G (c.t.d.fact 10 (f := .free "enumerate") rfl), He.free_ok X G (c.t.d.fact 11 (f := .free "zip") rfl), He.free_ok X G (c.t.d.fact 12 (f := .free "reversed") rfl), He.free_ok X G (c.t.d.fact 13 (f := .free "isinstance") rfl), He.free_ok X G (c.t.d.fact 14 (f := .free "repr") rfl), He.free_ok X G (c.t.d.fact 15 (f := .free "bool") rfl), He.free_ok X G (c.t.d.fact 16 (f := .free "str") rfl)⟩
  have Q : KG w K (clK K) mg := kg_of (He.cls_ok (c.t.d.fact 17 (f := .cls "Kind") rfl)) c.more (He.glo_ok X G (c.t.d.fact 20 (f := .glo "Kind") rfl)) (He.noat_ok (c.t.d.fact 18 (f := .noat "Kind" "_name") rfl)) (He.noat_ok (c.t.d.fact 19 (f := .noat "Kind" "_size") rfl)) (He.glo_ok X G (c.t.d.fact 21 (f := .glo "BOUNDS") rfl)) (c.t.tab 0)
  obtain ⟨fd__law_cell, F__law_cell⟩ := c.t.d.def_ 0 (d := d__law_cell) rfl
  obtain ⟨fd__law_generator, F__law_generator⟩ := c.t.d.def_ 1 (d := d__law_generator) rfl
  obtain ⟨fd_is_whole, F_is_whole⟩ := c.t.d.def_ 2 (d := d_is_whole) rfl
  obtain ⟨fd_is_between, F_is_between⟩ := c.t.d.def_ 3 (d := d_is_between) rfl
  obtain ⟨fd_check_number, F_check_number⟩ := c.t.d.def_ 4 (d := d_check_number) rfl
  obtain ⟨fd_Kind___init__, F_Kind___init__⟩ := c.t.d.def_ 5 (d := d_Kind___init__) rfl
  obtain ⟨fd__law_many, F__law_many⟩ := c.t.d.def_ 6 (d := d__law_many) rfl
  obtain ⟨fd_Kind_name, F_Kind_name⟩ := c.t.d.def_ 7 (d := d_Kind_name) rfl
  obtain ⟨fd_Kind_size, F_Kind_size⟩ := c.t.d.def_ 8 (d := d_Kind_size) rfl
  obtain ⟨fd_Kind_steps, F_Kind_steps⟩ := c.t.d.def_ 9 (d := d_Kind_steps) rfl
  obtain ⟨fd_Kind_start, F_Kind_start⟩ := c.t.d.def_ 10 (d := d_Kind_start) rfl
  obtain ⟨fd__law_start, F__law_start⟩ := c.t.d.def_ 11 (d := d__law_start) rfl
  obtain ⟨fd_Kind___eq__, F_Kind___eq__⟩ := c.t.d.def_ 12 (d := d_Kind___eq__) rfl
  obtain ⟨fd__law_item, F__law_item⟩ := c.t.d.def_ 13 (d := d__law_item) rfl
  obtain ⟨fd__law_turned, F__law_turned⟩ := c.t.d.def_ 14 (d := d__law_turned) rfl
  obtain ⟨fd__law_stepped, F__law_stepped⟩ := c.t.d.def_ 15 (d := d__law_stepped) rfl
  obtain ⟨fd__law_wait, F__law_wait⟩ := c.t.d.def_ 16 (d := d__law_wait) rfl
  obtain ⟨fd_check_kind, F_check_kind⟩ := c.t.d.def_ 17 (d := d_check_kind) rfl
  obtain ⟨fd_check_step, F_check_step⟩ := c.t.d.def_ 18 (d := d_check_step) rfl
  obtain ⟨fd_wait_of, F_wait_of⟩ := c.t.d.def_ 19 (d := d_wait_of) rfl
  obtain ⟨fd_wait, F_wait⟩ := c.t.d.def_ 20 (d := d_wait) rfl
  obtain ⟨fd__law_kind_right, F__law_kind_right⟩ := c.t.d.def_ 21 (d := d__law_kind_right) rfl
  obtain ⟨fd__law_hash, F__law_hash⟩ := c.t.d.def_ 22 (d := d__law_hash) rfl
  obtain ⟨fd__law_random, F__law_random⟩ := c.t.d.def_ 23 (d := d__law_random) rfl
  obtain ⟨fd__law_kind, F__law_kind⟩ := c.t.d.def_ 24 (d := d__law_kind) rfl
  obtain ⟨fd__law_row, F__law_row⟩ := c.t.d.def_ 25 (d := d__law_row) rfl
  obtain ⟨fd__law_is_crossed, F__law_is_crossed⟩ := c.t.d.def_ 26 (d := d__law_is_crossed) rfl
  obtain ⟨fd__law_gained, F__law_gained⟩ := c.t.d.def_ 27 (d := d__law_gained) rfl
  obtain ⟨fd__law_order, F__law_order⟩ := c.t.d.def_ 28 (d := d__law_order) rfl
  obtain ⟨fd_law, F_law⟩ := c.t.d.def_ 29 (d := d_law) rfl
  have e := hfa.symm.trans (He.glo_ok X G (c.t.d.fact 51 (f := .glo "law") rfl))
  cases e
  have b := FunD.bindsA (ps := ["_law_script"]) F_law fun _ _ _ _ _ _ us hl => match us, hl with | [_], _ => rfl
  refine ⟨fd_law, fun s v => b s [v] rfl, fun base _ _ => ?_⟩
  have h__law_cell := ok__law_cell (P := P) (w := w) (cl := clK K) (base := base) B Q  F__law_cell (He.glo_ok X G (c.t.d.fact 22 (f := .glo "_law_cell") rfl))
  have h__law_generator := ok__law_generator (P := P) (w := w) (cl := clK K) (base := base) B Q h__law_cell F__law_generator (He.glo_ok X G (c.t.d.fact 23 (f := .glo "_law_generator") rfl))
  have h_is_whole := ok_is_whole (P := P) (w := w) (cl := clK K) (base := base) B Q  F_is_whole (He.glo_ok X G (c.t.d.fact 24 (f := .glo "is_whole") rfl))
  have h_is_between := ok_is_between (P := P) (w := w) (cl := clK K) (base := base) B Q h_is_whole F_is_between (He.glo_ok X G (c.t.d.fact 25 (f := .glo "is_between") rfl))
  have h_check_number := ok_check_number (P := P) (w := w) (cl := clK K) (base := base) B Q h_is_between F_check_number (He.glo_ok X G (c.t.d.fact 26 (f := .glo "check_number") rfl))
  have h_Kind___init__ := ok_Kind___init__ (P := P) (w := w) (cl := clK K) (base := base) B Q h_check_number F_Kind___init__ (He.mkr_ok (c.t.d.fact 27 (f := .mkr "Kind") rfl))
  have h__law_many := ok__law_many (P := P) (w := w) (cl := clK K) (base := base) B Q  F__law_many (He.glo_ok X G (c.t.d.fact 28 (f := .glo "_law_many") rfl))
  have h_Kind_name := ok_Kind_name (P := P) (w := w) (cl := clK K) (base := base) B Q  F_Kind_name (He.meth_ok (c.t.d.fact 29 (f := .meth "Kind" "name") rfl))
  have h_Kind_size := ok_Kind_size (P := P) (w := w) (cl := clK K) (base := base) B Q  F_Kind_size (He.meth_ok (c.t.d.fact 30 (f := .meth "Kind" "size") rfl))
  have h_Kind_steps := ok_Kind_steps (P := P) (w := w) (cl := clK K) (base := base) B Q  F_Kind_steps (He.meth_ok (c.t.d.fact 31 (f := .meth "Kind" "steps") rfl))
  have h_Kind_start := ok_Kind_start (P := P) (w := w) (cl := clK K) (base := base) B Q  F_Kind_start (He.meth_ok (c.t.d.fact 32 (f := .meth "Kind" "start") rfl))
  have h__law_start := ok__law_start (P := P) (w := w) (cl := clK K) (base := base) B Q  F__law_start (He.glo_ok X G (c.t.d.fact 33 (f := .glo "_law_start") rfl))
  have h_Kind___eq__ := ok_Kind___eq__ (P := P) (w := w) (cl := clK K) (base := base) B Q  F_Kind___eq__ (He.meth_ok (c.t.d.fact 34 (f := .meth "Kind" "__eq__") rfl))
  have h__law_item := ok__law_item (P := P) (w := w) (cl := clK K) (base := base) B Q  F__law_item (He.glo_ok X G (c.t.d.fact 35 (f := .glo "_law_item") rfl))
  have h__law_turned := ok__law_turned (P := P) (w := w) (cl := clK K) (base := base) B Q  F__law_turned (He.glo_ok X G (c.t.d.fact 36 (f := .glo "_law_turned") rfl))
  have h__law_stepped := ok__law_stepped (P := P) (w := w) (cl := clK K) (base := base) B Q h__law_start h__law_item h__law_turned F__law_stepped (He.glo_ok X G (c.t.d.fact 37 (f := .glo "_law_stepped") rfl))
  have h__law_wait := ok__law_wait (P := P) (w := w) (cl := clK K) (base := base) B Q h__law_stepped F__law_wait (He.glo_ok X G (c.t.d.fact 38 (f := .glo "_law_wait") rfl))
  have h_check_kind := ok_check_kind (P := P) (w := w) (cl := clK K) (base := base) B Q  F_check_kind (He.glo_ok X G (c.t.d.fact 39 (f := .glo "check_kind") rfl))
  have h_check_step := ok_check_step (P := P) (w := w) (cl := clK K) (base := base) B Q h_check_number h_Kind_steps F_check_step (He.glo_ok X G (c.t.d.fact 40 (f := .glo "check_step") rfl))
  have h_wait_of := ok_wait_of (P := P) (w := w) (cl := clK K) (base := base) B Q h_Kind_size h_Kind_name F_wait_of (He.glo_ok X G (c.t.d.fact 41 (f := .glo "wait_of") rfl))
  have h_wait := ok_wait (P := P) (w := w) (cl := clK K) (base := base) B Q h_check_kind h_check_step h_wait_of F_wait (He.glo_ok X G (c.t.d.fact 42 (f := .glo "wait") rfl))
  have hq_Kind_size_name : MkK P w K (clK K) mg base "Kind" 4 n_Kind___init__ m_Kind___init__ 0 [("size" : Str), ("name" : Str)] (0 :: [1, 0].map (· + 1)) := ⟨⟨_, fd_Kind___init__, fo_Kind___init__ B Q h_check_number F_Kind___init__, Q.mgK, He.mkr_ok (c.t.d.fact 27 (f := .mkr "Kind") rfl), kb_of F_Kind___init__ 1 (0 :: [1, 0].map (· + 1)) fun _ _ _ _ _ _ us ws h1 h2 => match us, ws, h1, h2 with | [_], [_, _], _, _ => rfl⟩, initM_cl, initM_ob⟩
  have hk_wait_0_other_one_kind : FnK P w K mg base "wait" 5 n_wait (spP K (clK K) m_wait) 0 [("other" : Str), ("one" : Str), ("kind" : Str)] [2, 1, 0] := ⟨⟨_, fd_wait, fo_wait B Q h_check_kind h_check_step h_wait_of F_wait, He.glo_ok X G (c.t.d.fact 42 (f := .glo "wait") rfl), F_wait.kp, kb_of F_wait 0 [2, 1, 0] fun _ _ _ _ _ _ us ws h1 h2 => match us, ws, h1, h2 with | [], [_, _, _], _, _ => rfl⟩⟩
  have h__law_kind_right := ok__law_kind_right (P := P) (w := w) (cl := clK K) (base := base) B Q h_Kind___init__ h_Kind_start h__law_start h_Kind_steps h__law_many h_Kind_size h_Kind_name h_Kind___eq__ hq_Kind_size_name h__law_wait hk_wait_0_other_one_kind h_wait F__law_kind_right (He.glo_ok X G (c.t.d.fact 43 (f := .glo "_law_kind_right") rfl))
  have h__law_hash := ok__law_hash (P := P) (w := w) (cl := clK K) (base := base) B Q  F__law_hash (He.glo_ok X G (c.t.d.fact 44 (f := .glo "_law_hash") rfl))
  have h__law_random := ok__law_random (P := P) (w := w) (cl := clK K) (base := base) B Q h__law_hash F__law_random (He.glo_ok X G (c.t.d.fact 45 (f := .glo "_law_random") rfl))
  have h__law_kind := ok__law_kind (P := P) (w := w) (cl := clK K) (base := base) B Q h__law_random F__law_kind (He.glo_ok X G (c.t.d.fact 46 (f := .glo "_law_kind") rfl))
  have h__law_row := ok__law_row (P := P) (w := w) (cl := clK K) (base := base) B Q h__law_many h__law_random F__law_row (He.glo_ok X G (c.t.d.fact 47 (f := .glo "_law_row") rfl))
  have h__law_is_crossed := ok__law_is_crossed (P := P) (w := w) (cl := clK K) (base := base) B Q h__law_item h__law_turned F__law_is_crossed (He.glo_ok X G (c.t.d.fact 48 (f := .glo "_law_is_crossed") rfl))
  have h__law_gained := ok__law_gained (P := P) (w := w) (cl := clK K) (base := base) B Q h__law_is_crossed h__law_stepped F__law_gained (He.glo_ok X G (c.t.d.fact 49 (f := .glo "_law_gained") rfl))
  have h__law_order := ok__law_order (P := P) (w := w) (cl := clK K) (base := base) B Q h__law_start h__law_row h__law_gained F__law_order (He.glo_ok X G (c.t.d.fact 50 (f := .glo "_law_order") rfl))
  exact fo_law (P := P) (w := w) (cl := clK K) (base := base) B Q h__law_kind_right h__law_start h__law_generator h__law_kind h__law_order h_Kind___eq__ h_Kind___init__ F_law
end k01
open PySem PySem.W PySem.Calls PyProof.Rows
theorem k01_holds (main : ∀ ns : List Int, ns.length ≤ 63 → k01.m_law [.scr ns] = some (.bl true)) : PySem.Challenge.rw_seamlayers_k01_kinds_and_waits.Holds := by
  w_on; o_law
  refine HandSHeadRun.head_any (r := OpenLaw.row PySem.Challenge.rw_seamlayers_k01_kinds_and_waits) (q := view (OpenLaw.row PySem.Challenge.rw_seamlayers_k01_kinds_and_waits).prog [31]) (H := k01.hk) (ob := k01.ob) (M := 3420) (loose := k01.loose) (d := HandSHeadRun.topDef (OpenLaw.row PySem.Challenge.rw_seamlayers_k01_kinds_and_waits).prog 31) (kwd := []) k01.ob_eq
    (by kernel_rfl) (fun s => by kernel_rfl) k01.run (by kernel_rfl) (by kernel_rfl) (by kernel_rfl) (by rfl) (by first | assumption | decide +kernel) (by decide +kernel) ⟨rfl, rfl, rfl, rfl, rfl, by decide +kernel⟩ ?hw ?hc
  case hw => w_witness2
  case hc =>
    refine L2.walk_ofE (l := PySem.Challenge.rw_seamlayers_k01_kinds_and_waits) (n := 63) (k := 7) (x := "_law_script") (CX := L2.CX0) rfl (by decide) (by kernel_rfl) ⟨rfl, by decide, by decide⟩ ?F (fun _ _ _ _ z => z)
    intro w mg fa h Y G hmg0
    obtain ⟨K, KX, c⟩ := Y
    have hmg : mg ("law" : PySem.Str) = some (.ref fa) := by
      have e : (HandSHeadRun.topDef (OpenLaw.row PySem.Challenge.rw_seamlayers_k01_kinds_and_waits).prog 31).name = ("law" : PySem.Str) := by kernel_rfl
      rw [← e]
      exact hmg0
    obtain ⟨fd, hb, hF⟩ := k01.facts (P := (PySem.Challenge.rw_seamlayers_k01_kinds_and_waits).prog) (w := w) KX G hmg c
    refine ⟨K, fd, Lay.spP K (Lay.clK K) k01.m_law, KX, hb, fun H a ns hl _ hS => ?_, hF⟩
    exact ⟨[], [.scr ns], .bl true, main ns hl, fun _ z => by simp at z, Lay.Reps.cons (Lay.rep_scr.2 ⟨a, rfl, by rw [Lay.hid_nil]; exact hS⟩) Lay.Reps.nil, fun v H' _ r => Lay.rep_bl.1 r⟩


theorem PySem.Challenge.cw_seamlayers_k01_kinds_and_waits_holds : PySem.Challenge.rw_seamlayers_k01_kinds_and_waits.Holds := by
  exact k01_holds k01.law_true
