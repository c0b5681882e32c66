import PyProof.Rows.All
import Wide.All
import OpenK.AllK
import Wide.FinOn
import HandS.ForMost
import HandS.TupAny
import HandS.Flow
import HandS.Deep
import HandS.Conv
import HandS.SortInts
import HandS.NoneIn
import HandS.Words
import HandS.EndBits
import HandS.Zip
import HandS.TupMul
import HandS.IsInst
import HandS.Style
import PyProof.Rows.ReprOcc
import PyProof.Rows.RegFStrParts
import KE.GoesZip
import KE.GoesMore
import HandS.TupLe
import HandS.DictComp
import HandS.SortKw
import HandS.TupSets
import KE.DataMinMax
import HandS.Strs
import PySem.Challenge.RW_leastdear_k70_whole_rings_are_left_alone
set_option Elab.async false
set_option linter.all false
set_option maxRecDepth 100000
set_option maxHeartbeats 4000000
/-! G1: data with ownership, what represents it in an abstract heap. -/
namespace G
open PySem PySem.Spec PyProof.Rows L2

/-- data that a def holds: p: shared, never written; l, dk, dt: a list, a dict of one's own; t: a tuple of such -/
inductive M where
  | p (d : PyData)
  | l (ms : List M)
  | t (ms : List M)
  | dk (ks : List Key) (ms : List M)
  | dt (ks : List (List Key)) (ms : List M)
  | fk (ks : List Key) (ds : List PyData)

abbrev Fp := Addr → Nat

mutual
/-- shared data by the heap: tuples are tracked ones -/
inductive Dq (K : PySem.W.Frag) (H : Hp) : V → PyData → Prop
  | non : Dq K H .non .none
  | bl (b : Bool) : Dq K H (.bl b) (.bool b)
  | int (i : Int) : Dq K H (.int i) (.int i)
  | str (x : Str) : Dq K H (.str x) (.str x)
  | lst {a : Addr} {xs : List V} {ds : List PyData} : SqL K H a xs → DqAll K H xs ds → Dq K H (.ref a) (.list ds)
  | tup {a : Addr} {xs : List V} {ds : List PyData} : H a = some (.tup xs) → DqAll K H xs ds → Dq K H (.ref a) (.tuple ds)
inductive DqAll (K : PySem.W.Frag) (H : Hp) : List V → List PyData → Prop
  | nil : DqAll K H [] []
  | cons {v : V} {vs : List V} {d : PyData} {ds : List PyData} : Dq K H v d → DqAll K H vs ds → DqAll K H (v :: vs) (d :: ds)
end
mutual
theorem Dq.dp {K : PySem.W.Frag} {H : Hp} : ∀ {v : V} {d : PyData}, Dq K H v d → Dp K H v d
  | _, _, .non => .non
  | _, _, .bl b => .bl b
  | _, _, .int i => .int i
  | _, _, .str x => .str x
  | _, _, .lst h a => .lst h (DqAll.dp a)
  | _, _, .tup h a => .tup (SqT.of h) (DqAll.dp a)
theorem DqAll.dp {K : PySem.W.Frag} {H : Hp} : ∀ {vs : List V} {ds : List PyData}, DqAll K H vs ds → DpAll K H vs ds
  | _, _, .nil => .nil
  | _, _, .cons h t => .cons (Dq.dp h) (DqAll.dp t)
end

mutual
def Rep (K : PySem.W.Frag) (H0 H : Hp) : M → V → Fp → Prop
  | .p d, v, A => Dq K H0 v d ∧ ∀ b, A b = 0
  | .l ms, v, A => ∃ a vs A', v = .ref a ∧ H0 a = none ∧ H a = some (.lst vs) ∧ RepL K H0 H ms vs A' ∧ ∀ b, A b = (if b = a then 1 else 0) + A' b
  | .t ms, v, A => ∃ a vs, v = .ref a ∧ H0 a = some (.tup vs) ∧ RepL K H0 H ms vs A
  | .dk ks ms, v, A => ∃ a vs A', v = .ref a ∧ H0 a = none ∧ H a = some (.dK (ks.zip vs)) ∧ (ks.length = ms.length ∧ ks.Nodup) ∧ RepL K H0 H ms vs A' ∧ ∀ b, A b = (if b = a then 1 else 0) + A' b
  | .dt ks ms, v, A => ∃ a vs A', v = .ref a ∧ H0 a = none ∧ H a = some (.dT (ks.zip vs)) ∧ (ks.length = ms.length ∧ ks.Nodup) ∧ RepL K H0 H ms vs A' ∧ ∀ b, A b = (if b = a then 1 else 0) + A' b
  | .fk ks ds, v, A => ∃ a vs o, v = .ref a ∧ H0 a = some (.frz o (.dK (ks.zip vs))) ∧ (ks.length = ds.length ∧ ks.Nodup) ∧ DqAll K H0 vs ds ∧ ∀ b, A b = 0
def RepL (K : PySem.W.Frag) (H0 H : Hp) : List M → List V → Fp → Prop
  | [], vs, A => vs = [] ∧ ∀ b, A b = 0
  | m :: ms, vs, A => ∃ v vr A1 A2, vs = v :: vr ∧ Rep K H0 H m v A1 ∧ RepL K H0 H ms vr A2 ∧ ∀ b, A b = A1 b + A2 b
end

mutual
def frz : M → Option PyData
  | .p d => some d
  | .l ms => (frzL ms).map .list
  | .t ms => (frzL ms).map .tuple
  | .dk _ _ => none
  | .dt _ _ => none
  | .fk _ _ => none
def frzL : List M → Option (List PyData)
  | [] => some []
  | m :: ms => match frz m, frzL ms with
    | some d, some ds => some (d :: ds)
    | _, _ => none
end

/-- all of them shared -/
def allP : List M → Option (List PyData)
  | [] => some []
  | .p d :: ms => (allP ms).map (d :: ·)
  | _ :: _ => none
def mkT (ms : List M) : M := match allP ms with
  | some ds => .p (.tuple ds)
  | none => .t ms
/-- the items of a list, of a tuple -/
def els : M → Option (List PyData)
  | .p (.list ds) => some ds
  | .p (.tuple ds) => some ds
  | .l ms => allP ms
  | .t ms => allP ms
  | _ => none

theorem allP_map (ds : List PyData) : allP (ds.map M.p) = some ds := by
  induction ds with
  | nil => rfl
  | cons d ds ih => simp only [List.map_cons, allP, ih, Option.map_some]
theorem allP_eq : ∀ {ms : List M} {ds : List PyData}, allP ms = some ds → ms = ds.map M.p
  | [], ds, h => by cases h; rfl
  | .p d :: ms, ds, h => by
    unfold allP at h
    cases e : allP ms with
    | none => rw [e] at h; cases h
    | some es =>
      rw [e] at h
      cases h
      rw [allP_eq e]
      rfl
  | .l _ :: _, _, h => by cases h
  | .t _ :: _, _, h => by cases h
  | .dk _ _ :: _, _, h => by cases h
  | .dt _ _ :: _, _, h => by cases h
  | .fk _ _ :: _, _, h => by cases h
theorem frzL_map (ds : List PyData) : frzL (ds.map M.p) = some ds := by
  induction ds with
  | nil => rfl
  | cons d ds ih => simp only [List.map_cons, frzL, frz, ih]

def Ex (H H' : Hp) : Prop := ∀ a o, H a = some o → H' a = some o
theorem Ex.refl (H : Hp) : Ex H H := fun _ _ h => h
theorem Ex.trans {H H1 H2 : Hp} (a : Ex H H1) (b : Ex H1 H2) : Ex H H2 := fun x o h => b x o (a x o h)
theorem Ex.rd {H H' : Hp} {a : Addr} {u : HO} (e : Ex H H') (h : Rd H a u) : Rd H' a u := by
  rcases h with h | ⟨o, h⟩
  · exact .inl (e a _ h)
  · exact .inr ⟨o, e a _ h⟩
theorem Ex.sl {K : PySem.W.Frag} {H H' : Hp} {a : Addr} {xs : List V} (e : Ex H H') (h : SqL K H a xs) : SqL K H' a xs := by
  rcases h with h | h
  · exact .inl (e.rd h)
  · exact .inr h
theorem Ex.st {K : PySem.W.Frag} {H H' : Hp} {a : Addr} {xs : List V} (e : Ex H H') (h : SqT K H a xs) : SqT K H' a xs := by
  rcases h with h | h
  · exact .inl (e.rd h)
  · exact .inr h
theorem Ex.none {H H' : Hp} (e : Ex H H') {a : Addr} (h : H' a = none) : H a = none := by
  cases q : H a with
  | none => rfl
  | some o => rw [e a o q] at h; cases h

mutual
theorem dp_mono {K : PySem.W.Frag} {H H' : Hp} (e : Ex H H') : ∀ {v : V} {d : PyData}, Dq K H v d → Dq K H' v d
  | _, _, .non => .non
  | _, _, .bl b => .bl b
  | _, _, .int i => .int i
  | _, _, .str x => .str x
  | _, _, .lst h a => .lst (e.sl h) (dpA_mono e a)
  | _, _, .tup h a => .tup (e _ _ h) (dpA_mono e a)
theorem dpA_mono {K : PySem.W.Frag} {H H' : Hp} (e : Ex H H') : ∀ {vs : List V} {ds : List PyData}, DqAll K H vs ds → DqAll K H' vs ds
  | _, _, .nil => .nil
  | _, _, .cons h t => .cons (dp_mono e h) (dpA_mono e t)
end
section
variable {K : PySem.W.Frag} {H0 H H0' H' : Hp}
mutual
theorem Rep.mono (e0 : Ex H0 H0') : ∀ {m : M} {v : V} {A : Fp}, Rep K H0 H m v A → (∀ b, 0 < A b → H0' b = none ∧ H' b = H b) → Rep K H0' H' m v A
  | .p d, v, A, h, _ => ⟨dp_mono e0 h.1, h.2⟩
  | .l ms, v, A, h, k => by
    obtain ⟨a, vs, A', e1, e2, e3, e4, e5⟩ := h
    have ka := k a (by rw [e5 a, if_pos rfl]; omega)
    exact ⟨a, vs, A', e1, ka.1, ka.2.trans e3, RepL.mono e0 e4 (fun b hb => k b (by rw [e5 b]; omega)), e5⟩
  | .t ms, v, A, h, k => by
    obtain ⟨a, vs, e1, e2, e4⟩ := h
    exact ⟨a, vs, e1, e0 _ _ e2, RepL.mono e0 e4 k⟩
  | .dk ks ms, v, A, h, k => by
    obtain ⟨a, vs, A', e1, e2, e3, el, e4, e5⟩ := h
    have ka := k a (by rw [e5 a, if_pos rfl]; omega)
    exact ⟨a, vs, A', e1, ka.1, ka.2.trans e3, el, RepL.mono e0 e4 (fun b hb => k b (by rw [e5 b]; omega)), e5⟩
  | .dt ks ms, v, A, h, k => by
    obtain ⟨a, vs, A', e1, e2, e3, el, e4, e5⟩ := h
    have ka := k a (by rw [e5 a, if_pos rfl]; omega)
    exact ⟨a, vs, A', e1, ka.1, ka.2.trans e3, el, RepL.mono e0 e4 (fun b hb => k b (by rw [e5 b]; omega)), e5⟩
  | .fk ks ds, v, A, h, k => by
    obtain ⟨a, vs, o, e1, e2, el, hd, h0⟩ := h
    exact ⟨a, vs, o, e1, e0 _ _ e2, el, dpA_mono e0 hd, h0⟩
theorem RepL.mono (e0 : Ex H0 H0') : ∀ {ms : List M} {vs : List V} {A : Fp}, RepL K H0 H ms vs A → (∀ b, 0 < A b → H0' b = none ∧ H' b = H b) → RepL K H0' H' ms vs A
  | [], vs, A, h, _ => h
  | m :: ms, vs, A, h, k => by
    obtain ⟨v, vr, A1, A2, e1, h1, h2, e⟩ := h
    exact ⟨v, vr, A1, A2, e1, Rep.mono e0 h1 (fun b hb => k b (by rw [e b]; omega)), RepL.mono e0 h2 (fun b hb => k b (by rw [e b]; omega)), e⟩
end
mutual
theorem Rep.own : ∀ {m : M} {v : V} {A : Fp}, Rep K H0 H m v A → ∀ b, 0 < A b → H0 b = none ∧ H b ≠ none
  | .p d, v, A, h, b, hb => by have := h.2 b; omega
  | .l ms, v, A, h, b, hb => by
    obtain ⟨a, vs, A', e1, e2, e3, e4, e5⟩ := h
    by_cases q : b = a
    · subst q; exact ⟨e2, by rw [e3]; exact nofun⟩
    · rw [e5 b, if_neg q] at hb
      exact RepL.own e4 b (by omega)
  | .t ms, v, A, h, b, hb => by
    obtain ⟨a, vs, e1, e2, e4⟩ := h
    exact RepL.own e4 b hb
  | .dk ks ms, v, A, h, b, hb => by
    obtain ⟨a, vs, A', e1, e2, e3, el, e4, e5⟩ := h
    by_cases q : b = a
    · subst q; exact ⟨e2, by rw [e3]; exact nofun⟩
    · rw [e5 b, if_neg q] at hb
      exact RepL.own e4 b (by omega)
  | .dt ks ms, v, A, h, b, hb => by
    obtain ⟨a, vs, A', e1, e2, e3, el, e4, e5⟩ := h
    by_cases q : b = a
    · subst q; exact ⟨e2, by rw [e3]; exact nofun⟩
    · rw [e5 b, if_neg q] at hb
      exact RepL.own e4 b (by omega)
  | .fk ks ds, v, A, h, b, hb => by
    obtain ⟨a, vs, o, e1, e2, el, hd, h0⟩ := h
    have := h0 b
    omega
theorem RepL.own : ∀ {ms : List M} {vs : List V} {A : Fp}, RepL K H0 H ms vs A → ∀ b, 0 < A b → H0 b = none ∧ H b ≠ none
  | [], vs, A, h, b, hb => by have := h.2 b; omega
  | m :: ms, vs, A, h, b, hb => by
    obtain ⟨v, vr, A1, A2, e1, h1, h2, e⟩ := h
    rw [e b] at hb
    by_cases q : 0 < A1 b
    · exact Rep.own h1 b q
    · exact RepL.own h2 b (by omega)
end
mutual
/-- what is one's own, shared from here on: in any heap that knows it -/
theorem Rep.frz (e0 : Ex H0 H0') : ∀ {m : M} {v : V} {A : Fp} {d : PyData}, Rep K H0 H m v A → (∀ b, 0 < A b → H0' b = H b) → G.frz m = some d → Dq K H0' v d
  | .p d, v, A, d', h, _, e => by
    have e' : some d = some d' := e
    cases e'
    exact dp_mono e0 h.1
  | .l ms, v, A, d', h, k, e => by
    obtain ⟨a, vs, A', rfl, e2, e3, e4, e5⟩ := h
    have ka := k a (by rw [e5 a, if_pos rfl]; omega)
    unfold G.frz at e
    cases q : frzL ms with
    | none => rw [q] at e; cases e
    | some ds =>
      rw [q] at e
      cases e
      exact .lst (SqL.of (ka.trans e3)) (RepL.frz e0 e4 (fun b hb => k b (by rw [e5 b]; omega)) q)
  | .t ms, v, A, d', h, k, e => by
    obtain ⟨a, vs, rfl, e2, e4⟩ := h
    unfold G.frz at e
    cases q : frzL ms with
    | none => rw [q] at e; cases e
    | some ds =>
      rw [q] at e
      cases e
      exact .tup (e0 _ _ e2) (RepL.frz e0 e4 k q)
  | .dk ks ms, v, A, d', h, k, e => by cases e
  | .dt ks ms, v, A, d', h, k, e => by cases e
  | .fk ks ms, v, A, d', h, k, e => by cases e
theorem RepL.frz (e0 : Ex H0 H0') : ∀ {ms : List M} {vs : List V} {A : Fp} {ds : List PyData}, RepL K H0 H ms vs A → (∀ b, 0 < A b → H0' b = H b) → frzL ms = some ds → DqAll K H0' vs ds
  | [], vs, A, ds, h, k, e => by
    cases e
    obtain ⟨rfl, _⟩ := h
    exact .nil
  | m :: ms, vs, A, ds, h, k, e => by
    obtain ⟨v, vr, A1, A2, rfl, h1, h2, ea⟩ := h
    unfold frzL at e
    cases q : G.frz m with
    | none => rw [q] at e; cases e
    | some d =>
      cases q2 : frzL ms with
      | none => rw [q, q2] at e; cases e
      | some es =>
        rw [q, q2] at e
        cases e
        exact .cons (Rep.frz e0 h1 (fun b hb => k b (by rw [ea b]; omega)) q) (RepL.frz e0 h2 (fun b hb => k b (by rw [ea b]; omega)) q2)
end
theorem repL_len : ∀ {ms : List M} {vs : List V} {A : Fp}, RepL K H0 H ms vs A → vs.length = ms.length
  | [], vs, A, h => by obtain ⟨rfl, _⟩ := h; rfl
  | m :: ms, vs, A, h => by
    obtain ⟨v, vr, A1, A2, rfl, h1, h2, ea⟩ := h
    rw [List.length_cons, List.length_cons, repL_len h2]
theorem repL_p : ∀ {ds : List PyData} {vs : List V} {A : Fp}, RepL K H0 H (ds.map M.p) vs A → DqAll K H0 vs ds ∧ ∀ b, A b = 0
  | [], vs, A, h => by obtain ⟨rfl, h⟩ := h; exact ⟨.nil, h⟩
  | d :: ds, vs, A, h => by
    obtain ⟨v, vr, A1, A2, rfl, h1, h2, ea⟩ := h
    obtain ⟨q1, q2⟩ := repL_p h2
    have h1' : Dq K H0 v d ∧ ∀ b, A1 b = 0 := h1
    exact ⟨.cons h1'.1 q1, fun b => by rw [ea b, h1'.2 b, q2 b]⟩
theorem repL_of_p : ∀ {ds : List PyData} {vs : List V}, DqAll K H0 vs ds → RepL K H0 H (ds.map M.p) vs fun _ => 0
  | _, _, .nil => ⟨rfl, fun _ => rfl⟩
  | _, _, .cons h t => ⟨_, _, fun _ => 0, fun _ => 0, rfl, ⟨h, fun _ => rfl⟩, repL_of_p t, fun _ => rfl⟩
theorem dpA_len : ∀ {vs : List V} {ds : List PyData}, DqAll K H vs ds → vs.length = ds.length
  | _, _, .nil => rfl
  | _, _, .cons _ t => by rw [List.length_cons, List.length_cons, dpA_len t]
theorem dpA_get : ∀ {vs : List V} {ds : List PyData}, DqAll K H vs ds → ∀ {i : Nat} {d : PyData}, ds[i]? = some d → ∃ v, vs[i]? = some v ∧ Dq K H v d
  | _, _, .cons h t, 0, d, e => by
    rw [List.getElem?_cons_zero] at e
    cases e
    exact ⟨_, rfl, h⟩
  | _, _, .cons h t, i + 1, d, e => by
    rw [List.getElem?_cons_succ] at e
    obtain ⟨v, h1, h2⟩ := dpA_get t e
    exact ⟨v, by rw [List.getElem?_cons_succ]; exact h1, h2⟩
theorem dpA_at : ∀ {vs : List V} {ds : List PyData}, DqAll K H vs ds → ∀ {i : Nat} {v : V}, vs[i]? = some v → ∃ d, ds[i]? = some d ∧ Dq K H v d
  | _, _, .cons h t, 0, d, e => by
    rw [List.getElem?_cons_zero] at e
    cases e
    exact ⟨_, rfl, h⟩
  | _, _, .cons h t, i + 1, d, e => by
    rw [List.getElem?_cons_succ] at e
    obtain ⟨v, h1, h2⟩ := dpA_at t e
    exact ⟨v, by rw [List.getElem?_cons_succ]; exact h1, h2⟩
theorem dpA_append : ∀ {vs : List V} {ds : List PyData} {ws : List V} {es : List PyData}, DqAll K H vs ds → DqAll K H ws es → DqAll K H (vs ++ ws) (ds ++ es)
  | _, _, _, _, .nil, h => h
  | _, _, _, _, .cons a t, h => .cons a (dpA_append t h)
theorem dpA_take : ∀ {vs : List V} {ds : List PyData}, DqAll K H vs ds → ∀ n, DqAll K H (vs.take n) (ds.take n)
  | _, _, _, 0 => .nil
  | _, _, .nil, n + 1 => .nil
  | _, _, .cons a t, n + 1 => .cons a (dpA_take t n)
theorem dpA_drop : ∀ {vs : List V} {ds : List PyData}, DqAll K H vs ds → ∀ n, DqAll K H (vs.drop n) (ds.drop n)
  | _, _, h, 0 => h
  | _, _, .nil, n + 1 => .nil
  | _, _, .cons a t, n + 1 => dpA_drop t n
/-- the items of a list or a tuple, by the heap -/
theorem rep_els {m : M} {v : V} {A : Fp} {ds : List PyData} (e : Ex H0 H) (h : Rep K H0 H m v A) (q : els m = some ds) :
    ∃ a vs, v = .ref a ∧ (SqL K H a vs ∨ H a = some (.tup vs)) ∧ DqAll K H0 vs ds := by
  cases m with
  | p d =>
    obtain ⟨h, _⟩ := h
    cases d with
    | list xs =>
      cases q
      cases h with
      | lst h a => exact ⟨_, _, rfl, .inl (e.sl h), a⟩
    | tuple xs =>
      cases q
      cases h with
      | tup h a => exact ⟨_, _, rfl, .inr (e _ _ h), a⟩
    | _ => cases q
  | l ms =>
    obtain ⟨a, vs, A', rfl, e2, e3, e4, e5⟩ := h
    rw [allP_eq q] at e4
    exact ⟨a, vs, rfl, .inl (SqL.of e3), (repL_p e4).1⟩
  | t ms =>
    obtain ⟨a, vs, rfl, e2, e4⟩ := h
    rw [allP_eq q] at e4
    exact ⟨a, vs, rfl, .inr (e _ _ e2), (repL_p e4).1⟩
  | dk _ _ => cases q
  | dt _ _ => cases q
  | fk _ _ => cases q
end
end G

/-! G2: the state of a def, meanings of expressions and their soundness. -/
namespace G
open PySem PySem.Spec PyProof.Rows L2

abbrev Env := List (Option M)
inductive Op where
  | tmp (m : M)
  | slot (i : Nat)

def RepO (K : PySem.W.Frag) (H0 H : Hp) : Option M → Option V → Fp → Prop
  | none, _, A => ∀ b, A b = 0
  | some m, s, A => ∃ v, s = some v ∧ Rep K H0 H m v A
def RepE (K : PySem.W.Frag) (H0 H : Hp) : Env → L2.St → Fp → Prop
  | [], σ, A => σ = [] ∧ ∀ b, A b = 0
  | o :: es, σ, A => ∃ s σr A1 A2, σ = s :: σr ∧ RepO K H0 H o s A1 ∧ RepE K H0 H es σr A2 ∧ ∀ b, A b = A1 b + A2 b

structure Stt (K : PySem.W.Frag) (H0 H : Hp) (σ : L2.St) (env : Env) (A : Fp) : Prop where
  rep : RepE K H0 H env σ A
  one : ∀ b, A b ≤ 1
  ex : Ex H0 H

/-- from one moment to a later one: what is not one's own stays -/
structure Fr (H0 H : Hp) (A : Fp) (H0' H' : Hp) (A' : Fp) : Prop where
  e0 : Ex H0 H0'
  keep : ∀ b, H b ≠ none → A b = 0 → H' b = H b
  dom : ∀ b, H b ≠ none → H' b ≠ none
  new : ∀ b, 0 < A' b → 0 < A b ∨ H b = none
  fz : ∀ b, H0' b ≠ none → H0 b ≠ none ∨ 0 < A b ∨ H b = none

section
variable {K : PySem.W.Frag} {H0 H H0' H' H0'' H'' : Hp} {σ : L2.St} {env env' : Env} {A A' B C D E : Fp}
theorem Fr.refl (h : ∀ b, 0 < A' b → 0 < A b) : Fr H0 H A H0 H A' :=
  ⟨Ex.refl _, fun _ _ _ => rfl, fun _ h => h, fun b hb => .inl (h b hb), fun b h => .inl h⟩
theorem Fr.trans (f : Fr H0 H A H0' H' C) (g : Fr H0' H' B H0'' H'' D) (h1 : ∀ b, 0 < B b → 0 < C b) (h2 : ∀ b, 0 < E b → 0 < C b ∨ 0 < D b) : Fr H0 H A H0'' H'' E where
  e0 := f.e0.trans g.e0
  keep := fun b hb ha => by
    have hB : B b = 0 := by
      by_cases q : 0 < B b
      · rcases f.new b (h1 b q) with r | r
        · omega
        · exact absurd r hb
      · omega
    exact (g.keep b (f.dom b hb) hB).trans (f.keep b hb ha)
  dom := fun b hb => g.dom b (f.dom b hb)
  new := fun b hb => by
    rcases h2 b hb with q | q
    · exact f.new b q
    · rcases g.new b q with r | r
      · exact f.new b (h1 b r)
      · by_cases z : H b = none
        · exact .inr z
        · exact absurd r (f.dom b z)
  fz := fun b hb => by
    rcases g.fz b hb with q | q | q
    · exact f.fz b q
    · exact .inr (f.new b (h1 b q))
    · by_cases z : H b = none
      · exact .inr (.inr z)
      · exact absurd q (f.dom b z)
theorem Fr.weak (f : Fr H0 H A H0' H' C) (h : ∀ b, 0 < D b → 0 < C b) : Fr H0 H A H0' H' D :=
  ⟨f.e0, f.keep, f.dom, fun b hb => f.new b (h b hb), f.fz⟩
theorem Fr.wide (f : Fr H0 H A H0' H' C) (h : ∀ b, 0 < A b → 0 < A' b) : Fr H0 H A' H0' H' C :=
  ⟨f.e0, fun b hb ha => f.keep b hb (by
    by_cases q : 0 < A b
    · have := h b q; omega
    · omega), f.dom, fun b hb => (f.new b hb).imp (h b) id, fun b hb => (f.fz b hb).imp id fun r => r.imp (h b) id⟩
theorem Fr.rep {m : M} {v : V} (f : Fr H0 H A H0' H' C) (h : Rep K H0 H m v B) (d : ∀ b, A b + B b ≤ 1) : Rep K H0' H' m v B :=
  h.mono f.e0 fun b hb => by
    obtain ⟨o1, o2⟩ := h.own b hb
    have ha : A b = 0 := by have := d b; omega
    refine ⟨?_, f.keep b o2 ha⟩
    cases q : H0' b with
    | none => rfl
    | some o =>
      rcases f.fz b (by rw [q]; exact nofun) with r | r | r
      · exact absurd o1 r
      · omega
      · exact absurd r o2
theorem Fr.repL {m : List M} {v : List V} (f : Fr H0 H A H0' H' C) (h : RepL K H0 H m v B) (d : ∀ b, A b + B b ≤ 1) : RepL K H0' H' m v B :=
  h.mono f.e0 fun b hb => by
    obtain ⟨o1, o2⟩ := h.own b hb
    have ha : A b = 0 := by have := d b; omega
    refine ⟨?_, f.keep b o2 ha⟩
    cases q : H0' b with
    | none => rfl
    | some o =>
      rcases f.fz b (by rw [q]; exact nofun) with r | r | r
      · exact absurd o1 r
      · omega
      · exact absurd r o2
/-- a frame stays apart -/
theorem Fr.apart (f : Fr H0 H A H0' H' C) (o : ∀ b, 0 < B b → H b ≠ none) (d : ∀ b, A b + B b ≤ 1) (c : ∀ b, C b ≤ 1) : ∀ b, C b + B b ≤ 1 := fun b => by
  have := d b
  have := c b
  by_cases q : 0 < B b
  · by_cases r : 0 < C b
    · rcases f.new b r with z | z
      · omega
      · exact absurd z (o b q)
    · omega
  · omega
theorem RepO.own {o : Option M} {s : Option V} (h : RepO K H0 H o s A) : ∀ b, 0 < A b → H0 b = none ∧ H b ≠ none := by
  cases o with
  | none => intro b hb; have := h b; omega
  | some m => obtain ⟨v, _, r⟩ := h; exact r.own
theorem RepE.own : ∀ {env : Env} {σ : L2.St} {A : Fp}, RepE K H0 H env σ A → ∀ b, 0 < A b → H0 b = none ∧ H b ≠ none
  | [], σ, A, h, b, hb => by have := h.2 b; omega
  | o :: es, σ, A, h, b, hb => by
    obtain ⟨s, σr, A1, A2, rfl, h1, h2, e⟩ := h
    rw [e b] at hb
    by_cases q : 0 < A1 b
    · exact h1.own b q
    · exact RepE.own h2 b (by omega)
theorem RepO.mono {o : Option M} {s : Option V} (h : RepO K H0 H o s A) (e0 : Ex H0 H0') (k : ∀ b, 0 < A b → H0' b = none ∧ H' b = H b) : RepO K H0' H' o s A := by
  cases o with
  | none => exact h
  | some m => obtain ⟨v, e, r⟩ := h; exact ⟨v, e, r.mono e0 k⟩
theorem RepE.mono (e0 : Ex H0 H0') : ∀ {env : Env} {σ : L2.St} {A : Fp}, RepE K H0 H env σ A → (∀ b, 0 < A b → H0' b = none ∧ H' b = H b) → RepE K H0' H' env σ A
  | [], σ, A, h, k => h
  | o :: es, σ, A, h, k => by
    obtain ⟨s, σr, A1, A2, e1, h1, h2, e⟩ := h
    exact ⟨s, σr, A1, A2, e1, h1.mono e0 (fun b hb => k b (by rw [e b]; omega)), RepE.mono e0 h2 (fun b hb => k b (by rw [e b]; omega)), e⟩
theorem RepE.len : ∀ {env : Env} {σ : L2.St} {A : Fp}, RepE K H0 H env σ A → σ.length = env.length
  | [], σ, A, h => by obtain ⟨rfl, _⟩ := h; rfl
  | o :: es, σ, A, h => by
    obtain ⟨s, σr, A1, A2, rfl, h1, h2, e⟩ := h
    rw [List.length_cons, List.length_cons, RepE.len h2]
/-- one slot apart from the others -/
theorem RepE.zoom : ∀ {env : Env} {σ : L2.St} {A : Fp} {i : Nat} {o : Option M}, RepE K H0 H env σ A → env[i]? = some o →
    ∃ (s : Option V) (A1 A2 : Fp), σ[i]? = some s ∧ RepO K H0 H o s A1 ∧ (∀ b, A b = A1 b + A2 b) ∧ (∀ b, 0 < A2 b → H0 b = none ∧ H b ≠ none) ∧
      ∀ (o' : Option M) (s' : Option V) (B : Fp) (H0' H' : Hp), Ex H0 H0' → (∀ b, 0 < A2 b → H0' b = none ∧ H' b = H b) → RepO K H0' H' o' s' B → RepE K H0' H' (env.set i o') (σ.set i s') fun b => B b + A2 b
  | [], σ, A, i, o, h, e => by cases e
  | p :: es, σ, A, 0, o, h, e => by
    obtain ⟨s, σr, A1, A2, rfl, h1, h2, ea⟩ := h
    rw [List.getElem?_cons_zero] at e
    cases e
    refine ⟨s, A1, A2, rfl, h1, ea, h2.own, fun o' s' B H0' H' e0 k r => ?_⟩
    exact ⟨s', σr, B, A2, rfl, r, h2.mono e0 k, fun _ => rfl⟩
  | p :: es, σ, A, i + 1, o, h, e => by
    obtain ⟨s, σr, A1, A2, rfl, h1, h2, ea⟩ := h
    rw [List.getElem?_cons_succ] at e
    obtain ⟨t, C1, C2, f1, f2, f3, f4, f5⟩ := RepE.zoom h2 e
    refine ⟨t, C1, fun b => A1 b + C2 b, by rw [List.getElem?_cons_succ]; exact f1, f2, fun b => by rw [ea b, f3 b]; show A1 b + (C1 b + C2 b) = C1 b + (A1 b + C2 b); omega, fun b hb => ?_, fun o' s' B H0' H' e0 k r => ?_⟩
    · by_cases q : 0 < A1 b
      · exact h1.own b q
      · exact f4 b (by have hb' : 0 < A1 b + C2 b := hb; omega)
    · refine ⟨s, σr.set i s', A1, fun b => B b + C2 b, rfl, h1.mono e0 (fun b hb => k b (by show 0 < A1 b + C2 b; omega)), f5 o' s' B H0' H' e0 (fun b hb => k b (by show 0 < A1 b + C2 b; omega)) r, fun b => ?_⟩
      show B b + (A1 b + C2 b) = A1 b + (B b + C2 b)
      omega

def OpV (K : PySem.W.Frag) (H0 H : Hp) (σ : L2.St) : Op → V → Fp → Prop
  | .tmp m, v, B => Rep K H0 H m v B
  | .slot i, v, B => σ[i]? = some (some v) ∧ ∀ b, B b = 0
theorem OpV.own {op : Op} {v : V} (h : OpV K H0 H σ op v B) : ∀ b, 0 < B b → H0 b = none ∧ H b ≠ none := by
  cases op with
  | tmp m => exact Rep.own h
  | slot i => intro b hb; have := h.2 b; omega
theorem Fr.op {op : Op} {v : V} (f : Fr H0 H A H0' H' C) (h : OpV K H0 H σ op v B) (d : ∀ b, A b + B b ≤ 1) : OpV K H0' H' σ op v B := by
  cases op with
  | tmp m => exact f.rep h d
  | slot i => exact h

def rd (env : Env) : Op → Option M
  | .tmp m => some m
  | .slot i => match env[i]? with
    | some (some m) => some m
    | _ => none
def rdD (env : Env) (op : Op) : Option PyData := (rd env op).bind frz
theorem get_slot {env : Env} {i : Nat} {m : M} (h : (match env[i]? with | some (some m) => some m | _ => none) = some m) : env[i]? = some (some m) := by
  split at h
  · rename_i e
    rw [e, h]
  · cases h
theorem rd_ok {op : Op} {v : V} {m : M} (s : Stt K H0 H σ env A) (h : OpV K H0 H σ op v B) (e : rd env op = some m) : ∃ C, Rep K H0 H m v C ∧ ∀ b, C b ≤ A b + B b := by
  cases op with
  | tmp m' =>
    cases e
    exact ⟨B, h, fun b => by omega⟩
  | slot i =>
    have e' := get_slot e
    obtain ⟨t, A1, A2, f1, f2, f3, f4, f5⟩ := s.rep.zoom e'
    obtain ⟨v', rfl, r⟩ := f2
    have : v' = v := by
      have z := h.1
      rw [f1] at z
      exact Option.some.inj (Option.some.inj z)
    subst this
    exact ⟨A1, r, fun b => by rw [f3 b]; omega⟩
theorem rdD_ok {op : Op} {v : V} {d : PyData} (s : Stt K H0 H σ env A) (h : OpV K H0 H σ op v B) (e : rdD env op = some d) : Dq K H v d := by
  unfold rdD at e
  cases q : rd env op with
  | none => rw [q] at e; cases e
  | some m =>
    rw [q] at e
    obtain ⟨C, r, _⟩ := rd_ok s h q
    exact r.frz s.ex (fun _ _ => rfl) e

/-- handed on: what was one's own in a slot is shared from here on -/
def takeS (env : Env) (i : Nat) : Option (M × Env) := match env[i]? with
  | some (some m) => match frz m with
    | some d => some (.p d, env.set i (some (.p d)))
    | none => none
  | _ => none
def take (env : Env) : Op → Option (M × Env)
  | .tmp m => some (m, env)
  | .slot i => takeS env i
theorem st_set_self {α : Type} {l : List α} {i : Nat} {x : α} (h : l[i]? = some x) : l.set i x = l := by
  obtain ⟨hi, e⟩ := List.getElem?_eq_some_iff.mp h
  subst e
  exact List.set_getElem_self hi
/-- the own things at A, known to be shared -/
def shr (H0 H : Hp) (A : Fp) : Hp := fun b => if 0 < A b then H b else H0 b
theorem take_ok {op : Op} {v : V} {m : M} (s : Stt K H0 H σ env A) (h : OpV K H0 H σ op v B) (one : ∀ b, A b + B b ≤ 1) (e : take env op = some (m, env')) :
    ∃ H0' A' B', Stt K H0' H σ env' A' ∧ Rep K H0' H m v B' ∧ (∀ b, A' b + B' b ≤ 1) ∧ (∀ b, A' b + B' b ≤ A b + B b) ∧ (∀ b, A' b ≤ A b) ∧ (∀ b, B' b ≤ B b) ∧ Ex H0 H0' ∧ (∀ b, H0' b ≠ none → H0 b ≠ none ∨ 0 < A b) := by
  cases op with
  | tmp m' =>
    cases e
    exact ⟨H0, A, B, s, h, one, fun b => Nat.le_refl _, fun b => Nat.le_refl _, fun b => Nat.le_refl _, Ex.refl _, fun b q => .inl q⟩
  | slot i =>
    obtain ⟨hv, hB⟩ := h
    have go : ∀ m0 d0, env[i]? = some (some m0) → frz m0 = some d0 → m = .p d0 → env' = env.set i (some (.p d0)) → ∃ H0' A' B', Stt K H0' H σ env' A' ∧ Rep K H0' H m v B' ∧ (∀ b, A' b + B' b ≤ 1) ∧ (∀ b, A' b + B' b ≤ A b + B b) ∧ (∀ b, A' b ≤ A b) ∧ (∀ b, B' b ≤ B b) ∧ Ex H0 H0' ∧ (∀ b, H0' b ≠ none → H0 b ≠ none ∨ 0 < A b) := by
      intro m0 d0 e1 e2 e3 e4
      subst e3 e4
      obtain ⟨t, A1, A2, f1, f2, f3, f4, f5⟩ := s.rep.zoom e1
      obtain ⟨v', rfl, r⟩ := f2
      have : v' = v := by
        rw [f1] at hv
        exact Option.some.inj (Option.some.inj hv)
      subst this
      have ex0 : Ex H0 (shr H0 H A1) := fun b o hb => by
        unfold shr
        by_cases q : 0 < A1 b
        · rw [(r.own b q).1] at hb
          cases hb
        · rw [if_neg q]
          exact hb
      have dp : Dq K (shr H0 H A1) v' d0 := r.frz ex0 (fun b hb => by unfold shr; rw [if_pos hb]) e2
      refine ⟨shr H0 H A1, A2, fun _ => 0, ⟨?_, fun b => ?_, fun b o hb => ?_⟩, ⟨dp, fun _ => rfl⟩, fun b => ?_, fun b => ?_, fun b => ?_, fun b => Nat.zero_le _, ex0, fun b q => ?_⟩
      · have z := f5 (some (.p d0)) (some v') (fun _ => 0) (shr H0 H A1) H ex0 (fun b hb => ⟨?_, rfl⟩) ⟨v', rfl, dp, fun _ => rfl⟩
        · rw [st_set_self f1] at z
          simpa using z
        · unfold shr
          have := s.one b
          rw [f3 b] at this
          rw [if_neg (by omega)]
          exact (f4 b hb).1
      · have := s.one b; rw [f3 b] at this; omega
      · unfold shr at hb
        by_cases q : 0 < A1 b
        · rw [if_pos q] at hb
          exact hb
        · rw [if_neg q] at hb
          exact s.ex b o hb
      · have := s.one b; rw [f3 b] at this; show A2 b + 0 ≤ 1; omega
      · rw [f3 b]; show A2 b + 0 ≤ _; omega
      · rw [f3 b]; omega
      · unfold shr at q
        by_cases z : 0 < A1 b
        · exact .inr (by rw [f3 b]; omega)
        · rw [if_neg z] at q
          exact .inl q
    have e' : takeS env i = some (m, env') := e
    unfold takeS at e'
    split at e'
    · rename_i m0 q
      split at e'
      · rename_i d q2
        cases e'
        exact go m0 d q q2 rfl rfl
      · cases e'
    · cases e'
end

/-! ### meanings -/
abbrev U := Env → Option (Op × Env)
abbrev UA := Env → Option (List Op × Env)
abbrev UT := Env → Option (Bool × Env)

def OpVL (K : PySem.W.Frag) (H0 H : Hp) (σ : L2.St) : List Op → List V → Fp → Prop
  | [], vs, B => vs = [] ∧ ∀ b, B b = 0
  | op :: ops, vs, B => ∃ v vr B1 B2, vs = v :: vr ∧ OpV K H0 H σ op v B1 ∧ OpVL K H0 H σ ops vr B2 ∧ ∀ b, B b = B1 b + B2 b
def Post (K : PySem.W.Frag) (σ : L2.St) (H0 H : Hp) (A : Fp) (env' : Env) (op : Op) (Q : VK) : Prop :=
  ∀ v H0' H' A' B, Stt K H0' H' σ env' A' → OpV K H0' H' σ op v B → (∀ b, A' b + B b ≤ 1) → Fr H0 H A H0' H' (fun b => A' b + B b) → Q v H'
def tOf (K : PySem.W.Frag) (u : U) : TE := fun σ H Q => ∃ env A H0 op env', Stt K H0 H σ env A ∧ u env = some (op, env') ∧ Post K σ H0 H A env' op Q
def aOf (K : PySem.W.Frag) (u : UA) : TA := fun σ H Q => ∃ env A H0 ops env', Stt K H0 H σ env A ∧ u env = some (ops, env') ∧
  ∀ vs H0' H' A' B, Stt K H0' H' σ env' A' → OpVL K H0' H' σ ops vs B → (∀ b, A' b + B b ≤ 1) → Fr H0 H A H0' H' (fun b => A' b + B b) → Q vs H'
def ttOf (K : PySem.W.Frag) (u : UT) : TT := fun σ H Q => ∃ env A H0 c env', Stt K H0 H σ env A ∧ u env = some (c, env') ∧
  ∀ H0' H' A', Stt K H0' H' σ env' A' → Fr H0 H A H0' H' A' → Q c H'

theorem pe_imp {X : Cx} {e : Expr} {t t' : TE} (h : PE X e t) (k : ∀ σ H Q, t' σ H Q → t σ H Q) : PE X e t' := ⟨fun pins s σ H Q I q => h.run pins s σ H Q I (k σ H Q q)⟩
theorem pt_imp {X : Cx} {e : Expr} {t t' : TT} (h : PT X e t) (k : ∀ σ H Q, t' σ H Q → t σ H Q) : PT X e t' := ⟨fun pins s σ H Q I q => h.run pins s σ H Q I (k σ H Q q)⟩
theorem pa_imp {X : Cx} {e : List Expr} {t t' : TA} (h : PA X e t) (k : ∀ σ H Q, t' σ H Q → t σ H Q) : PA X e t' := ⟨fun pos pins s σ H Q I q => h.run pos pins s σ H Q I (k σ H Q q)⟩
theorem ps_imp {X : Cx} {e : Stmt} {t t' : TS} (h : PS X e t) (k : ∀ D σ H, t' D σ H → t D σ H) : PS X e t' := ⟨fun pins s σ H D I q => h.run pins s σ H D I (k D σ H q)⟩
theorem pss_imp {X : Cx} {e : List Stmt} {t t' : TS} (h : PSs X e t) (k : ∀ D σ H, t' D σ H → t D σ H) : PSs X e t' := ⟨fun pins s σ H D I q => h.run pins s σ H D I (k D σ H q)⟩

section
variable {K : PySem.W.Frag} {H0 H H0' H' : Hp} {σ : L2.St} {env env' e1 e2 : Env} {A A' B C : Fp} {ua ub : U} {x y op : Op} {Q : VK}
theorem tOf.go {R : VK} (s : Stt K H0 H σ env A) (h : ua env = some (x, e1)) (k : Post K σ H0 H A e1 x R) : tOf K ua σ H R := ⟨env, A, H0, x, e1, s, h, k⟩
/-- two expressions in a row -/
theorem go2 {R : V → V → Hp → Prop} (s : Stt K H0 H σ env A) (h1 : ua env = some (x, e1)) (h2 : ub e1 = some (y, e2))
    (k : ∀ v w H0' H' A' B C, Stt K H0' H' σ e2 A' → OpV K H0' H' σ x v B → OpV K H0' H' σ y w C → (∀ b, A' b + B b + C b ≤ 1) → Fr H0 H A H0' H' (fun b => A' b + B b + C b) → R v w H') :
    tOf K ua σ H fun v H1 => tOf K ub σ H1 fun w H2 => R v w H2 := by
  refine tOf.go s h1 fun v H1' H1 A1 B s1 o1 one1 f1 => ?_
  refine tOf.go s1 h2 fun w H2' H2 A2 C s2 o2 one2 f2 => ?_
  have ap := f2.apart (fun b hb => (o1.own b hb).2) one1 one2
  refine k v w H2' H2 A2 B C s2 (f2.op o1 one1) o2 (fun b => by have := ap b; omega) ?_
  exact f1.trans f2 (fun b hb => by show 0 < A1 b + B b; omega) fun b hb => by
    have hb' : 0 < A2 b + B b + C b := hb
    show 0 < A1 b + B b ∨ 0 < A2 b + C b
    omega
theorem OpVL.own : ∀ {ops : List Op} {vs : List V} {B : Fp}, OpVL K H0 H σ ops vs B → ∀ b, 0 < B b → H0 b = none ∧ H b ≠ none
  | [], vs, B, h, b, hb => by have := h.2 b; omega
  | op :: ops, vs, B, h, b, hb => by
    obtain ⟨v, vr, B1, B2, rfl, h1, h2, e⟩ := h
    rw [e b] at hb
    by_cases q : 0 < B1 b
    · exact h1.own b q
    · exact OpVL.own h2 b (by omega)
theorem Fr.opL (f : Fr H0 H A H0' H' C) : ∀ {ops : List Op} {vs : List V} {B : Fp}, OpVL K H0 H σ ops vs B → (∀ b, A b + B b ≤ 1) → OpVL K H0' H' σ ops vs B
  | [], vs, B, h, d => h
  | op :: ops, vs, B, h, d => by
    obtain ⟨v, vr, B1, B2, e1, h1, h2, e⟩ := h
    exact ⟨v, vr, B1, B2, e1, f.op h1 (fun b => by have := d b; rw [e b] at this; omega), f.opL h2 (fun b => by have := d b; rw [e b] at this; omega), e⟩
def uaNil : UA := fun env => some ([], env)
def uaCons (u : U) (a : UA) : UA := fun env => match u env with
  | some (x, e1) => match a e1 with
    | some (xs, e2) => some (x :: xs, e2)
    | none => none
  | none => none
theorem ga_nil {X : Cx} : PA X [] (aOf X.K uaNil) := pa_imp pa_nil fun σ H Q h => by
  obtain ⟨env, A, H0, ops, env', s, e, k⟩ := h
  cases e
  exact k [] H0 H A (fun _ => 0) s ⟨rfl, fun _ => rfl⟩ (fun b => s.one b) (Fr.refl fun b hb => hb)
theorem cons_ok {K : PySem.W.Frag} {u : U} {a : UA} : ∀ σ H Q, aOf K (uaCons u a) σ H Q → tCons (tOf K u) (aOf K a) σ H Q := fun σ H Q h => by
  obtain ⟨env, A, H0, ops, env', s, e, k⟩ := h
  unfold uaCons at e
  split at e
  · rename_i x e1 h1
    split at e
    · rename_i xs e2 h2
      cases e
      show tOf K u σ H fun v H1 => aOf K a σ H1 fun vs H2 => Q (v :: vs) H2
      refine tOf.go s h1 fun v H1' H1 A1 B s1 o1 one1 f1 => ⟨_, A1, H1', _, _, s1, h2, fun vs H2' H2 A2 C s2 o2 one2 f2 => ?_⟩
      have ap := f2.apart (fun b hb => (o1.own b hb).2) one1 one2
      refine k (v :: vs) H2' H2 A2 (fun b => B b + C b) s2 ⟨v, vs, B, C, rfl, f2.op o1 one1, o2, fun _ => rfl⟩ (fun b => by have := ap b; show A2 b + (B b + C b) ≤ 1; omega) ?_
      exact f1.trans f2 (fun b hb => by show 0 < A1 b + B b; omega) fun b hb => by
        have hb' : 0 < A2 b + (B b + C b) := hb
        show 0 < A1 b + B b ∨ 0 < A2 b + C b
        omega
    · cases e
  · cases e

theorem ga_cons {X : Cx} {e : Expr} {es : List Expr} {u : U} {a : UA} (hu : PE X e (tOf X.K u)) (ha : PA X es (aOf X.K a)) (hs : starEach (e :: es) X.env = (false, eval e X.env) :: starEach es X.env := by rfl) :
    PA X (e :: es) (aOf X.K (uaCons u a)) := pa_imp (pa_cons hu ha hs) cons_ok

/-! ### names, constants -/
def uVar (i : Nat) : U := fun env => match env[i]? with
  | some (some _) => some (.slot i, env)
  | _ => none
def uC (d : PyData) : U := fun env => some (.tmp (.p d), env)
theorem tvar_ok {i : Nat} : ∀ σ H Q, tOf K (uVar i) σ H Q → tVar i σ H Q := fun σ H Q h => by
  obtain ⟨env, A, H0, op, env', s, e, k⟩ := h
  unfold uVar at e
  split at e
  · rename_i m q
    cases e
    obtain ⟨t, A1, A2, f1, f2, f3, f4, f5⟩ := s.rep.zoom q
    obtain ⟨v, rfl, r⟩ := f2
    exact ⟨v, f1, k v H0 H A (fun _ => 0) s ⟨f1, fun _ => rfl⟩ (fun b => s.one b) (Fr.refl fun b hb => hb)⟩
  · cases e
theorem tc_ok {v : V} {d : PyData} (h : ∀ H, Dq K H v d) : ∀ σ H Q, tOf K (uC d) σ H Q → tC v σ H Q := fun σ H Q q => by
  obtain ⟨env, A, H0, op, env', s, e, k⟩ := q
  cases e
  exact k v H0 H A (fun _ => 0) s ⟨h H0, fun _ => rfl⟩ (fun b => s.one b) (Fr.refl fun b hb => hb)
end
section
variable {X : Cx}
theorem g_v (i : Nat) {x : Str} {pos : Pos} (hN : X.N[i]? = some x := by rfl) (hv : Vis X.env.scope x := by first | exact Or.inl rfl | exact Or.inr (Or.inl rfl) | exact Or.inr (Or.inr rfl)) (hd : (x == ("__debug__" : Str)) = false := by decide)
    (hcd : (x == ("__classdict__" : Str)) = false := by decide) : PE X (.Name x pos) (tOf X.K (uVar i)) := pe_imp (pe_var hN hv hd hcd) tvar_ok
theorem g_int {i : Int} {j pos} : PE X (.Constant (.int i) j pos) (tOf X.K (uC (.int i))) := pe_imp pe_int (tc_ok fun _ => .int i)
theorem g_bl {b : Bool} {j pos} : PE X (.Constant (.bool b) j pos) (tOf X.K (uC (.bool b))) := pe_imp pe_bl (tc_ok fun _ => .bl b)
theorem g_str {x : Str} {j pos} : PE X (.Constant (.str x) j pos) (tOf X.K (uC (.str x))) := pe_imp pe_str (tc_ok fun _ => .str x)
theorem g_non {j pos} : PE X (.Constant .none j pos) (tOf X.K (uC .none)) := pe_imp pe_non (tc_ok fun _ => .non)
theorem g_glob {x : Str} {v : V} {d : PyData} {u : Value} {pos : Pos} (hg : Gl X x) (hm : X.mg x = some u) (r : RelV v u) (hv : ∀ H, Dq X.K H v d) (hd : (x == ("__debug__" : Str)) = false := by decide) : PE X (.Name x pos) (tOf X.K (uC d)) := pe_imp (pe_glob hg hm r hd) (tc_ok hv)
end
end G

/-! G3: operators, calls of built-ins, tests, displays. -/
namespace G
open PySem PySem.Spec PyProof.Rows L2

/-- a new thing m comes: what follows holds of any value that represents it -/
def Fresh (K : PySem.W.Frag) (H0 H : Hp) (m : M) (Q : VK) : Prop := ∀ v H0' H' B, Rep K H0' H' m v B → (∀ b, B b ≤ 1) → Ex H0 H0' → Ex H0' H' →
  (∀ b, H b ≠ none → H' b = H b) → (∀ b, 0 < B b → H b = none) → (∀ b, H0' b ≠ none → H0 b ≠ none ∨ H b = none) → Q v H'
section
variable {K : PySem.W.Frag} {H0 H H0' H' : Hp} {σ : L2.St} {env env' : Env} {A A' B C : Fp} {Q : VK} {m : M}
theorem fresh_p {v : V} {d : PyData} (k : Fresh K H0 H (.p d) Q) (e : Ex H0 H) (h : Dq K H0 v d) : Q v H :=
  k v H0 H (fun _ => 0) ⟨h, fun _ => rfl⟩ (fun _ => Nat.zero_le _) (Ex.refl _) e (fun _ _ => rfl) (fun b hb => absurd hb (Nat.lt_irrefl _)) fun b q => .inl q
theorem ex_upd {p : Addr} {o : HO} (e : Ex H0 H) (hp : H p = none) : Ex H0 (upd H p o) := fun a u h => by
  rw [upd_ne (ne_of_none (e a u h) hp)]
  exact e a u h
theorem ex_new {p : Addr} {o : HO} (hp : H p = none) : Ex H (upd H p o) := ex_upd (Ex.refl H) hp
theorem ex_upd2 {p : Addr} {o : HO} (e : Ex H0 H) : Ex (upd H0 p o) (upd H p o) := fun a u h => by
  by_cases q : a = p
  · subst q
    rw [upd_same] at h ⊢
    exact h
  · rw [upd_ne q] at h ⊢
    exact e a u h
theorem upd_keep {p : Addr} {o : HO} (hp : H p = none) : ∀ b, H b ≠ none → upd H p o b = H b := fun b hb => upd_ne fun q => hb (q ▸ hp)
theorem fresh_l {p : Addr} {vs : List V} {ms : List M} {B : Fp} (k : Fresh K H0 H (.l ms) Q) (e : Ex H0 H) (hp : H p = none) (h : RepL K H0 H ms vs B) (h1 : ∀ b, B b = 0) : Q (.ref p) (upd H p (.lst vs)) := by
  refine k (.ref p) H0 (upd H p (.lst vs)) (fun b => if b = p then 1 else 0) ⟨p, vs, B, rfl, e.none hp, upd_same, h.mono (Ex.refl _) (fun b hb => by have := h1 b; omega), fun b => by rw [h1 b]; rfl⟩ (fun b => ?_) (Ex.refl _) (ex_upd e hp) (upd_keep hp) (fun b hb => ?_) fun b q => .inl q
  · show (if b = p then 1 else 0) ≤ 1
    split <;> omega
  · by_cases q : b = p
    · rw [q]; exact hp
    · have hb' : 0 < (if b = p then 1 else 0) := hb
      rw [if_neg q] at hb'
      omega
theorem fresh_lp {p : Addr} {vs : List V} {ds : List PyData} (k : Fresh K H0 H (.l (ds.map .p)) Q) (e : Ex H0 H) (hp : H p = none) (h : DqAll K H0 vs ds) : Q (.ref p) (upd H p (.lst vs)) :=
  fresh_l k e hp (repL_of_p h) fun _ => rfl
theorem fresh_tp {p : Addr} {vs : List V} {ds : List PyData} (k : Fresh K H0 H (.p (.tuple ds)) Q) (e : Ex H0 H) (hp : H p = none) (h : DqAll K H0 vs ds) : Q (.ref p) (upd H p (.tup vs)) := by
  have e1 : Ex H0 (upd H0 p (.tup vs)) := ex_new (e.none hp)
  refine k (.ref p) (upd H0 p (.tup vs)) (upd H p (.tup vs)) (fun _ => 0) ⟨.tup upd_same (dpA_mono e1 h), fun _ => rfl⟩ (fun _ => Nat.zero_le _) e1 (ex_upd2 e) (upd_keep hp) (fun b hb => absurd hb (Nat.lt_irrefl _)) fun b q => ?_
  by_cases z : b = p
  · rw [z]; exact .inr hp
  · rw [upd_ne z] at q
    exact .inl q
/-- from a new thing to what an expression's end wants -/
theorem post_fresh (s : Stt K H0' H' σ env' A') (f : Fr H0 H A H0' H' C) (hc : ∀ b, 0 < A' b → 0 < C b) (k : Post K σ H0 H A env' (.tmp m) Q) : Fresh K H0' H' m Q := by
  intro v H1' H1 B r one e0 e1 keep new fz
  have ap : ∀ b, 0 < A' b → H1' b = none ∧ H1 b = H' b := fun b hb => by
    obtain ⟨o1, o2⟩ := s.rep.own b hb
    refine ⟨?_, keep b o2⟩
    cases q : H1' b with
    | none => rfl
    | some o =>
      rcases fz b (by rw [q]; exact nofun) with z | z
      · exact absurd o1 z
      · exact absurd z o2
  have one' : ∀ b, A' b + B b ≤ 1 := fun b => by
    have h1 := s.one b
    have h2 := one b
    by_cases q : 0 < A' b
    · by_cases q2 : 0 < B b
      · exact absurd (new b q2) (s.rep.own b q).2
      · omega
    · omega
  have g : Fr H0' H' A' H1' H1 (fun b => A' b + B b) := ⟨e0, fun b hb _ => keep b hb, fun b hb => by rw [keep b hb]; exact hb, fun b hb => ?_, fun b hb => ?_⟩
  · refine k v H1' H1 A' B ⟨s.rep.mono e0 ap, s.one, e1⟩ r one' (f.trans g hc fun b hb => ?_)
    have hb' : 0 < A' b + B b := hb
    exact .inr hb
  · have hb' : 0 < A' b + B b := hb
    by_cases q : 0 < A' b
    · exact .inl q
    · exact .inr (new b (by omega))
  · rcases fz b hb with z | z
    · exact .inl z
    · exact .inr (.inr z)
end

/-! ### two-place operators -/
def S2 (K : PySem.W.Frag) (r : R2) (f : PyData → PyData → Option PyData) : Prop := ∀ H x y dx dy d, Dq K H x dx → Dq K H y dy → f dx dy = some d → ∃ v, (∀ H', Dq K H' v d) ∧ ∀ Q : VK, Q v H → r x y H Q
def F2 (K : PySem.W.Frag) (r : R2) (f : M → M → Option M) : Prop := ∀ H0 H x y mx my m C D, Ex H0 H → Rep K H0 H mx x C → Rep K H0 H my y D → f mx my = some m → ∀ Q, Fresh K H0 H m Q → r x y H Q
def lift2 (f : PyData → PyData → Option PyData) : M → M → Option M := fun x y => (frz x).bind fun dx => (frz y).bind fun dy => (f dx dy).map M.p
theorem S2.f {K : PySem.W.Frag} {r : R2} {f : PyData → PyData → Option PyData} (h : S2 K r f) : F2 K r (lift2 f) := by
  intro H0 H x y mx my m C D e rx ry q Q k
  obtain ⟨dx, h1, q⟩ := Option.bind_eq_some_iff.mp q
  obtain ⟨dy, h2, q⟩ := Option.bind_eq_some_iff.mp q
  obtain ⟨d, h3, rfl⟩ := Option.map_eq_some_iff.mp q
  obtain ⟨v, hv, hq⟩ := h H x y dx dy d (rx.frz e (fun _ _ => rfl) h1) (ry.frz e (fun _ _ => rfl) h2) h3
  exact hq Q (fresh_p k e (hv H0))
theorem F2.or {K : PySem.W.Frag} {r r' : R2} {f f' : M → M → Option M} (h : F2 K r f) (h' : F2 K r' f') : F2 K (fun x y H Q => r x y H Q ∨ r' x y H Q) (fun x y => (f x y).or (f' x y)) := by
  intro H0 H x y mx my m C D e rx ry q Q k
  have q : (f mx my).or (f' mx my) = some m := q
  cases z : f mx my with
  | some m' =>
    rw [z] at q
    cases q
    exact .inl (h H0 H x y mx my _ C D e rx ry z Q k)
  | none =>
    rw [z] at q
    exact .inr (h' H0 H x y mx my _ C D e rx ry q Q k)
def uBin (f : M → M → Option M) (a b : U) : U := fun env => (a env).bind fun p => (b p.2).bind fun q => (rd q.2 p.1).bind fun mx => (rd q.2 q.1).bind fun my => (f mx my).bind fun m => some (.tmp m, q.2)
theorem bin_ok {K : PySem.W.Frag} {r : R2} {f : M → M → Option M} {ua ub : U} (h : F2 K r f) : ∀ σ H Q, tOf K (uBin f ua ub) σ H Q → tOp r (tOf K ua) (tOf K ub) σ H Q := fun σ H Q t => by
  obtain ⟨env, A, H0, op, env', s, e, k⟩ := t
  obtain ⟨⟨x, e1⟩, h1, e⟩ := Option.bind_eq_some_iff.mp e
  obtain ⟨⟨y, e2⟩, h2, e⟩ := Option.bind_eq_some_iff.mp e
  obtain ⟨mx, h3, e⟩ := Option.bind_eq_some_iff.mp e
  obtain ⟨my, h4, e⟩ := Option.bind_eq_some_iff.mp e
  obtain ⟨m, h5, e⟩ := Option.bind_eq_some_iff.mp e
  cases e
  refine go2 s h1 h2 fun v w H0' H' A' B C s' o1 o2 one f => ?_
  obtain ⟨C1, r1, _⟩ := rd_ok s' o1 h3
  obtain ⟨C2, r2, _⟩ := rd_ok s' o2 h4
  exact h H0' H' v w mx my m C1 C2 s'.ex r1 r2 h5 Q (post_fresh s' f (fun b hb => by show 0 < A' b + B b + C b; omega) k)
section
variable {X : Cx} {a b : Expr} {ua ub : U} {pos : Pos} {r : R2} {f : M → M → Option M}
theorem g_op {op : Operator} (h : F2 X.K r f) (ho : OpR X (binaryOp op) r) (ha : PE X a (tOf X.K ua)) (hb : PE X b (tOf X.K ub)) : PE X (.BinOp a op b pos) (tOf X.K (uBin f ua ub)) := pe_imp (pe_op ho ha hb) (bin_ok h)
theorem g_cmp {op : CmpOp} (h : F2 X.K r f) (ho : OpR X (compareOp op) r) (ha : PE X a (tOf X.K ua)) (hb : PE X b (tOf X.K ub)) (hm : behindInMarks op b = false) : PE X (.Compare a [op] [b] pos) (tOf X.K (uBin f ua ub)) := pe_imp (pe_cmpR ho ha hb hm) (bin_ok h)
theorem g_ix (h : F2 X.K r f) (hr : IxR X r) (ha : PE X a (tOf X.K ua)) (hb : PE X b (tOf X.K ub)) (hs : PlainIx b) : PE X (.Subscript a b pos) (tOf X.K (uBin f ua ub)) := pe_imp (pe_ix hr ha hb hs) (bin_ok h)
end

/-! ### the operators' meanings -/
def iI (f : Int → Int → Int) : PyData → PyData → Option PyData
  | .int i, .int j => some (.int (f i j))
  | _, _ => none
def iIc (c : Int → Int → Bool) (f : Int → Int → Int) : PyData → PyData → Option PyData
  | .int i, .int j => if c i j = true then some (.int (f i j)) else none
  | _, _ => none
def iB (f : Int → Int → Bool) : PyData → PyData → Option PyData
  | .int i, .int j => some (.bool (f i j))
  | _, _ => none
section
variable {K : PySem.W.Frag}
theorem dq_int {H : Hp} {v : V} {i : Int} (h : Dq K H v (.int i)) : v = .int i := by cases h; rfl
theorem dq_bl {H : Hp} {v : V} {i : Bool} (h : Dq K H v (.bool i)) : v = .bl i := by cases h; rfl
theorem dq_str {H : Hp} {v : V} {i : Str} (h : Dq K H v (.str i)) : v = .str i := by cases h; rfl
theorem dq_non {H : Hp} {v : V} (h : Dq K H v .none) : v = .non := by cases h; rfl
theorem iI_inv {f : Int → Int → Int} {dx dy d : PyData} (h : iI f dx dy = some d) : ∃ i j, dx = .int i ∧ dy = .int j ∧ d = .int (f i j) := by
  unfold iI at h
  split at h
  · cases h; exact ⟨_, _, rfl, rfl, rfl⟩
  · cases h
theorem iIc_inv {c : Int → Int → Bool} {f : Int → Int → Int} {dx dy d : PyData} (h : iIc c f dx dy = some d) : ∃ i j, dx = .int i ∧ dy = .int j ∧ c i j = true ∧ d = .int (f i j) := by
  unfold iIc at h
  split at h
  · split at h
    · cases h; exact ⟨_, _, rfl, rfl, by assumption, rfl⟩
    · cases h
  · cases h
theorem iB_inv {f : Int → Int → Bool} {dx dy d : PyData} (h : iB f dx dy = some d) : ∃ i j, dx = .int i ∧ dy = .int j ∧ d = .bool (f i j) := by
  unfold iB at h
  split at h
  · cases h; exact ⟨_, _, rfl, rfl, rfl⟩
  · cases h
theorem s_I0 {f : Int → Int → Int} : S2 K (rI0 fun i j => .int (f i j)) (iI f) := by
  intro H x y dx dy d hx hy h
  obtain ⟨i, j, rfl, rfl, rfl⟩ := iI_inv h
  exact ⟨.int (f i j), fun _ => .int _, fun Q q => ⟨i, j, dq_int hx, dq_int hy, q⟩⟩
theorem s_Ic {Cc : Int → Int → Prop} {c : Int → Int → Bool} {f : Int → Int → Int} (hc : ∀ i j, c i j = true → Cc i j) : S2 K (rI Cc fun i j => .int (f i j)) (iIc c f) := by
  intro H x y dx dy d hx hy h
  obtain ⟨i, j, rfl, rfl, q, rfl⟩ := iIc_inv h
  exact ⟨.int (f i j), fun _ => .int _, fun Q z => ⟨i, j, dq_int hx, dq_int hy, hc i j q, z⟩⟩
theorem s_B0 {f : Int → Int → Bool} : S2 K (rI0 fun i j => .bl (f i j)) (iB f) := by
  intro H x y dx dy d hx hy h
  obtain ⟨i, j, rfl, rfl, rfl⟩ := iB_inv h
  exact ⟨.bl (f i j), fun _ => .bl _, fun Q q => ⟨i, j, dq_int hx, dq_int hy, q⟩⟩
end
def P64 : Int := 18446744073709551616
def cMul (i j : Int) : Bool := (decide (-P64 < i) && decide (i < P64)) || (decide (-P64 < j) && decide (j < P64))
def cDiv (i j : Int) : Bool := decide (0 < j) && decide (j < 1073741824)
def cMod (_ j : Int) : Bool := decide (0 < j)
def cPow (i j : Int) : Bool := decide (0 ≤ j) && decide (j ≤ 1000000) && decide (i.natAbs < 18446744073709551616)
abbrev fSub := lift2 (iI fun i j => i - j)
abbrev fMod := lift2 (iIc cMod fun i j => i % j)
abbrev fDiv := lift2 (iIc cDiv fun i j => i / j)
abbrev fPow := lift2 (iIc cPow fun i j => i ^ j.toNat)
abbrev fLt := lift2 (iB fun i j => decide (i < j))
abbrev fLe := lift2 (iB fun i j => decide (i ≤ j))
abbrev fGt := lift2 (iB fun i j => decide (j < i))
abbrev fGe := lift2 (iB fun i j => decide (j ≤ i))
def okD (d : PyData) : Bool := SeqAt.shaped d
def dEq : PyData → PyData → Option PyData := fun x y => if (okD x && okD y) = true then some (.bool (PyData.eqv x y)) else none
def dNe : PyData → PyData → Option PyData := fun x y => if (okD x && okD y) = true then some (.bool (!PyData.eqv x y)) else none
def isN : PyData → Bool
  | .none => true
  | _ => false
def dIs : PyData → PyData → Option PyData := fun x y => if isN y = true then some (.bool (isN x)) else none
def dIsNot : PyData → PyData → Option PyData := fun x y => if isN y = true then some (.bool (!isN x)) else none
/-- by truth of identity: None alone -/
theorem isN_iff {K : PySem.W.Frag} {H : Hp} {v : V} {d : PyData} (h : Dq K H v d) : decide (v = .non) = isN d := by
  cases h <;> first | rfl | exact decide_eq_false nofun
section
variable {K : PySem.W.Frag}
theorem s_eq : S2 K (rEqD K) dEq := by
  intro H x y dx dy d hx hy h
  unfold dEq at h
  split at h
  · rename_i q
    rw [Bool.and_eq_true] at q
    cases h
    exact ⟨.bl _, fun _ => .bl _, fun Q z => ⟨dx, dy, hx.dp, hy.dp, q.1, q.2, z⟩⟩
  · cases h
theorem s_ne : S2 K (rNeD K) dNe := by
  intro H x y dx dy d hx hy h
  unfold dNe at h
  split at h
  · rename_i q
    rw [Bool.and_eq_true] at q
    cases h
    exact ⟨.bl _, fun _ => .bl _, fun Q z => ⟨dx, dy, hx.dp, hy.dp, q.1, q.2, z⟩⟩
  · cases h
theorem s_is : S2 K (fun x y H Q => y = .non ∧ Q (.bl (decide (x = .non))) H) dIs := by
  intro H x y dx dy d hx hy h
  unfold dIs at h
  split at h
  · rename_i q
    cases h
    refine ⟨.bl (isN dx), fun _ => .bl _, fun Q z => ⟨?_, ?_⟩⟩
    · have := isN_iff hy
      rw [q] at this
      exact of_decide_eq_true this
    · rw [isN_iff hx]
      exact z
  · cases h
theorem s_isnot : S2 K (fun x y H Q => y = .non ∧ Q (.bl (!decide (x = .non))) H) dIsNot := by
  intro H x y dx dy d hx hy h
  unfold dIsNot at h
  split at h
  · rename_i q
    cases h
    refine ⟨.bl (!isN dx), fun _ => .bl _, fun Q z => ⟨?_, ?_⟩⟩
    · have := isN_iff hy
      rw [q] at this
      exact of_decide_eq_true this
    · rw [isN_iff hx]
      exact z
  · cases h
end
/-- a + b: ints, tuples, lists, texts -/
def catL (x y : M) : Option M := match x, y with
  | .p (.tuple xs), .p (.tuple ys) => if xs.length + ys.length ≤ sizeLine then some (.p (.tuple (xs ++ ys))) else none
  | _, _ => none
theorem f_catT {K : PySem.W.Frag} : F2 K (rCatA K) catL := by
  intro H0 H x y mx my m C D e rx ry q Q k
  unfold catL at q
  split at q
  · rename_i xs ys
    split at q
    · rename_i hz
      cases q
      obtain ⟨rx, _⟩ := rx
      obtain ⟨ry, _⟩ := ry
      cases rx with
      | tup h1 a1 =>
        cases ry with
        | tup h2 a2 =>
          rename_i a vs b ws
          refine ⟨a, b, vs, ws, rfl, rfl, SqT.of (e _ _ h1), SqT.of (e _ _ h2), by rw [dpA_len a1, dpA_len a2]; exact hz, fun z => ?_, fun _ z => ?_, fun _ _ p hp => ?_⟩
          · subst z
            cases a1
            exact fresh_p k e (.tup h2 a2)
          · subst z
            cases a2
            rw [List.append_nil] at k
            exact fresh_p k e (.tup h1 a1)
          · exact fresh_tp k e hp (dpA_append a1 a2)
    · cases q
  · cases q
/-- lists that one has: a + b -/
def catO (x y : M) : Option M := match x, y with
  | .l xs, .l ys => (allP xs).bind fun a => (allP ys).bind fun b => if a.length + b.length ≤ sizeLine then some (.l ((a ++ b).map M.p)) else none
  | _, _ => none
theorem f_catL {K : PySem.W.Frag} : F2 K rCat catO := by
  intro H0 H x y mx my m C D e rx ry q Q k
  unfold catO at q
  split at q
  · rename_i xs ys
    obtain ⟨as, h1, q⟩ := Option.bind_eq_some_iff.mp q
    obtain ⟨bs, h2, q⟩ := Option.bind_eq_some_iff.mp q
    split at q
    · rename_i hz
      cases q
      obtain ⟨a, vs, A', rfl, e2, e3, e4, e5⟩ := rx
      obtain ⟨b, ws, B', rfl, g2, g3, g4, g5⟩ := ry
      rw [allP_eq h1] at e4
      rw [allP_eq h2] at g4
      have q1 := (repL_p e4).1
      have q2 := (repL_p g4).1
      exact ⟨a, b, vs, ws, rfl, rfl, e3, g3, by rw [dpA_len q1, dpA_len q2]; exact hz, fun p hp => fresh_lp k e hp (dpA_append q1 q2)⟩
    · cases q
  · cases q
def sAdd : PyData → PyData → Option PyData
  | .str x, .str y => if x.length + y.length ≤ sizeLine then some (.str (x ++ y)) else none
  | _, _ => none
theorem s_addS {K : PySem.W.Frag} : S2 K (fun x y H Q => ∃ i j, x = .str i ∧ y = .str j ∧ i.length + j.length ≤ sizeLine ∧ Q (.str (i ++ j)) H) sAdd := by
  intro H x y dx dy d hx hy h
  unfold sAdd at h
  split at h
  · split at h
    · rename_i hz
      cases h
      exact ⟨.str _, fun _ => .str _, fun Q z => ⟨_, _, dq_str hx, dq_str hy, hz, z⟩⟩
    · cases h
  · cases h
def fAdd (x y : M) : Option M := (lift2 (iI fun i j => i + j) x y).or ((catL x y).or ((catO x y).or (lift2 sAdd x y)))
/-- a * b of ints; tuples, lists by a number -/
def fMulI := lift2 (iIc cMul fun i j => i * j)
section
variable {X : Cx} {a b : Expr} {ua ub : U} {pos : Pos}
theorem g_add (ha : PE X a (tOf X.K ua)) (hb : PE X b (tOf X.K ub)) : PE X (.BinOp a .Add b pos) (tOf X.K (uBin fAdd ua ub)) :=
  g_op (s_I0.f.or (f_catT.or (f_catL.or s_addS.f))) (op_add.or (op_catA.or (op_cat.or op_add_str))) ha hb
theorem g_sub (ha : PE X a (tOf X.K ua)) (hb : PE X b (tOf X.K ub)) : PE X (.BinOp a .Sub b pos) (tOf X.K (uBin fSub ua ub)) := g_op s_I0.f op_sub ha hb
theorem c_mul (i j : Int) (h : cMul i j = true) : CMul i j := by
  unfold cMul P64 at h
  simp only [Bool.or_eq_true, Bool.and_eq_true, decide_eq_true_eq] at h
  exact h
theorem c_div (i j : Int) (h : cDiv i j = true) : CDiv i j := by
  unfold cDiv at h
  simp only [Bool.and_eq_true, decide_eq_true_eq] at h
  exact h
theorem c_pow (i j : Int) (h : cPow i j = true) : CPow i j := by
  unfold cPow at h
  simp only [Bool.and_eq_true, decide_eq_true_eq] at h
  exact ⟨h.1.1, h.1.2, h.2⟩
theorem g_mod (ha : PE X a (tOf X.K ua)) (hb : PE X b (tOf X.K ub)) : PE X (.BinOp a .Mod b pos) (tOf X.K (uBin fMod ua ub)) := g_op (s_Ic fun i j h => of_decide_eq_true h).f op_mod ha hb
theorem g_div (ha : PE X a (tOf X.K ua)) (hb : PE X b (tOf X.K ub)) : PE X (.BinOp a .FloorDiv b pos) (tOf X.K (uBin fDiv ua ub)) := g_op (s_Ic c_div).f op_fdiv ha hb
theorem g_pow (ha : PE X a (tOf X.K ua)) (hb : PE X b (tOf X.K ub)) : PE X (.BinOp a .Pow b pos) (tOf X.K (uBin fPow ua ub)) := g_op (s_Ic c_pow).f op_pow ha hb
theorem g_mulI (ha : PE X a (tOf X.K ua)) (hb : PE X b (tOf X.K ub)) : PE X (.BinOp a .Mult b pos) (tOf X.K (uBin fMulI ua ub)) := g_op (s_Ic c_mul).f op_mul ha hb
theorem g_lt (ha : PE X a (tOf X.K ua)) (hb : PE X b (tOf X.K ub)) : PE X (.Compare a [.Lt] [b] pos) (tOf X.K (uBin fLt ua ub)) := g_cmp s_B0.f op_lt ha hb (nomark _)
theorem g_le (ha : PE X a (tOf X.K ua)) (hb : PE X b (tOf X.K ub)) : PE X (.Compare a [.LtE] [b] pos) (tOf X.K (uBin fLe ua ub)) := g_cmp s_B0.f op_le ha hb (nomark _)
theorem g_gt (ha : PE X a (tOf X.K ua)) (hb : PE X b (tOf X.K ub)) : PE X (.Compare a [.Gt] [b] pos) (tOf X.K (uBin fGt ua ub)) := g_cmp s_B0.f op_gt ha hb (nomark _)
theorem g_ge (ha : PE X a (tOf X.K ua)) (hb : PE X b (tOf X.K ub)) : PE X (.Compare a [.GtE] [b] pos) (tOf X.K (uBin fGe ua ub)) := g_cmp s_B0.f op_ge ha hb (nomark _)
theorem g_eq (hu : X.A.units + 64 < cLine) (ha : PE X a (tOf X.K ua)) (hb : PE X b (tOf X.K ub)) : PE X (.Compare a [.Eq] [b] pos) (tOf X.K (uBin (lift2 dEq) ua ub)) := g_cmp s_eq.f (op_eqD hu) ha hb (nomark _)
theorem g_ne (hu : X.A.units + 64 < cLine) (ha : PE X a (tOf X.K ua)) (hb : PE X b (tOf X.K ub)) : PE X (.Compare a [.NotEq] [b] pos) (tOf X.K (uBin (lift2 dNe) ua ub)) := g_cmp s_ne.f (op_neD hu) ha hb (nomark _)
theorem g_is (ha : PE X a (tOf X.K ua)) (hb : PE X b (tOf X.K ub)) : PE X (.Compare a [.Is] [b] pos) (tOf X.K (uBin (lift2 dIs) ua ub)) := g_cmp s_is.f op_isN ha hb (nomark _)
theorem g_isnot (ha : PE X a (tOf X.K ua)) (hb : PE X b (tOf X.K ub)) : PE X (.Compare a [.IsNot] [b] pos) (tOf X.K (uBin (lift2 dIsNot) ua ub)) := g_cmp s_isnot.f op_notN ha hb (nomark _)
end
end G

/-! G4: calls of built-ins, displays, tests, conditional expressions, slices, items. -/
namespace G
open PySem PySem.Spec PyProof.Rows L2

def RepB (K : PySem.W.Frag) (H0 H : Hp) : List M → List V → Prop
  | [], vs => vs = []
  | m :: ms, vs => ∃ v vr C, vs = v :: vr ∧ Rep K H0 H m v C ∧ RepB K H0 H ms vr
def rdL (env : Env) : List Op → Option (List M)
  | [] => some []
  | op :: ops => (rd env op).bind fun m => (rdL env ops).bind fun ms => some (m :: ms)
def FL (K : PySem.W.Frag) (r : List V → Hp → VK → Prop) (f : List M → Option M) : Prop := ∀ H0 H vs ms m, Ex H0 H → RepB K H0 H ms vs → f ms = some m → ∀ Q, Fresh K H0 H m Q → r vs H Q
section
variable {K : PySem.W.Frag} {H0 H H0' H' : Hp} {σ : L2.St} {env env' : Env} {A A' B C : Fp} {Q : VK}
theorem rdL_ok (s : Stt K H0 H σ env A) : ∀ {ops : List Op} {vs : List V} {B : Fp} {ms : List M}, OpVL K H0 H σ ops vs B → rdL env ops = some ms → RepB K H0 H ms vs
  | [], vs, B, ms, h, e => by
    cases e
    exact h.1
  | op :: ops, vs, B, ms, h, e => by
    obtain ⟨v, vr, B1, B2, rfl, h1, h2, ea⟩ := h
    unfold rdL at e
    obtain ⟨m, e1, e⟩ := Option.bind_eq_some_iff.mp e
    obtain ⟨mr, e2, e⟩ := Option.bind_eq_some_iff.mp e
    cases e
    obtain ⟨C, r, _⟩ := rd_ok s h1 e1
    exact ⟨v, vr, C, rfl, r, rdL_ok s h2 e2⟩
def uFun (f : List M → Option M) (ua : UA) : U := fun env => (ua env).bind fun p => (rdL p.2 p.1).bind fun ms => (f ms).bind fun m => some (.tmp m, p.2)
theorem fun_ok {r : List V → Hp → VK → Prop} {f : List M → Option M} {ua : UA} (h : FL K r f) : ∀ σ H Q, tOf K (uFun f ua) σ H Q → tCB r (aOf K ua) σ H Q := fun σ H Q t => by
  obtain ⟨env, A, H0, op, env', s, e, k⟩ := t
  obtain ⟨⟨ops, e1⟩, h1, e⟩ := Option.bind_eq_some_iff.mp e
  obtain ⟨ms, h2, e⟩ := Option.bind_eq_some_iff.mp e
  obtain ⟨m, h3, e⟩ := Option.bind_eq_some_iff.mp e
  cases e
  refine ⟨env, A, H0, ops, _, s, h1, fun vs H0' H' A' B s' o one f => ?_⟩
  exact h H0' H' vs ms m s'.ex (rdL_ok s' o h2) h3 Q (post_fresh s' f (fun b hb => by show 0 < A' b + B b; omega) k)
theorem FL.or {r r' : List V → Hp → VK → Prop} {f f' : List M → Option M} (h : FL K r f) (h' : FL K r' f') : FL K (fun xs H Q => r xs H Q ∨ r' xs H Q) (fun ms => (f ms).or (f' ms)) := by
  intro H0 H vs ms m e rb q Q k
  have q : (f ms).or (f' ms) = some m := q
  cases z : f ms with
  | some m' =>
    rw [z] at q
    cases q
    exact .inl (h H0 H vs ms _ e rb z Q k)
  | none =>
    rw [z] at q
    exact .inr (h' H0 H vs ms m e rb q Q k)
theorem repB1 {m : M} {vs : List V} (h : RepB K H0 H [m] vs) : ∃ v C, vs = [v] ∧ Rep K H0 H m v C := by
  obtain ⟨v, vr, C, rfl, r, h⟩ := h
  have h : vr = [] := h
  subst h
  exact ⟨v, C, rfl, r⟩
theorem repB2 {m n : M} {vs : List V} (h : RepB K H0 H [m, n] vs) : ∃ v w C D, vs = [v, w] ∧ Rep K H0 H m v C ∧ Rep K H0 H n w D := by
  obtain ⟨v, vr, C, rfl, r, h⟩ := h
  obtain ⟨w, D, rfl, r2⟩ := repB1 h
  exact ⟨v, w, C, D, rfl, r, r2⟩
theorem rep_int {i : Int} {v : V} {C : Fp} (h : Rep K H0 H (.p (.int i)) v C) : v = .int i := dq_int h.1
theorem rep_bl {i : Bool} {v : V} {C : Fp} (h : Rep K H0 H (.p (.bool i)) v C) : v = .bl i := dq_bl h.1
theorem rep_str {i : Str} {v : V} {C : Fp} (h : Rep K H0 H (.p (.str i)) v C) : v = .str i := dq_str h.1
end
section
variable {X : Cx} {e : Expr} {es : List Expr} {x : Str} {p pos : Pos} {ua : UA} {r : List V → Hp → VK → Prop} {f : List M → Option M} {id T : String}
theorem g_callB (h : FL X.K r f) (hc : CallR X (.builtin id) r) (hg : Gl X x) (hm : X.mg x = none) (hv : bootBuiltins x = some (.builtin id)) (ha : PA X (e :: es) (aOf X.K ua)) (hn : x ≠ "__name__" := by decide) (hdb : (x == ("__debug__" : Str)) = false := by decide)
    (he : starEach (e :: es) X.env = (false, eval e X.env) :: starEach es X.env := by rfl) (hpl : (backTo pos (starEach es X.env)).any (·.1) = false := by rfl) : PE X (.Call (.Name x p) (e :: es) [] pos) (tOf X.K (uFun f ua)) :=
  pe_imp (pe_callB hc hg hm hv ha hn hdb he hpl) (fun_ok h)
theorem g_callTy (h : FL X.K r f) (hc : CallR X (.type T) r) (hg : Gl X x) (hm : X.mg x = none) (hv : bootBuiltins x = some (.type T)) (ha : PA X (e :: es) (aOf X.K ua)) (hn : x ≠ "__name__" := by decide) (hdb : (x == ("__debug__" : Str)) = false := by decide)
    (he : starEach (e :: es) X.env = (false, eval e X.env) :: starEach es X.env := by rfl) (hpl : (backTo pos (starEach es X.env)).any (·.1) = false := by rfl) : PE X (.Call (.Name x p) (e :: es) [] pos) (tOf X.K (uFun f ua)) :=
  pe_imp (pe_callTy hc hg hm hv ha hn hdb he hpl) (fun_ok h)
end

/-! ### the built-ins' meanings -/
def lenM : M → Option Nat
  | .p (.str x) => if x.length ≤ sizeLine then some x.length else none
  | .p (.list ds) => some ds.length
  | .p (.tuple ds) => some ds.length
  | .l ms => some ms.length
  | .t ms => some ms.length
  | _ => none
def fLen : List M → Option M
  | [m] => (lenM m).map fun (n : Nat) => .p (.int (n : Int))
  | _ => none
def fAbs : List M → Option M
  | [.p (.int i)] => some (.p (.int (if i < 0 then -i else i)))
  | _ => none
def fInt : List M → Option M
  | [.p (.int i)] => some (.p (.int i))
  | [.p (.bool b)] => some (.p (.int (if b then 1 else 0)))
  | _ => none
def fList : List M → Option M
  | [m] => (els m).map fun ds => .l (ds.map .p)
  | _ => none
def tupM : M → Option (List PyData)
  | .p (.tuple ds) => some ds
  | .p (.list ds) => some ds
  | .l ms => allP ms
  | _ => none
def fTuple : List M → Option M
  | [m] => (tupM m).map fun ds => .p (.tuple ds)
  | _ => none
def intsOf : List PyData → Option (List Int)
  | [] => some []
  | .int i :: ds => (intsOf ds).map (i :: ·)
  | _ :: _ => none
def blsOf : List PyData → Option (List Bool)
  | [] => some []
  | .bool i :: ds => (blsOf ds).map (i :: ·)
  | _ :: _ => none
/-- the items of a list (no tuple) -/
def lsM : M → Option (List PyData)
  | .p (.list ds) => some ds
  | .l ms => allP ms
  | _ => none
def fSum : List M → Option M
  | [m] => (lsM m).bind fun ds => (intsOf ds).map fun ns => .p (.int ns.sum)
  | _ => none
def fAll : List M → Option M
  | [m] => (lsM m).bind fun ds => (blsOf ds).map fun bs => .p (.bool (bs.all id))
  | _ => none
def fAny : List M → Option M
  | [m] => (lsM m).bind fun ds => (blsOf ds).map fun bs => .p (.bool (bs.any id))
  | _ => none
def ins (x : Int) : List Int → List Int
  | [] => [x]
  | y :: r => if x ≤ y then x :: y :: r else y :: ins x r
def isort : List Int → List Int
  | [] => []
  | x :: r => ins x (isort r)
def fSorted : List M → Option M
  | [m] => (lsM m).bind fun ds => (intsOf ds).map fun ns => .l ((isort ns).map fun i => .p (.int i))
  | _ => none
def least : Int → List Int → Int
  | x, [] => x
  | x, y :: r => least (if y < x then y else x) r
def most : Int → List Int → Int
  | x, [] => x
  | x, y :: r => most (if x < y then y else x) r
def fMin : List M → Option M
  | [m] => (lsM m).bind fun ds => (intsOf ds).bind fun ns => match ns with
    | [] => none
    | x :: r => some (.p (.int (least x r)))
  | _ => none
def fMax : List M → Option M
  | [m] => (lsM m).bind fun ds => (intsOf ds).bind fun ns => match ns with
    | [] => none
    | x :: r => some (.p (.int (most x r)))
  | _ => none
section
variable {K : PySem.W.Frag} {H0 H : Hp}
theorem ints_dq : ∀ {ds : List PyData} {ns : List Int} {vs : List V}, intsOf ds = some ns → DqAll K H vs ds → vs = ns.map V.int
  | [], ns, vs, e, h => by cases e; cases h; rfl
  | d :: ds, ns, vs, e, h => by
    cases h with
    | cons h1 h2 =>
      cases d with
      | int i =>
        unfold intsOf at e
        obtain ⟨r, e1, rfl⟩ := Option.map_eq_some_iff.mp e
        rw [dq_int h1, ints_dq e1 h2]
        rfl
      | _ => cases e
theorem bls_dq : ∀ {ds : List PyData} {ns : List Bool} {vs : List V}, blsOf ds = some ns → DqAll K H vs ds → vs = ns.map V.bl
  | [], ns, vs, e, h => by cases e; cases h; rfl
  | d :: ds, ns, vs, e, h => by
    cases h with
    | cons h1 h2 =>
      cases d with
      | bool i =>
        unfold blsOf at e
        obtain ⟨r, e1, rfl⟩ := Option.map_eq_some_iff.mp e
        rw [dq_bl h1, bls_dq e1 h2]
        rfl
      | _ => cases e
theorem dq_ints : ∀ (ns : List Int), DqAll K H (ns.map V.int) (ns.map PyData.int)
  | [] => .nil
  | n :: ns => .cons (.int n) (dq_ints ns)
theorem rep_ls {m : M} {v : V} {A : Fp} {ds : List PyData} (e : Ex H0 H) (h : Rep K H0 H m v A) (q : lsM m = some ds) : ∃ a vs, v = .ref a ∧ SqL K H a vs ∧ DqAll K H0 vs ds := by
  cases m with
  | p d =>
    obtain ⟨h, _⟩ := h
    cases d with
    | list xs =>
      cases q
      cases h with
      | lst h a => exact ⟨_, _, rfl, e.sl h, a⟩
    | _ => cases q
  | l ms =>
    obtain ⟨a, vs, A', rfl, e2, e3, e4, e5⟩ := h
    have q : allP ms = some ds := q
    rw [allP_eq q] at e4
    exact ⟨a, vs, rfl, SqL.of e3, (repL_p e4).1⟩
  | t ms => cases q
  | dk _ _ => cases q
  | dt _ _ => cases q
  | fk _ _ => cases q
theorem rep_len {m : M} {v : V} {A : Fp} {n : Nat} (e : Ex H0 H) (h : Rep K H0 H m v A) (q : lenM m = some n) : LenV K v H n := by
  cases m with
  | p d =>
    obtain ⟨h, _⟩ := h
    cases h with
    | str x =>
      have q : (if x.length ≤ sizeLine then some x.length else none) = some n := q
      by_cases hz : x.length ≤ sizeLine
      · rw [if_pos hz] at q
        cases q
        exact ⟨hz, rfl⟩
      · rw [if_neg hz] at q
        cases q
    | lst h a =>
      cases q
      exact .inl ⟨_, e.sl h, (dpA_len a).symm⟩
    | tup h a =>
      cases q
      exact .inr ⟨_, SqT.of (e _ _ h), (dpA_len a).symm⟩
    | _ => cases q
  | l ms =>
    obtain ⟨a, vs, A', rfl, e2, e3, e4, e5⟩ := h
    cases q
    exact .inl ⟨_, SqL.of e3, (repL_len e4).symm⟩
  | t ms =>
    obtain ⟨a, vs, rfl, e2, e4⟩ := h
    cases q
    exact .inr ⟨_, SqT.of (e _ _ e2), (repL_len e4).symm⟩
  | dk _ _ => cases q
  | dt _ _ => cases q
  | fk _ _ => cases q
theorem fl_len : FL K (fun xs H Q => ∃ (x : V) (n : Nat), xs = [x] ∧ LenV K x H n ∧ Q (.int n) H) fLen := by
  intro H0 H vs ms m e rb q Q k
  unfold fLen at q
  split at q
  · obtain ⟨n, h1, rfl⟩ := Option.map_eq_some_iff.mp q
    obtain ⟨v, C, rfl, r⟩ := repB1 rb
    exact ⟨v, n, rfl, rep_len e r h1, fresh_p k e (.int _)⟩
  · cases q
theorem fl_abs : FL K (fun xs H Q => ∃ i, xs = [.int i] ∧ Q (.int (if i < 0 then -i else i)) H) fAbs := by
  intro H0 H vs ms m e rb q Q k
  unfold fAbs at q
  split at q
  · cases q
    obtain ⟨v, C, rfl, r⟩ := repB1 rb
    rw [rep_int r]
    exact ⟨_, rfl, fresh_p k e (.int _)⟩
  · cases q
theorem fl_int : FL K (fun xs H Q => (∃ i, xs = [.int i] ∧ Q (.int i) H) ∨ ∃ k, xs = [.bl k] ∧ Q (.int (if k then 1 else 0)) H) fInt := by
  intro H0 H vs ms m e rb q Q k
  unfold fInt at q
  split at q
  · cases q
    obtain ⟨v, C, rfl, r⟩ := repB1 rb
    rw [rep_int r]
    exact .inl ⟨_, rfl, fresh_p k e (.int _)⟩
  · cases q
    obtain ⟨v, C, rfl, r⟩ := repB1 rb
    rw [rep_bl r]
    exact .inr ⟨_, rfl, fresh_p k e (.int _)⟩
  · cases q
theorem fl_list : FL K (fun xs H Q => ∃ p ys, xs = [.ref p] ∧ (SqL K H p ys ∨ SqT K H p ys) ∧ ∀ l, H l = none → Q (.ref l) (upd H l (.lst ys))) fList := by
  intro H0 H vs ms m e rb q Q k
  unfold fList at q
  split at q
  · obtain ⟨ds, h1, rfl⟩ := Option.map_eq_some_iff.mp q
    obtain ⟨v, C, rfl, r⟩ := repB1 rb
    obtain ⟨a, vs, rfl, h, hd⟩ := rep_els e r h1
    exact ⟨a, vs, rfl, h.imp id SqT.of, fun l hl => fresh_lp k e hl hd⟩
  · cases q
theorem fl_tuple : FL K (fun xs H Q => ∃ p ys, xs = [.ref p] ∧ ((SqL K H p ys ∧ ∀ l, H l = none → Q (.ref l) (upd H l (.tup ys))) ∨ (SqT K H p ys ∧ Q (.ref p) H))) fTuple := by
  intro H0 H vs ms m e rb q Q k
  unfold fTuple at q
  split at q
  · obtain ⟨ds, h1, rfl⟩ := Option.map_eq_some_iff.mp q
    obtain ⟨v, C, rfl, r⟩ := repB1 rb
    unfold tupM at h1
    split at h1
    · cases h1
      obtain ⟨r, _⟩ := r
      cases r with
      | tup h a => exact ⟨_, _, rfl, .inr ⟨SqT.of (e _ _ h), fresh_p k e (.tup h a)⟩⟩
    · cases h1
      obtain ⟨a, vs, rfl, h, hd⟩ := rep_ls (ds := ds) e r rfl
      exact ⟨_, _, rfl, .inl ⟨h, fun l hl => fresh_tp k e hl hd⟩⟩
    · obtain ⟨a, vs, rfl, h, hd⟩ := rep_ls (ds := ds) e r h1
      exact ⟨_, _, rfl, .inl ⟨h, fun l hl => fresh_tp k e hl hd⟩⟩
    · cases h1
  · cases q
theorem fl_sum : FL K (rSum K) fSum := by
  intro H0 H vs ms m e rb q Q k
  unfold fSum at q
  split at q
  · obtain ⟨ds, h1, q⟩ := Option.bind_eq_some_iff.mp q
    obtain ⟨ns, h2, rfl⟩ := Option.map_eq_some_iff.mp q
    obtain ⟨v, C, rfl, r⟩ := repB1 rb
    obtain ⟨a, vs, rfl, h, hd⟩ := rep_ls e r h1
    rw [ints_dq h2 hd] at h
    exact ⟨a, ns, rfl, h, fresh_p k e (.int _)⟩
  · cases q
theorem fl_all : FL K (rAll K) fAll := by
  intro H0 H vs ms m e rb q Q k
  unfold fAll at q
  split at q
  · obtain ⟨ds, h1, q⟩ := Option.bind_eq_some_iff.mp q
    obtain ⟨ns, h2, rfl⟩ := Option.map_eq_some_iff.mp q
    obtain ⟨v, C, rfl, r⟩ := repB1 rb
    obtain ⟨a, vs, rfl, h, hd⟩ := rep_ls e r h1
    rw [bls_dq h2 hd] at h
    exact ⟨a, ns, rfl, h, fresh_p k e (.bl _)⟩
  · cases q
theorem fl_any : FL K (rAny K) fAny := by
  intro H0 H vs ms m e rb q Q k
  unfold fAny at q
  split at q
  · obtain ⟨ds, h1, q⟩ := Option.bind_eq_some_iff.mp q
    obtain ⟨ns, h2, rfl⟩ := Option.map_eq_some_iff.mp q
    obtain ⟨v, C, rfl, r⟩ := repB1 rb
    obtain ⟨a, vs, rfl, h, hd⟩ := rep_ls e r h1
    rw [bls_dq h2 hd] at h
    exact ⟨a, ns, rfl, h, fresh_p k e (.bl _)⟩
  · cases q
theorem ins_perm (x : Int) : ∀ l : List Int, (ins x l).Perm (x :: l)
  | [] => List.Perm.refl _
  | y :: r => by
    unfold ins
    split
    · exact List.Perm.refl _
    · exact ((ins_perm x r).cons y).trans (List.Perm.swap x y r)
theorem isort_perm : ∀ l : List Int, (isort l).Perm l
  | [] => List.Perm.refl _
  | x :: r => (ins_perm x (isort r)).trans ((isort_perm r).cons x)
theorem ins_sorted (x : Int) : ∀ l : List Int, l.Pairwise (· ≤ ·) → (ins x l).Pairwise (· ≤ ·)
  | [], _ => List.pairwise_singleton _ _
  | y :: r, h => by
    obtain ⟨h1, h2⟩ := List.pairwise_cons.mp h
    unfold ins
    split
    · rename_i hxy
      refine List.pairwise_cons.mpr ⟨fun z hz => ?_, h⟩
      rcases List.mem_cons.mp hz with rfl | hz
      · exact hxy
      · exact Int.le_trans hxy (h1 z hz)
    · rename_i hxy
      refine List.pairwise_cons.mpr ⟨fun z hz => ?_, ins_sorted x r h2⟩
      rcases List.mem_cons.mp ((ins_perm x r).mem_iff.mp hz) with rfl | hz
      · omega
      · exact h1 z hz
theorem isort_sorted : ∀ l : List Int, (isort l).Pairwise (· ≤ ·)
  | [] => List.Pairwise.nil
  | x :: r => ins_sorted x _ (isort_sorted r)
theorem sorted_one : ∀ {a b : List Int}, a.Perm b → a.Pairwise (· ≤ ·) → b.Pairwise (· ≤ ·) → a = b
  | [], b, p, _, _ => (List.Perm.nil_eq p)
  | x :: xs, [], p, _, _ => absurd (p.length_eq) (by simp)
  | x :: xs, y :: ys, p, ha, hb => by
    obtain ⟨a1, a2⟩ := List.pairwise_cons.mp ha
    obtain ⟨b1, b2⟩ := List.pairwise_cons.mp hb
    have hxy : x = y := by
      have hx : x ∈ y :: ys := p.mem_iff.mp List.mem_cons_self
      have hy : y ∈ x :: xs := p.mem_iff.mpr List.mem_cons_self
      rcases List.mem_cons.mp hx with e | hx
      · exact e
      · rcases List.mem_cons.mp hy with e | hy
        · exact e.symm
        · have := a1 y hy
          have := b1 x hx
          omega
    subst hxy
    rw [sorted_one (List.Perm.cons_inv p) a2 b2]
theorem fl_sorted : FL K (rSortedI K) fSorted := by
  intro H0 H vs ms m e rb q Q k
  unfold fSorted at q
  split at q
  · obtain ⟨ds, h1, q⟩ := Option.bind_eq_some_iff.mp q
    obtain ⟨ns, h2, rfl⟩ := Option.map_eq_some_iff.mp q
    obtain ⟨v, C, rfl, r⟩ := repB1 rb
    obtain ⟨a, vs, rfl, h, hd⟩ := rep_ls e r h1
    rw [ints_dq h2 hd] at h
    refine ⟨a, ns, rfl, h, fun ns' p hp hs hn => ?_⟩
    rw [sorted_one (hp.trans (isort_perm ns).symm) hs (isort_sorted ns)]
    refine fresh_lp (K := K) (ds := (isort ns).map PyData.int) ?_ e hn (dq_ints _)
    rw [List.map_map]
    exact k
  · cases q
theorem least_ok : ∀ (r : List Int) (x : Int), (least x r ∈ x :: r) ∧ ∀ y ∈ x :: r, least x r ≤ y
  | [], x => ⟨List.mem_cons_self, fun y hy => by
    rcases List.mem_cons.mp hy with rfl | h
    · exact Int.le_refl _
    · cases h⟩
  | z :: r, x => by
    obtain ⟨h1, h2⟩ := least_ok r (if z < x then z else x)
    unfold least
    by_cases q : z < x
    · rw [if_pos q] at h1 h2 ⊢
      refine ⟨?_, fun y hy => ?_⟩
      · rcases List.mem_cons.mp h1 with e | h
        · rw [e]; exact List.mem_cons_of_mem _ List.mem_cons_self
        · exact List.mem_cons_of_mem _ (List.mem_cons_of_mem _ h)
      · rcases List.mem_cons.mp hy with rfl | hy
        · have := h2 z List.mem_cons_self
          omega
        · exact h2 y hy
    · rw [if_neg q] at h1 h2 ⊢
      refine ⟨?_, fun y hy => ?_⟩
      · rcases List.mem_cons.mp h1 with e | h
        · rw [e]; exact List.mem_cons_self
        · exact List.mem_cons_of_mem _ (List.mem_cons_of_mem _ h)
      · rcases List.mem_cons.mp hy with rfl | hy
        · exact h2 _ List.mem_cons_self
        · rcases List.mem_cons.mp hy with rfl | hy
          · have := h2 x List.mem_cons_self
            omega
          · exact h2 y (List.mem_cons_of_mem _ hy)
theorem most_ok : ∀ (r : List Int) (x : Int), (most x r ∈ x :: r) ∧ ∀ y ∈ x :: r, y ≤ most x r
  | [], x => ⟨List.mem_cons_self, fun y hy => by
    rcases List.mem_cons.mp hy with rfl | h
    · exact Int.le_refl _
    · cases h⟩
  | z :: r, x => by
    obtain ⟨h1, h2⟩ := most_ok r (if x < z then z else x)
    unfold most
    by_cases q : x < z
    · rw [if_pos q] at h1 h2 ⊢
      refine ⟨?_, fun y hy => ?_⟩
      · rcases List.mem_cons.mp h1 with e | h
        · rw [e]; exact List.mem_cons_of_mem _ List.mem_cons_self
        · exact List.mem_cons_of_mem _ (List.mem_cons_of_mem _ h)
      · rcases List.mem_cons.mp hy with rfl | hy
        · have := h2 z List.mem_cons_self
          omega
        · exact h2 y hy
    · rw [if_neg q] at h1 h2 ⊢
      refine ⟨?_, fun y hy => ?_⟩
      · rcases List.mem_cons.mp h1 with e | h
        · rw [e]; exact List.mem_cons_self
        · exact List.mem_cons_of_mem _ (List.mem_cons_of_mem _ h)
      · rcases List.mem_cons.mp hy with rfl | hy
        · exact h2 _ List.mem_cons_self
        · rcases List.mem_cons.mp hy with rfl | hy
          · have := h2 x List.mem_cons_self
            omega
          · exact h2 y (List.mem_cons_of_mem _ hy)
theorem fl_min : FL K (rMin K) fMin := by
  intro H0 H vs ms m e rb q Q k
  unfold fMin at q
  split at q
  · obtain ⟨ds, h1, q⟩ := Option.bind_eq_some_iff.mp q
    obtain ⟨ns, h2, q⟩ := Option.bind_eq_some_iff.mp q
    obtain ⟨v, C, rfl, r⟩ := repB1 rb
    obtain ⟨a, vs, rfl, h, hd⟩ := rep_ls e r h1
    rw [ints_dq h2 hd] at h
    cases ns with
    | nil => cases q
    | cons x l =>
      cases q
      refine ⟨a, x :: l, rfl, h, by simp, fun m hm hl => ?_⟩
      obtain ⟨g1, g2⟩ := least_ok l x
      have : m = least x l := by
        have := hl _ g1
        have := g2 _ hm
        omega
      rw [this]
      exact fresh_p k e (.int _)
  · cases q
theorem fl_max : FL K (rMax K) fMax := by
  intro H0 H vs ms m e rb q Q k
  unfold fMax at q
  split at q
  · obtain ⟨ds, h1, q⟩ := Option.bind_eq_some_iff.mp q
    obtain ⟨ns, h2, q⟩ := Option.bind_eq_some_iff.mp q
    obtain ⟨v, C, rfl, r⟩ := repB1 rb
    obtain ⟨a, vs, rfl, h, hd⟩ := rep_ls e r h1
    rw [ints_dq h2 hd] at h
    cases ns with
    | nil => cases q
    | cons x l =>
      cases q
      refine ⟨a, x :: l, rfl, h, by simp, fun m hm hl => ?_⟩
      obtain ⟨g1, g2⟩ := most_ok l x
      have : m = most x l := by
        have := hl _ g1
        have := g2 _ hm
        omega
      rw [this]
      exact fresh_p k e (.int _)
  · cases q
end
section
variable {X : Cx} {a : Expr} {es : List Expr} {p pos : Pos} {u : U} {ua : UA}
/-- a built-in of one argument -/
theorem g_len (hm : X.mg "len" = none) (ha : PA X [a] (aOf X.K ua)) (hg : Gl X "len" := by rfl) (he : starEach [a] X.env = (false, eval a X.env) :: starEach [] X.env := by rfl) : PE X (.Call (.Name "len" p) [a] [] pos) (tOf X.K (uFun fLen ua)) :=
  g_callB fl_len call_len hg hm (by decide +kernel) ha (he := he)
theorem g_abs (hm : X.mg "abs" = none) (ha : PA X [a] (aOf X.K ua)) (hg : Gl X "abs" := by rfl) (he : starEach [a] X.env = (false, eval a X.env) :: starEach [] X.env := by rfl) : PE X (.Call (.Name "abs" p) [a] [] pos) (tOf X.K (uFun fAbs ua)) :=
  g_callB fl_abs call_abs hg hm (by decide +kernel) ha (he := he)
theorem g_intf (hm : X.mg "int" = none) (ha : PA X [a] (aOf X.K ua)) (hg : Gl X "int" := by rfl) (he : starEach [a] X.env = (false, eval a X.env) :: starEach [] X.env := by rfl) : PE X (.Call (.Name "int" p) [a] [] pos) (tOf X.K (uFun fInt ua)) :=
  g_callTy fl_int call_int1 hg hm (by decide +kernel) ha (he := he)
theorem g_list (hm : X.mg "list" = none) (ha : PA X [a] (aOf X.K ua)) (hg : Gl X "list" := by rfl) (he : starEach [a] X.env = (false, eval a X.env) :: starEach [] X.env := by rfl) : PE X (.Call (.Name "list" p) [a] [] pos) (tOf X.K (uFun fList ua)) :=
  g_callTy fl_list call_list_of hg hm (by decide +kernel) ha (he := he)
theorem g_tuple (hm : X.mg "tuple" = none) (ha : PA X [a] (aOf X.K ua)) (hg : Gl X "tuple" := by rfl) (he : starEach [a] X.env = (false, eval a X.env) :: starEach [] X.env := by rfl) : PE X (.Call (.Name "tuple" p) [a] [] pos) (tOf X.K (uFun fTuple ua)) :=
  g_callTy fl_tuple call_tuple_of hg hm (by decide +kernel) ha (he := he)
theorem g_sum (hc : X.calm = true) (hm : X.mg "sum" = none) (ha : PA X [a] (aOf X.K ua)) (hg : Gl X "sum" := by rfl) (he : starEach [a] X.env = (false, eval a X.env) :: starEach [] X.env := by rfl) : PE X (.Call (.Name "sum" p) [a] [] pos) (tOf X.K (uFun fSum ua)) :=
  g_callB fl_sum (cr_sum hc) hg hm (by decide +kernel) ha (he := he)
theorem g_all (hc : X.calm = true) (hm : X.mg "all" = none) (ha : PA X [a] (aOf X.K ua)) (hg : Gl X "all" := by rfl) (he : starEach [a] X.env = (false, eval a X.env) :: starEach [] X.env := by rfl) : PE X (.Call (.Name "all" p) [a] [] pos) (tOf X.K (uFun fAll ua)) :=
  g_callB fl_all (cr_all hc) hg hm (by decide +kernel) ha (he := he)
theorem g_any (hc : X.calm = true) (hm : X.mg "any" = none) (ha : PA X [a] (aOf X.K ua)) (hg : Gl X "any" := by rfl) (he : starEach [a] X.env = (false, eval a X.env) :: starEach [] X.env := by rfl) : PE X (.Call (.Name "any" p) [a] [] pos) (tOf X.K (uFun fAny ua)) :=
  g_callB fl_any (cr_any hc) hg hm (by decide +kernel) ha (he := he)
theorem g_sorted (hm : X.mg "sorted" = none) (ha : PA X [a] (aOf X.K ua)) (hg : Gl X "sorted" := by rfl) (he : starEach [a] X.env = (false, eval a X.env) :: starEach [] X.env := by rfl) : PE X (.Call (.Name "sorted" p) [a] [] pos) (tOf X.K (uFun fSorted ua)) :=
  g_callB fl_sorted cr_sortedI hg hm (by decide +kernel) ha (he := he)
theorem g_min (hc : X.calm = true) (hm : X.mg "min" = none) (ha : PA X [a] (aOf X.K ua)) (hg : Gl X "min" := by rfl) (he : starEach [a] X.env = (false, eval a X.env) :: starEach [] X.env := by rfl) : PE X (.Call (.Name "min" p) [a] [] pos) (tOf X.K (uFun fMin ua)) :=
  g_callB fl_min (cr_min hc) hg hm (by decide +kernel) ha (he := he)
theorem g_max (hc : X.calm = true) (hm : X.mg "max" = none) (ha : PA X [a] (aOf X.K ua)) (hg : Gl X "max" := by rfl) (he : starEach [a] X.env = (false, eval a X.env) :: starEach [] X.env := by rfl) : PE X (.Call (.Name "max" p) [a] [] pos) (tOf X.K (uFun fMax ua)) :=
  g_callB fl_max (cr_max hc) hg hm (by decide +kernel) ha (he := he)
end
end G

/-! G5: displays, tests, conditional expressions, items, slices, in, ranges as lists, repr. -/
namespace G
open PySem PySem.Spec PyProof.Rows L2

section
variable {K : PySem.W.Frag} {H0 H H0' H' : Hp} {σ : L2.St} {env env' : Env} {A A' B C : Fp} {Q : VK}
theorem take_fr {op : Op} {v : V} {m : M} (s : Stt K H0 H σ env A) (h : OpV K H0 H σ op v B) (one : ∀ b, A b + B b ≤ 1) (e : take env op = some (m, env')) :
    ∃ H0' A' B', Stt K H0' H σ env' A' ∧ Rep K H0' H m v B' ∧ (∀ b, A' b ≤ A b) ∧ (∀ b, B' b ≤ B b) ∧ Fr H0 H A H0' H A' := by
  obtain ⟨H0', A', B', s', r, o1, o2, o3, o4, o5, o6⟩ := take_ok s h one e
  exact ⟨H0', A', B', s', r, o3, o4, o5, fun _ _ _ => rfl, fun _ h => h, fun b hb => .inl (Nat.lt_of_lt_of_le hb (o3 b)), fun b hb => (o6 b hb).imp id .inl⟩
def takeL (env : Env) : List Op → Option (List M × Env)
  | [] => some ([], env)
  | op :: ops => (take env op).bind fun p => (takeL p.2 ops).bind fun q => some (p.1 :: q.1, q.2)
theorem takeL_fr : ∀ {ops : List Op} {H0 : Hp} {env env' : Env} {A B : Fp} {vs : List V} {ms : List M}, Stt K H0 H σ env A → OpVL K H0 H σ ops vs B → (∀ b, A b + B b ≤ 1) → takeL env ops = some (ms, env') →
    ∃ H0' A' B', Stt K H0' H σ env' A' ∧ RepL K H0' H ms vs B' ∧ (∀ b, A' b ≤ A b) ∧ (∀ b, B' b ≤ B b) ∧ Fr H0 H A H0' H A'
  | [], H0, env, env', A, B, vs, ms, s, h, one, e => by
    cases e
    exact ⟨H0, A, B, s, h, fun b => Nat.le_refl _, fun b => Nat.le_refl _, Fr.refl fun _ h => h⟩
  | op :: ops, H0, env, env', A, B, vs, ms, s, h, one, e => by
    obtain ⟨v, vr, B1, B2, rfl, h1, h2, ea⟩ := h
    unfold takeL at e
    obtain ⟨⟨m, e1⟩, q1, e⟩ := Option.bind_eq_some_iff.mp e
    obtain ⟨⟨mr, e2⟩, q2, e⟩ := Option.bind_eq_some_iff.mp e
    cases e
    obtain ⟨H1', A1, B1', s1, r1, a1, b1, f1⟩ := take_fr s h1 (fun b => by have := one b; rw [ea b] at this; omega) q1
    have h2' := f1.opL h2 (fun b => by have := one b; rw [ea b] at this; omega)
    obtain ⟨H2', A2, B2', s2, r2, a2, b2, f2⟩ := takeL_fr s1 h2' (fun b => by have := one b; have := a1 b; rw [ea b] at *; omega) q2
    refine ⟨H2', A2, fun b => B1' b + B2' b, s2, ⟨v, vr, B1', B2', rfl, f2.rep r1 (fun b => by have := one b; have := a1 b; have := b1 b; rw [ea b] at *; omega), r2, fun _ => rfl⟩, fun b => Nat.le_trans (a2 b) (a1 b), fun b => ?_, ?_⟩
    · have := b1 b
      have := b2 b
      rw [ea b]
      show B1' b + B2' b ≤ _
      omega
    · exact f1.trans f2 (fun _ h => h) fun b hb => .inr hb
/-- an object laid -/
theorem fr_lay {p : Addr} {o : HO} (e : Ex H0 H) (hp : H p = none) : Fr H0 H A (upd H0 p o) (upd H p o) A where
  e0 := ex_new (e.none hp)
  keep := fun b hb _ => upd_keep hp b hb
  dom := fun b hb => by rw [upd_keep hp b hb]; exact hb
  new := fun b hb => .inl hb
  fz := fun b hb => by
    by_cases q : b = p
    · rw [q]; exact .inr (.inr hp)
    · rw [upd_ne q] at hb; exact .inl hb
theorem fr_own {p : Addr} {o : HO} (e : Ex H0 H) (hp : H p = none) : Fr H0 H A H0 (upd H p o) fun b => A b + if b = p then 1 else 0 where
  e0 := Ex.refl _
  keep := fun b hb _ => upd_keep hp b hb
  dom := fun b hb => by rw [upd_keep hp b hb]; exact hb
  new := fun b hb => by
    by_cases q : b = p
    · rw [q]; exact .inr hp
    · have hb : 0 < A b + (if b = p then 1 else 0) := hb
      rw [if_neg q] at hb
      exact .inl hb
  fz := fun b hb => .inl hb
theorem stt_fr (s : Stt K H0 H σ env A) (f : Fr H0 H C H0' H' D) (h : ∀ b, 0 < A b → C b = 0) (ex : Ex H0' H') : Stt K H0' H' σ env A :=
  ⟨s.rep.mono f.e0 fun b hb => by
    obtain ⟨o1, o2⟩ := s.rep.own b hb
    refine ⟨?_, f.keep b o2 (h b hb)⟩
    cases q : H0' b with
    | none => rfl
    | some o =>
      rcases f.fz b (by rw [q]; exact nofun) with z | z | z
      · exact absurd o1 z
      · have := h b hb; omega
      · exact absurd z o2, s.one, ex⟩
theorem post_tup {p : Addr} {vs : List V} {ms : List M} (s : Stt K H0' H' σ env' A') (r : RepL K H0' H' ms vs B) (one : ∀ b, A' b + B b ≤ 1) (f : Fr H0 H A H0' H' C) (hc : ∀ b, 0 < A' b + B b → 0 < C b) (hp : H' p = none)
    (k : Post K σ H0 H A env' (.tmp (mkT ms)) Q) : Q (.ref p) (upd H' p (.tup vs)) := by
  have g : Fr H0' H' (fun _ => 0) (upd H0' p (.tup vs)) (upd H' p (.tup vs)) (fun _ => 0) := fr_lay s.ex hp
  have s' := stt_fr s g (fun _ _ => rfl) (ex_upd2 s.ex)
  have r' : RepL K (upd H0' p (.tup vs)) (upd H' p (.tup vs)) ms vs B := g.repL r fun b => by have := one b; show 0 + B b ≤ 1; omega
  have rt : Rep K (upd H0' p (.tup vs)) (upd H' p (.tup vs)) (mkT ms) (.ref p) B := by
    unfold mkT
    split
    · rename_i ds q
      rw [allP_eq q] at r'
      exact ⟨.tup upd_same (repL_p r').1, (repL_p r').2⟩
    · exact ⟨p, vs, rfl, upd_same, r'⟩
  refine k (.ref p) _ _ A' B s' rt one ?_
  exact f.trans g (fun b hb => absurd hb (Nat.lt_irrefl _)) fun b hb => .inl (hc b hb)
theorem post_lst {p : Addr} {vs : List V} {ms : List M} (s : Stt K H0' H' σ env' A') (r : RepL K H0' H' ms vs B) (one : ∀ b, A' b + B b ≤ 1) (f : Fr H0 H A H0' H' C) (hc : ∀ b, 0 < A' b + B b → 0 < C b) (hp : H' p = none)
    (k : Post K σ H0 H A env' (.tmp (.l ms)) Q) : Q (.ref p) (upd H' p (.lst vs)) := by
  have g : Fr H0' H' (fun _ => 0) H0' (upd H' p (.lst vs)) (fun b => 0 + if b = p then 1 else 0) := fr_own s.ex hp
  have s' := stt_fr s g (fun _ _ => rfl) (ex_upd s.ex hp)
  have r' : RepL K H0' (upd H' p (.lst vs)) ms vs B := g.repL r fun b => by have := one b; show 0 + B b ≤ 1; omega
  have np : ∀ b, 0 < A' b + B b → b ≠ p := fun b hb q => by
    subst q
    by_cases z : 0 < A' b
    · exact (s.rep.own b z).2 hp
    · exact (r.own b (by omega)).2 hp
  refine k (.ref p) _ _ A' (fun b => (if b = p then 1 else 0) + B b) s' ⟨p, vs, B, rfl, s.ex.none hp, upd_same, r', fun _ => rfl⟩ (fun b => ?_) ?_
  · have := one b
    show A' b + ((if b = p then 1 else 0) + B b) ≤ 1
    by_cases q : b = p
    · have hz : ¬ 0 < A' b + B b := fun z => np b z q
      rw [if_pos q]
      omega
    · rw [if_neg q]
      omega
  · refine f.trans g (fun b hb => absurd hb (Nat.lt_irrefl _)) fun b hb => ?_
    have hb : 0 < A' b + ((if b = p then 1 else 0) + B b) := hb
    show 0 < C b ∨ 0 < 0 + (if b = p then 1 else 0)
    by_cases q : b = p
    · rw [if_pos q]; exact .inr (by omega)
    · rw [if_neg q] at hb; exact .inl (hc b (by omega))
def uTup (ua : UA) : U := fun env => (ua env).bind fun p => (takeL p.2 p.1).bind fun q => if q.1.length ≤ 1000 then some (.tmp (mkT q.1), q.2) else none
def uLst (ua : UA) : U := fun env => (ua env).bind fun p => (takeL p.2 p.1).bind fun q => if q.1.length ≤ 1000 then some (.tmp (.l q.1), q.2) else none
theorem le1000 {n : Nat} (h : n ≤ 1000) : n ≤ sizeLine := Nat.le_of_lt (small1000 h)
theorem tup_ok {ua : UA} : ∀ σ H Q, tOf K (uTup ua) σ H Q → tTup (aOf K ua) σ H Q := fun σ H Q t => by
  obtain ⟨env, A, H0, op, env', s, e, k⟩ := t
  obtain ⟨⟨ops, e1⟩, h1, e⟩ := Option.bind_eq_some_iff.mp e
  obtain ⟨⟨ms, e2⟩, h2, e⟩ := Option.bind_eq_some_iff.mp e
  split at e
  · rename_i hz
    cases e
    refine ⟨env, A, H0, ops, e1, s, h1, fun vs H0' H' A' B s' o one f => ?_⟩
    obtain ⟨H2', A2, B2, s2, r2, a2, b2, f2⟩ := takeL_fr s' o one h2
    refine ⟨by rw [repL_len r2]; exact le1000 hz, fun p hp => post_tup s2 r2 (fun b => by have := one b; have := a2 b; have := b2 b; omega) (f.trans f2 (E := fun b => A2 b + B2 b) (fun b hb => by show 0 < A' b + B b; omega) fun b hb => ?_) (fun b hb => hb) hp k⟩
    have hb : 0 < A2 b + B2 b := hb
    have := a2 b
    have := b2 b
    show 0 < A' b + B b ∨ _
    exact .inl (by omega)
  · cases e
theorem lst_ok {ua : UA} : ∀ σ H Q, tOf K (uLst ua) σ H Q → tLst (aOf K ua) σ H Q := fun σ H Q t => by
  obtain ⟨env, A, H0, op, env', s, e, k⟩ := t
  obtain ⟨⟨ops, e1⟩, h1, e⟩ := Option.bind_eq_some_iff.mp e
  obtain ⟨⟨ms, e2⟩, h2, e⟩ := Option.bind_eq_some_iff.mp e
  split at e
  · rename_i hz
    cases e
    refine ⟨env, A, H0, ops, e1, s, h1, fun vs H0' H' A' B s' o one f => ?_⟩
    obtain ⟨H2', A2, B2, s2, r2, a2, b2, f2⟩ := takeL_fr s' o one h2
    refine ⟨by rw [repL_len r2]; exact le1000 hz, fun p hp => post_lst s2 r2 (fun b => by have := one b; have := a2 b; have := b2 b; omega) (f.trans f2 (E := fun b => A2 b + B2 b) (fun b hb => by show 0 < A' b + B b; omega) fun b hb => ?_) (fun b hb => hb) hp k⟩
    have hb : 0 < A2 b + B2 b := hb
    have := a2 b
    have := b2 b
    show 0 < A' b + B b ∨ _
    exact .inl (by omega)
  · cases e
end
section
variable {X : Cx} {es : List Expr} {pos : Pos} {ua : UA}
theorem g_tup {k : Nat} (h : PA X es (aOf X.K ua)) : PE X (.Tuple es k pos) (tOf X.K (uTup ua)) := pe_imp (pe_tup h) tup_ok
theorem g_lst (h : PA X es (aOf X.K ua)) : PE X (.List es pos) (tOf X.K (uLst ua)) := pe_imp (pe_lst h) lst_ok
end

/-! ### tests -/
def truM : M → Option Bool
  | .p .none => some false
  | .p (.bool b) => some b
  | .p (.int i) => some (i != 0)
  | .p (.str x) => if x.length ≤ sizeLine then some ((x.length : Int) != 0) else none
  | .p (.list ds) => some (!ds.isEmpty)
  | .p (.tuple ds) => some (!ds.isEmpty)
  | .l ms => some (!ms.isEmpty)
  | .t ms => some (!ms.isEmpty)
  | .dk ks _ => some (!ks.isEmpty)
  | _ => none
def uTru (u : U) : UT := fun env => (u env).bind fun p => (rd p.2 p.1).bind fun m => (truM m).map fun k => (k, p.2)
section
variable {K : PySem.W.Frag} {H0 H H0' H' : Hp} {σ : L2.St} {env env' : Env} {A A' B C : Fp}
theorem rep_tru {m : M} {v : V} {A : Fp} {k : Bool} (e : Ex H0 H) (h : Rep K H0 H m v A) (q : truM m = some k) : TruV K v H k := by
  cases m with
  | p d =>
    obtain ⟨h, _⟩ := h
    cases h with
    | non => cases q; rfl
    | bl b => cases q; rfl
    | int i => cases q; rfl
    | str x =>
      have q : (if x.length ≤ sizeLine then some ((x.length : Int) != 0) else none) = some k := q
      by_cases hz : x.length ≤ sizeLine
      · rw [if_pos hz] at q
        cases q
        exact ⟨hz, rfl⟩
      · rw [if_neg hz] at q
        cases q
    | lst h a =>
      cases q
      refine .inl ⟨_, e.sl h, ?_⟩
      have := dpA_len a
      cases a <;> rfl
    | tup h a =>
      cases q
      refine .inr (.inl ⟨_, SqT.of (e _ _ h), ?_⟩)
      cases a <;> rfl
  | l ms =>
    obtain ⟨a, vs, A', rfl, e2, e3, e4, e5⟩ := h
    cases q
    refine .inl ⟨_, SqL.of e3, ?_⟩
    have := repL_len e4
    cases ms <;> cases vs <;> first | rfl | exact absurd this (by simp)
  | t ms =>
    obtain ⟨a, vs, rfl, e2, e4⟩ := h
    cases q
    refine .inr (.inl ⟨_, SqT.of (e _ _ e2), ?_⟩)
    have := repL_len e4
    cases ms <;> cases vs <;> first | rfl | exact absurd this (by simp)
  | dk ks ms =>
    obtain ⟨a, vs, A', rfl, e2, e3, el, e4, e5⟩ := h
    cases q
    refine .inr (.inr ⟨_, e3, ?_⟩)
    have hl := repL_len e4
    rw [← el.1] at hl
    clear e4 el e3
    cases ks with
    | nil => rfl
    | cons k ks =>
      cases vs with
      | nil => rw [List.length_cons] at hl; exact absurd hl (by simp)
      | cons v vs => rfl
  | dt _ _ => cases q
  | fk _ _ => cases q
theorem ttOf.go {u : UT} {c : Bool} {R : Bool → Hp → Prop} (s : Stt K H0 H σ env A) (h : u env = some (c, env')) (k : ∀ H0' H' A', Stt K H0' H' σ env' A' → Fr H0 H A H0' H' A' → R c H') : ttOf K u σ H R := ⟨env, A, H0, c, env', s, h, k⟩
theorem tru_okG {u : U} : ∀ σ H Q, ttOf K (uTru u) σ H Q → (tOf K u) σ H (fun x H' => ∃ k, TruV K x H' k ∧ Q k H') := fun σ H Q t => by
  obtain ⟨env, A, H0, c, env', s, e, k⟩ := t
  obtain ⟨⟨x, e1⟩, h1, e⟩ := Option.bind_eq_some_iff.mp e
  obtain ⟨m, h2, e⟩ := Option.bind_eq_some_iff.mp e
  obtain ⟨k', h3, e⟩ := Option.map_eq_some_iff.mp e
  cases e
  refine tOf.go s h1 fun v H0' H' A' B s' o one f => ?_
  obtain ⟨C, r, _⟩ := rd_ok s' o h2
  exact ⟨_, rep_tru s'.ex r h3, k H0' H' A' s' (f.weak fun b hb => by show 0 < A' b + B b; omega)⟩
def uNot (t : UT) : UT := fun env => (t env).bind fun p => some (!p.1, p.2)
def uAnd (t u : UT) : UT := fun env => (t env).bind fun p => if p.1 = true then u p.2 else some (false, p.2)
def uOr (t u : UT) : UT := fun env => (t env).bind fun p => if p.1 = true then some (true, p.2) else u p.2
theorem not_ok {t : UT} : ∀ σ H Q, ttOf K (uNot t) σ H Q → tNot (ttOf K t) σ H Q := fun σ H Q h => by
  obtain ⟨env, A, H0, c, env', s, e, k⟩ := h
  obtain ⟨⟨x, e1⟩, h1, e⟩ := Option.bind_eq_some_iff.mp e
  cases e
  exact ttOf.go s h1 fun H0' H' A' s' f => k H0' H' A' s' f
theorem and_ok {t u : UT} : ∀ σ H Q, ttOf K (uAnd t u) σ H Q → tAnd (ttOf K t) (ttOf K u) σ H Q := fun σ H Q h => by
  obtain ⟨env, A, H0, c, env', s, e, k⟩ := h
  obtain ⟨⟨x, e1⟩, h1, e⟩ := Option.bind_eq_some_iff.mp e
  refine ttOf.go s h1 fun H0' H' A' s' f => ?_
  cases x with
  | true => exact ttOf.go s' e fun H2' H2 A2 s2 f2 => k H2' H2 A2 s2 (f.trans f2 (fun _ h => h) fun b hb => .inr hb)
  | false =>
    have e : some (false, e1) = some (c, env') := e
    cases e
    exact k H0' H' A' s' f
theorem or_ok {t u : UT} : ∀ σ H Q, ttOf K (uOr t u) σ H Q → tOr (ttOf K t) (ttOf K u) σ H Q := fun σ H Q h => by
  obtain ⟨env, A, H0, c, env', s, e, k⟩ := h
  obtain ⟨⟨x, e1⟩, h1, e⟩ := Option.bind_eq_some_iff.mp e
  refine ttOf.go s h1 fun H0' H' A' s' f => ?_
  cases x with
  | false => exact ttOf.go s' e fun H2' H2 A2 s2 f2 => k H2' H2 A2 s2 (f.trans f2 (fun _ h => h) fun b hb => .inr hb)
  | true =>
    have e : some (true, e1) = some (c, env') := e
    cases e
    exact k H0' H' A' s' f
def uIf (c : UT) (a b : U) : U := fun env => (c env).bind fun p => if p.1 = true then a p.2 else b p.2
theorem if_ok {c : UT} {ua ub : U} : ∀ σ H Q, tOf K (uIf c ua ub) σ H Q → tIf (ttOf K c) (tOf K ua) (tOf K ub) σ H Q := fun σ H Q h => by
  obtain ⟨env, A, H0, op, env', s, e, k⟩ := h
  obtain ⟨⟨x, e1⟩, h1, e⟩ := Option.bind_eq_some_iff.mp e
  refine ttOf.go s h1 fun H0' H' A' s' f => ?_
  have go : ∀ u : U, u e1 = some (op, env') → tOf K u σ H' Q := fun u hu => tOf.go s' hu fun v H2' H2 A2 B2 s2 o2 one2 f2 => k v H2' H2 A2 B2 s2 o2 one2 (f.trans f2 (fun _ h => h) fun b hb => .inr hb)
  cases x with
  | true => exact go ua e
  | false => exact go ub e
/-- x or y, x and y, not x as values -/
def uOrV (a b : U) : U := fun env => (a env).bind fun p => (rd p.2 p.1).bind fun m => (truM m).bind fun k => if k = true then some p else b p.2
def uAndV (a b : U) : U := fun env => (a env).bind fun p => (rd p.2 p.1).bind fun m => (truM m).bind fun k => if k = true then b p.2 else some p
def uNotV (a : U) : U := fun env => (a env).bind fun p => (rd p.2 p.1).bind fun m => (truM m).bind fun k => some (.tmp (.p (.bool (!k))), p.2)
theorem orV_ok {ua ub : U} : ∀ σ H Q, tOf K (uOrV ua ub) σ H Q → tOrT K (tOf K ua) (tOf K ub) σ H Q := fun σ H Q h => by
  obtain ⟨env, A, H0, op, env', s, e, k⟩ := h
  obtain ⟨⟨x, e1⟩, h1, e⟩ := Option.bind_eq_some_iff.mp e
  obtain ⟨m, h2, e⟩ := Option.bind_eq_some_iff.mp e
  obtain ⟨k', h3, e⟩ := Option.bind_eq_some_iff.mp e
  refine tOf.go s h1 fun v H0' H' A' B s' o one f => ?_
  obtain ⟨C, r, _⟩ := rd_ok s' o h2
  refine ⟨k', rep_tru s'.ex r h3, ?_⟩
  cases k' with
  | true =>
    have e : some (x, e1) = some (op, env') := e
    cases e
    exact k v H0' H' A' B s' o one f
  | false => exact tOf.go s' e fun w H2' H2 A2 B2 s2 o2 one2 f2 => k w H2' H2 A2 B2 s2 o2 one2 (f.trans f2 (fun b h => by show 0 < A' b + B b; omega) fun b hb => .inr hb)
theorem andV_ok {ua ub : U} : ∀ σ H Q, tOf K (uAndV ua ub) σ H Q → tAndT K (tOf K ua) (tOf K ub) σ H Q := fun σ H Q h => by
  obtain ⟨env, A, H0, op, env', s, e, k⟩ := h
  obtain ⟨⟨x, e1⟩, h1, e⟩ := Option.bind_eq_some_iff.mp e
  obtain ⟨m, h2, e⟩ := Option.bind_eq_some_iff.mp e
  obtain ⟨k', h3, e⟩ := Option.bind_eq_some_iff.mp e
  refine tOf.go s h1 fun v H0' H' A' B s' o one f => ?_
  obtain ⟨C, r, _⟩ := rd_ok s' o h2
  refine ⟨k', rep_tru s'.ex r h3, ?_⟩
  cases k' with
  | false =>
    have e : some (x, e1) = some (op, env') := e
    cases e
    exact k v H0' H' A' B s' o one f
  | true => exact tOf.go s' e fun w H2' H2 A2 B2 s2 o2 one2 f2 => k w H2' H2 A2 B2 s2 o2 one2 (f.trans f2 (fun b h => by show 0 < A' b + B b; omega) fun b hb => .inr hb)
theorem notV_ok {ua : U} : ∀ σ H Q, tOf K (uNotV ua) σ H Q → tNotT K (tOf K ua) σ H Q := fun σ H Q h => by
  obtain ⟨env, A, H0, op, env', s, e, k⟩ := h
  obtain ⟨⟨x, e1⟩, h1, e⟩ := Option.bind_eq_some_iff.mp e
  obtain ⟨m, h2, e⟩ := Option.bind_eq_some_iff.mp e
  obtain ⟨k', h3, e⟩ := Option.bind_eq_some_iff.mp e
  cases e
  refine tOf.go s h1 fun v H0' H' A' B s' o one f => ?_
  obtain ⟨C, r, _⟩ := rd_ok s' o h2
  exact ⟨k', rep_tru s'.ex r h3, k _ H0' H' A' (fun _ => 0) s' ⟨.bl _, fun _ => rfl⟩ (fun b => s'.one b) (f.weak fun b hb => by show 0 < A' b + B b; have hb : 0 < A' b + 0 := hb; omega)⟩
end
section
variable {X : Cx} {a b : Expr} {rest : List Expr} {pos : Pos} {u ua ub : U} {t t' : UT}
theorem gt_val (h : PE X a (tOf X.K u)) (he : ∀ whole, isTrue a X.env whole = (do let v ← whole; standAt a.pos; holding [v] (truthy v)) := by intro _; rfl) : PT X a (ttOf X.K (uTru u)) := pt_imp (pt_truth h he) tru_okG
theorem gt_not (h : PT X a (ttOf X.K t)) : PT X (.UnaryOp .Not a pos) (ttOf X.K (uNot t)) := pt_imp (pt_not h) not_ok
theorem pw_imp {e : Expr} {t t' : TT} (h : PW X e t) (k : ∀ σ H Q, t' σ H Q → t σ H Q) : PW X e t' := ⟨fun wh pins s σ H Q I q => h.run wh pins s σ H Q I (k σ H Q q)⟩
theorem gw_and1 (h : PT X a (ttOf X.K t)) : PW X (.BoolOp .And [a] pos) (ttOf X.K t) := pw_and1 h
theorem gw_or1 (h : PT X a (ttOf X.K t)) : PW X (.BoolOp .Or [a] pos) (ttOf X.K t) := pw_or1 h
theorem gw_and (h : PT X a (ttOf X.K t)) (h2 : PW X (.BoolOp .And (b :: rest) pos) (ttOf X.K t')) : PW X (.BoolOp .And (a :: b :: rest) pos) (ttOf X.K (uAnd t t')) := pw_imp (pw_and h h2) and_ok
theorem gw_or (h : PT X a (ttOf X.K t)) (h2 : PW X (.BoolOp .Or (b :: rest) pos) (ttOf X.K t')) : PW X (.BoolOp .Or (a :: b :: rest) pos) (ttOf X.K (uOr t t')) := pw_imp (pw_or h h2) or_ok
theorem g_if {c : Expr} (hc : PT X c (ttOf X.K t)) (ha : PE X a (tOf X.K ua)) (hb : PE X b (tOf X.K ub)) : PE X (.IfExp c a b pos) (tOf X.K (uIf t ua ub)) := pe_imp (pe_ifExp hc ha hb) if_ok
theorem g_one {op : BoolOp} (h : PE X a (tOf X.K u)) : PE X (.BoolOp op [a] pos) (tOf X.K u) := pe_one h
theorem g_orV (ha : PE X a (tOf X.K ua)) (hb : PE X (.BoolOp .Or (b :: rest) pos) (tOf X.K ub)) : PE X (.BoolOp .Or (a :: b :: rest) pos) (tOf X.K (uOrV ua ub)) := pe_imp (pe_orT ha hb) orV_ok
theorem g_andV (ha : PE X a (tOf X.K ua)) (hb : PE X (.BoolOp .And (b :: rest) pos) (tOf X.K ub)) : PE X (.BoolOp .And (a :: b :: rest) pos) (tOf X.K (uAndV ua ub)) := pe_imp (pe_andT ha hb) andV_ok
theorem g_notV (ha : PE X a (tOf X.K ua)) : PE X (.UnaryOp .Not a pos) (tOf X.K (uNotV ua)) := pe_imp (pe_notT ha) notV_ok
end
end G

/-! G6: items, slices, in, ranges as lists, repr, dicts read. -/
namespace G
open PySem PySem.Spec PyProof.Rows L2

theorem pe_or {X : Cx} {e : Expr} {t t' : TE} (h : PE X e t) (h' : PE X e t') : PE X e (fun σ H Q => t σ H Q ∨ t' σ H Q) := ⟨fun pins s σ H Q I q => by
  rcases q with q | q
  · exact h.run pins s σ H Q I q
  · exact h'.run pins s σ H Q I q⟩

/-! ### items -/
def keyD : PyData → Option Key
  | .int i => some (.inl i)
  | .str x => some (.inr x)
  | _ => none
def keysL : List PyData → Option (List Key)
  | [] => some []
  | d :: ds => (keyD d).bind fun k => (keysL ds).map (k :: ·)
def keysD : PyData → Option (List Key)
  | .tuple ds => keysL ds
  | _ => none
def lookM {κ : Type} [DecidableEq κ] : List κ → List M → κ → Option M
  | k :: ks, m :: ms, j => if k = j then some m else lookM ks ms j
  | _, _, _ => none
def itemM : M → Int → Option M
  | .p (.list ds), k => (atI ds k).map .p
  | .p (.tuple ds), k => (atI ds k).map .p
  | .p (.str z), k => if z.length ≤ sizeLine then (atI z.cps.toList k).map fun c => .p (.str ⟨#[c]⟩) else none
  | .l ms, k => atI ms k
  | .t ms, k => atI ms k
  | _, _ => none
def isD : M → Bool
  | .dk _ _ => true
  | .dt _ _ => true
  | .fk _ _ => true
  | _ => false
def itemD : M → M → Option M
  | .dk ks ms, .p d => (keyD d).bind (lookM ks ms)
  | .dt ks ms, .p d => (keysD d).bind (lookM ks ms)
  | .fk ks ds, .p d => (keyD d).bind (lookM ks (ds.map .p))
  | _, _ => none
def itemI : M → M → Option M
  | x, .p (.int k) => itemM x k
  | _, _ => none
def giveM (x : Op) (m : M) (env : Env) : Option (Op × Env) := match m with
  | .p d => some (.tmp (.p d), env)
  | m => match x with
    | .tmp _ => some (.tmp m, env)
    | .slot _ => none
def uItem (a b : U) : U := fun env => (a env).bind fun p => (b p.2).bind fun q => (rd q.2 p.1).bind fun mx => (rd q.2 q.1).bind fun my =>
  (if isD mx = true then itemD mx my else itemI mx my).bind fun m => giveM p.1 m q.2
section
variable {K : PySem.W.Frag} {H0 H H0' H' : Hp} {σ : L2.St} {env env' : Env} {A A' B C : Fp} {Q : VK}
theorem repL_get : ∀ {ms : List M} {vs : List V} {A : Fp} {j : Nat} {m : M}, RepL K H0 H ms vs A → ms[j]? = some m → ∃ v C, vs[j]? = some v ∧ Rep K H0 H m v C ∧ ∀ b, C b ≤ A b
  | [], vs, A, j, m, h, e => by cases e
  | m' :: ms, vs, A, 0, m, h, e => by
    obtain ⟨v, vr, A1, A2, rfl, h1, h2, ea⟩ := h
    rw [List.getElem?_cons_zero] at e
    cases e
    exact ⟨v, A1, rfl, h1, fun b => by rw [ea b]; omega⟩
  | m' :: ms, vs, A, j + 1, m, h, e => by
    obtain ⟨v, vr, A1, A2, rfl, h1, h2, ea⟩ := h
    rw [List.getElem?_cons_succ] at e
    obtain ⟨w, C, f1, f2, f3⟩ := repL_get h2 e
    exact ⟨w, C, by rw [List.getElem?_cons_succ]; exact f1, f2, fun b => by have := f3 b; rw [ea b]; omega⟩
theorem repL_atI {ms : List M} {vs : List V} {i : Int} {m : M} (h : RepL K H0 H ms vs A) (e : atI ms i = some m) : ∃ v C, atI vs i = some v ∧ Rep K H0 H m v C ∧ ∀ b, C b ≤ A b := by
  unfold atI at e ⊢
  rw [repL_len h]
  obtain ⟨j, e1, e2⟩ := Option.bind_eq_some_iff.mp e
  obtain ⟨v, C, f1, f2, f3⟩ := repL_get h e2
  exact ⟨v, C, by rw [e1]; exact f1, f2, f3⟩
theorem dpA_atI {ds : List PyData} {vs : List V} {i : Int} {d : PyData} (h : DqAll K H vs ds) (e : atI ds i = some d) : ∃ v, atI vs i = some v ∧ Dq K H v d := by
  unfold atI at e ⊢
  rw [dpA_len h]
  obtain ⟨j, e1, e2⟩ := Option.bind_eq_some_iff.mp e
  obtain ⟨v, f1, f2⟩ := dpA_get h e2
  exact ⟨v, by rw [e1]; exact f1, f2⟩
theorem item_rep {mx m : M} {x : V} {k : Int} (e : Ex H0 H) (h : Rep K H0 H mx x B) (q : itemM mx k = some m) : (∃ v C, (rIxL K x (.int k) H = fun Q => rIxL K x (.int k) H Q) ∧ Rep K H0 H m v C ∧ (∀ b, C b ≤ B b) ∧ ∀ Q : VK, Q v H → rIx K x (.int k) H Q) := by
  cases mx with
  | p d =>
    obtain ⟨h, hB⟩ := h
    cases h with
    | str z =>
      have q : (if z.length ≤ sizeLine then (atI z.cps.toList k).map fun c => M.p (.str ⟨#[c]⟩) else none) = some m := q
      split at q
      · rename_i hz
        obtain ⟨c, e1, rfl⟩ := Option.map_eq_some_iff.mp q
        exact ⟨.str ⟨#[c]⟩, fun _ => 0, rfl, ⟨.str _, fun _ => rfl⟩, fun _ => Nat.zero_le _, fun Q q => .inr (.inr ⟨z, k, c, rfl, rfl, hz, e1, q⟩)⟩
      · cases q
    | lst h a =>
      obtain ⟨d', e1, rfl⟩ := Option.map_eq_some_iff.mp q
      obtain ⟨v, e2, r⟩ := dpA_atI a e1
      exact ⟨v, fun _ => 0, rfl, ⟨r, fun _ => rfl⟩, fun _ => Nat.zero_le _, fun Q q => .inl ⟨_, _, k, v, rfl, rfl, e.sl h, e2, q⟩⟩
    | tup h a =>
      obtain ⟨d', e1, rfl⟩ := Option.map_eq_some_iff.mp q
      obtain ⟨v, e2, r⟩ := dpA_atI a e1
      exact ⟨v, fun _ => 0, rfl, ⟨r, fun _ => rfl⟩, fun _ => Nat.zero_le _, fun Q q => .inr (.inl ⟨_, _, k, v, rfl, rfl, SqT.of (e _ _ h), e2, q⟩)⟩
    | _ => cases q
  | l ms =>
    obtain ⟨a, vs, A', rfl, e2, e3, e4, e5⟩ := h
    obtain ⟨v, C, f1, f2, f3⟩ := repL_atI e4 q
    exact ⟨v, C, rfl, f2, fun b => by have := f3 b; rw [e5 b]; omega, fun Q q => .inl ⟨a, vs, k, v, rfl, rfl, SqL.of e3, f1, q⟩⟩
  | t ms =>
    obtain ⟨a, vs, rfl, e2, e4⟩ := h
    obtain ⟨v, C, f1, f2, f3⟩ := repL_atI e4 q
    exact ⟨v, C, rfl, f2, f3, fun Q q => .inr (.inl ⟨a, vs, k, v, rfl, rfl, SqT.of (e _ _ e2), f1, q⟩)⟩
  | dk _ _ => cases q
  | dt _ _ => cases q
  | fk _ _ => cases q
theorem key_dq {d : PyData} {k : Key} {v : V} (h : Dq K H v d) (e : keyD d = some k) : v = kV k := by
  cases d with
  | int i => cases e; exact dq_int h
  | str x => cases e; exact dq_str h
  | _ => cases e
theorem keysL_dq : ∀ {ds : List PyData} {ks : List Key} {vs : List V}, DqAll K H vs ds → keysL ds = some ks → vs = ks.map kV
  | [], ks, vs, h, e => by cases e; cases h; rfl
  | d :: ds, ks, vs, h, e => by
    cases h with
    | cons h1 h2 =>
      unfold keysL at e
      obtain ⟨k, e1, e⟩ := Option.bind_eq_some_iff.mp e
      obtain ⟨kr, e2, rfl⟩ := Option.map_eq_some_iff.mp e
      rw [key_dq h1 e1, keysL_dq h2 e2]
      rfl
theorem keys_dq {d : PyData} {ks : List Key} {v : V} (h : Dq K H v d) (e : keysD d = some ks) : ∃ b, v = .ref b ∧ H b = some (.tup (ks.map kV)) := by
  cases d with
  | tuple ds =>
    cases h with
    | tup h a =>
      have e : keysL ds = some ks := e
      rw [keysL_dq a e] at h
      exact ⟨_, rfl, h⟩
  | _ => cases e
theorem look_rep {κ : Type} [DecidableEq κ] : ∀ {ks : List κ} {ms : List M} {vs : List V} {A : Fp} (j : κ), RepL K H0 H ms vs A → ks.length = ms.length →
    (∀ m, lookM ks ms j = some m → ∃ v C, valV (ks.zip vs) j = some v ∧ Rep K H0 H m v C ∧ ∀ b, C b ≤ A b) ∧ (lookM ks ms j = none → valV (ks.zip vs) j = none)
  | [], ms, vs, A, j, h, hl => by
    refine ⟨fun m e => ?_, fun _ => rfl⟩
    cases ms <;> cases e
  | k :: ks, [], vs, A, j, h, hl => by rw [List.length_cons] at hl; exact absurd hl (by simp)
  | k :: ks, m' :: ms, vs, A, j, h, hl => by
    obtain ⟨v, vr, A1, A2, rfl, h1, h2, ea⟩ := h
    obtain ⟨g1, g2⟩ := look_rep (ks := ks) j h2 (by simpa using hl)
    unfold lookM
    by_cases q : k = j
    · rw [if_pos q]
      refine ⟨fun m e => ?_, fun e => by cases e⟩
      cases e
      exact ⟨v, A1, valV_pos (p := (k, v)) q, h1, fun b => by rw [ea b]; omega⟩
    · rw [if_neg q]
      refine ⟨fun m e => ?_, fun e => ?_⟩
      · obtain ⟨w, C, f1, f2, f3⟩ := g1 m e
        exact ⟨w, C, (valV_neg (p := (k, v)) q).trans f1, f2, fun b => by have := f3 b; rw [ea b]; omega⟩
      · exact (valV_neg (p := (k, v)) q).trans (g2 e)
theorem DGet.fk {H : Hp} {a : Addr} {o : Obj} {kvs : List (Key × V)} {k : Key} (e : H a = some (.frz o (.dK kvs))) : DGet H a (kV k) (valV kvs k) := .inl ⟨kvs, k, .inr ⟨o, e⟩, rfl, rfl⟩
/-- a dict read by a key: what it holds -/
theorem dict_get {mx my : M} {x y : V} {C D : Fp} (e : Ex H0 H) (hx : Rep K H0 H mx x C) (hy : Rep K H0 H my y D) {m : M} (q : itemD mx my = some m) : ∃ a v E, x = .ref a ∧ DGet H a y (some v) ∧ Rep K H0 H m v E ∧ ∀ b, E b ≤ C b := by
  cases mx with
  | fk ks ds =>
    cases my with
    | p d =>
      obtain ⟨k, e1, e2⟩ := Option.bind_eq_some_iff.mp (show (keyD d).bind (lookM ks (ds.map .p)) = some m from q)
      obtain ⟨a, vs, o, rfl, h1, hl, h2, h3⟩ := hx
      obtain ⟨v, E, f1, f2, f3⟩ := (look_rep (ks := ks) (K := K) (H0 := H0) (H := H) k (repL_of_p h2) (by rw [List.length_map]; exact hl.1)).1 m e2
      refine ⟨a, v, E, rfl, ?_, f2, fun b => by have := f3 b; omega⟩
      rw [key_dq hy.1 e1, ← f1]
      exact DGet.fk (e _ _ h1)
    | _ => cases q
  | dk ks ms =>
    cases my with
    | p d =>
      obtain ⟨k, e1, e2⟩ := Option.bind_eq_some_iff.mp (show (keyD d).bind (lookM ks ms) = some m from q)
      obtain ⟨a, vs, A', rfl, h0, h1, hl, h2, h3⟩ := hx
      obtain ⟨v, E, f1, f2, f3⟩ := (look_rep k h2 hl.1).1 m e2
      refine ⟨a, v, E, rfl, ?_, f2, fun b => by have := f3 b; rw [h3 b]; omega⟩
      rw [key_dq hy.1 e1, ← f1]
      exact DGet.k h1
    | _ => cases q
  | dt ks ms =>
    cases my with
    | p d =>
      obtain ⟨k, e1, e2⟩ := Option.bind_eq_some_iff.mp (show (keysD d).bind (lookM ks ms) = some m from q)
      obtain ⟨a, vs, A', rfl, h0, h1, hl, h2, h3⟩ := hx
      obtain ⟨v, E, f1, f2, f3⟩ := (look_rep k h2 hl.1).1 m e2
      obtain ⟨b, rfl, hb⟩ := keys_dq (dp_mono e hy.1) e1
      refine ⟨a, v, E, rfl, ?_, f2, fun b => by have := f3 b; rw [h3 b]; omega⟩
      rw [← f1]
      exact DGet.t h1 hb
    | _ => cases q
  | _ => cases q
theorem give_ok {x op : Op} {m : M} {v : V} {A2 B2 E : Fp} (s : Stt K H0' H' σ env A2) (o : OpV K H0' H' σ x (v) B2) (one : ∀ b, A2 b + B2 b ≤ 1) (f : Fr H0 H A H0' H' C) (hc : ∀ b, 0 < A2 b + B2 b → 0 < C b) {w : V} (r : Rep K H0' H' m w E)
    (hE : ∀ mm, x = .tmp mm → ∀ b, E b ≤ B2 b) (e : giveM x m env = some (op, env')) (k : Post K σ H0 H A env' op Q) : Q w H' := by
  unfold giveM at e
  split at e
  · cases e
    exact k w H0' H' A2 (fun _ => 0) s ⟨r.1, fun _ => rfl⟩ (fun b => s.one b) (f.weak fun b hb => hc b (by have hb : 0 < A2 b + 0 := hb; omega))
  · split at e
    · rename_i mm
      cases e
      have hE := hE mm rfl
      exact k w H0' H' A2 E s r (fun b => by have := one b; have := hE b; omega) (f.weak fun b hb => hc b (by have hb : 0 < A2 b + E b := hb; have := hE b; omega))
    · cases e
theorem item_ok {ua ub : U} : ∀ σ H Q, tOf K (uItem ua ub) σ H Q → (tOp (rIx K) (tOf K ua) (tOf K ub) σ H Q ∨ tDGet (tOf K ua) (tOf K ub) σ H Q) := fun σ H Q t => by
  obtain ⟨env, A, H0, op, env', s, e, k⟩ := t
  obtain ⟨⟨x, e1⟩, h1, e⟩ := Option.bind_eq_some_iff.mp e
  obtain ⟨⟨y, e2⟩, h2, e⟩ := Option.bind_eq_some_iff.mp e
  obtain ⟨mx, h3, e⟩ := Option.bind_eq_some_iff.mp e
  obtain ⟨my, h4, e⟩ := Option.bind_eq_some_iff.mp e
  obtain ⟨m, h5, e9⟩ := Option.bind_eq_some_iff.mp e
  by_cases hd : isD mx = true
  · rw [if_pos hd] at h5
    refine .inr (go2 s h1 h2 fun v w H0' H' A' B C s' o1 o2 one f => ?_)
    obtain ⟨C2, r2, _⟩ := rd_ok s' o2 h4
    cases x with
    | tmp mm =>
      have h3 : some mm = some mx := h3
      cases h3
      obtain ⟨a, u, E, rfl, g, r, hE⟩ := dict_get s'.ex o1 r2 h5
      exact ⟨a, u, rfl, g, give_ok s' o1 (fun b => by have := one b; omega) f (fun b hb => by show 0 < A' b + B b + C b; omega) r (fun _ _ => hE) e9 k⟩
    | slot i =>
      obtain ⟨C1, r1, _⟩ := rd_ok s' o1 h3
      obtain ⟨a, u, E, rfl, g, r, hE⟩ := dict_get s'.ex r1 r2 h5
      exact ⟨a, u, rfl, g, give_ok s' o1 (fun b => by have := one b; omega) f (fun b hb => by show 0 < A' b + B b + C b; omega) r (fun mm q => by cases q) e9 k⟩
  · rw [if_neg hd] at h5
    refine .inl (go2 s h1 h2 fun v w H0' H' A' B C s' o1 o2 one f => ?_)
    obtain ⟨C2, r2, _⟩ := rd_ok s' o2 h4
    unfold itemI at h5
    split at h5
    · rename_i kk
      rw [rep_int r2]
      cases x with
      | tmp mm =>
        have h3 : some mm = some mx := h3
        cases h3
        obtain ⟨u, E, _, r, hE, q⟩ := item_rep s'.ex o1 h5
        exact q Q (give_ok s' o1 (fun b => by have := one b; omega) f (fun b hb => by show 0 < A' b + B b + C b; omega) r (fun _ _ => hE) e9 k)
      | slot i =>
        obtain ⟨C1, r1, _⟩ := rd_ok s' o1 h3
        obtain ⟨u, E, _, r, hE, q⟩ := item_rep s'.ex r1 h5
        exact q Q (give_ok s' o1 (fun b => by have := one b; omega) f (fun b hb => by show 0 < A' b + B b + C b; omega) r (fun mm q => by cases q) e9 k)
    · cases h5
end
section
variable {X : Cx} {a b : Expr} {pos : Pos} {ua ub : U}
theorem g_item (hu : X.A.units + 1 < cLine) (ha : PE X a (tOf X.K ua)) (hb : PE X b (tOf X.K ub)) (hs : PlainIx b := by exact fun _ _ => rfl) (hn : NoSl b := by exact fun _ _ => rfl) : PE X (.Subscript a b pos) (tOf X.K (uItem ua ub)) :=
  pe_imp (pe_or (pe_ix ix_seq ha hb hs) (pe_dget hu ha hb hn)) item_ok
end

/-! ### slices -/
abbrev UO := Env → Option (Option Int × Env)
def oOf (K : PySem.W.Frag) (u : UO) : TO := fun σ H Q => ∃ env A H0 c env', Stt K H0 H σ env A ∧ u env = some (c, env') ∧ ∀ H0' H' A', Stt K H0' H' σ env' A' → Fr H0 H A H0' H' A' → Q c H'
def uNo : UO := fun env => some (none, env)
def uPart (u : U) : UO := fun env => (u env).bind fun p => match rd p.2 p.1 with
  | some (.p (.int i)) => some (some i, p.2)
  | _ => none
theorem po_imp {X : Cx} {e : Option Expr} {t t' : TO} (h : PO X e t) (k : ∀ σ H Q, t' σ H Q → t σ H Q) : PO X e t' := ⟨fun pins s σ H Q I q => h.run pins s σ H Q I (k σ H Q q)⟩
def cutL {α : Type} (xs : List α) (lo hi : Option Int) : List α := (xs.drop (HT.sIx xs.length 0 lo)).take (HT.sIx xs.length xs.length hi - HT.sIx xs.length 0 lo)
/-- x[lo:hi] -/
def cutM : M → Option Int → Option Int → Option M
  | .p (.tuple ds), lo, hi => some (.p (.tuple (cutL ds lo hi)))
  | .p (.list ds), lo, hi => some (.l ((cutL ds lo hi).map .p))
  | .l ms, lo, hi => (allP ms).map fun ds => .l ((cutL ds lo hi).map .p)
  | _, _, _ => none
def uSl (u : U) (lo hi : UO) : U := fun env => (u env).bind fun p => (lo p.2).bind fun l => (hi l.2).bind fun h => (rd h.2 p.1).bind fun m => (cutM m l.1 h.1).bind fun r => some (.tmp r, h.2)
section
variable {K : PySem.W.Frag} {H0 H H0' H' : Hp} {σ : L2.St} {env env' : Env} {A A' B C : Fp} {Q : VK}
theorem no_ok : ∀ σ H Q, oOf K uNo σ H Q → tNoPart σ H Q := fun σ H Q t => by
  obtain ⟨env, A, H0, c, env', s, e, k⟩ := t
  cases e
  exact k H0 H A s (Fr.refl fun _ h => h)
theorem part_ok {u : U} : ∀ σ H Q, oOf K (uPart u) σ H Q → tPart (tOf K u) σ H Q := fun σ H Q t => by
  obtain ⟨env, A, H0, c, env', s, e, k⟩ := t
  obtain ⟨⟨x, e1⟩, h1, e⟩ := Option.bind_eq_some_iff.mp e
  split at e
  · rename_i i hr
    cases e
    refine tOf.go s h1 fun v H0' H' A' B s' o one f => ?_
    obtain ⟨C, r, _⟩ := rd_ok s' o hr
    exact ⟨i, rep_int r, k H0' H' A' s' (f.weak fun b hb => by show 0 < A' b + B b; omega)⟩
  · cases e
theorem cut_dq {vs : List V} {ds : List PyData} (h : DqAll K H vs ds) (lo hi : Option Int) : DqAll K H (cutV vs lo hi) (cutL ds lo hi) := by
  unfold cutV cutL
  rw [dpA_len h]
  exact dpA_take (dpA_drop h _) _
theorem cutL_whole {α β : Type} {xs : List α} {ds : List β} {lo hi : Option Int} (e : xs.length = ds.length) (z : HT.sIx xs.length 0 lo = 0 ∧ HT.sIx xs.length xs.length hi = xs.length) : cutL ds lo hi = ds := by
  unfold cutL
  rw [← e, z.1, z.2, List.drop_zero, Nat.sub_zero, List.take_of_length_le (by rw [e]; exact Nat.le_refl _)]
theorem sl_ok {u : U} {lo hi : UO} : ∀ σ H Q, tOf K (uSl u lo hi) σ H Q → tSl (fun x lo hi H Q => rSlL K x lo hi H Q ∨ rSlA K x lo hi H Q) (tOf K u) (oOf K lo) (oOf K hi) σ H Q := fun σ H Q t => by
  obtain ⟨env, A, H0, op, env', s, e, k⟩ := t
  obtain ⟨⟨x, e1⟩, h1, e⟩ := Option.bind_eq_some_iff.mp e
  obtain ⟨⟨l, e2⟩, h2, e⟩ := Option.bind_eq_some_iff.mp e
  obtain ⟨⟨h, e3⟩, h3, e⟩ := Option.bind_eq_some_iff.mp e
  obtain ⟨m, h4, e⟩ := Option.bind_eq_some_iff.mp e
  obtain ⟨r, h5, e⟩ := Option.bind_eq_some_iff.mp e
  cases e
  refine tOf.go s h1 fun v H1' H1 A1 B s1 o1 one1 f1 => ⟨e1, A1, H1', l, e2, s1, h2, fun H2' H2 A2 s2 f2 => ⟨e2, A2, H2', h, _, s2, h3, fun H3' H3 A3 s3 f3 => ?_⟩⟩
  have f23 := f2.trans f3 (fun _ h => h) (E := A3) fun b hb => .inr hb
  have o3 := f23.op o1 one1
  have ap := f23.apart (fun b hb => (o1.own b hb).2) one1 s3.one
  have ff : Fr H0 H A H3' H3 (fun b => A3 b + B b) := f1.trans f23 (fun b hb => by show 0 < A1 b + B b; omega) fun b hb => by
    have hb : 0 < A3 b + B b := hb
    show 0 < A1 b + B b ∨ 0 < A3 b
    omega
  obtain ⟨C, rr, _⟩ := rd_ok s3 o3 h4
  have F := post_fresh s3 ff (fun b hb => by show 0 < A3 b + B b; omega) k
  unfold cutM at h5
  split at h5
  · cases h5
    obtain ⟨q, _⟩ := rr
    cases q with
    | tup h a =>
      refine .inr ⟨_, _, rfl, SqT.of (s3.ex _ _ h), fun z => ?_, fun _ p hp => fresh_tp F s3.ex hp (cut_dq a _ _)⟩
      rw [cutL_whole (dpA_len a) z] at F
      exact fresh_p F s3.ex (.tup h a)
  · cases h5
    obtain ⟨a, vs, rfl, q, hd⟩ := rep_ls s3.ex rr rfl
    exact .inl ⟨a, vs, rfl, q, fun p hp => fresh_lp F s3.ex hp (cut_dq hd _ _)⟩
  · obtain ⟨ds, h6, rfl⟩ := Option.map_eq_some_iff.mp h5
    obtain ⟨a, vs, rfl, q, hd⟩ := rep_ls (ds := ds) s3.ex rr h6
    exact .inl ⟨a, vs, rfl, q, fun p hp => fresh_lp F s3.ex hp (cut_dq hd _ _)⟩
  · cases h5
end
section
variable {X : Cx} {e : Expr} {lo hi : Option Expr} {pos p2 : Pos} {u : U} {ul uh : UO}
theorem go_none : PO X none (oOf X.K uNo) := po_imp po_none no_ok
theorem go_some (h : PE X e (tOf X.K u)) : PO X (some e) (oOf X.K (uPart u)) := po_imp (po_some h) part_ok
theorem g_sl (he : PE X e (tOf X.K u)) (hl : PO X lo (oOf X.K ul)) (hh : PO X hi (oOf X.K uh)) : PE X (.Subscript e (.Slice lo hi none p2) pos) (tOf X.K (uSl u ul uh)) := pe_imp (pe_slice (sl_list.or sl_tupA) he hl hh) sl_ok
end

/-! ### in, not in -/
def inD (y : PyData) (d : PyData) : Option Bool := match y with
  | .list ds => if (okD d && okD (.list ds)) = true then some (ds.any fun z => PyData.eqv z d) else none
  | .tuple ds => if (okD d && okD (.tuple ds)) = true then some (ds.any fun z => PyData.eqv z d) else none
  | .str t => match d with
    | .str z => some (!(Builtin.Str.occurrences t z 0 t.length 1).isEmpty)
    | _ => none
  | _ => none
def inK : M → M → Option Bool
  | .dk ks ms, .p d => (keyD d).map fun k => (lookM ks ms k).isSome
  | .dt ks ms, .p d => (keysD d).map fun k => (lookM ks ms k).isSome
  | .fk ks ds, .p d => (keyD d).map fun k => (lookM ks (ds.map .p) k).isSome
  | _, _ => none
def inM (x y : M) : Option Bool := if isD y = true then inK y x else (frz x).bind fun d => (frz y).bind fun c => inD c d
def uIn (neg : Bool) (a b : U) : U := fun env => (a env).bind fun p => (b p.2).bind fun q => (rd q.2 p.1).bind fun mx => (rd q.2 q.1).bind fun my => (inM mx my).bind fun k => some (.tmp (.p (.bool (if neg then !k else k))), q.2)
def rInT (K : PySem.W.Frag) : R2 := fun x y H Q => ∃ d ds, Dp K H x d ∧ Dp K H y (.tuple ds) ∧ SeqAt.shaped d = true ∧ SeqAt.shaped (.tuple ds) = true ∧ Q (.bl (ds.any fun z => PyData.eqv z d)) H
def rNotInT (K : PySem.W.Frag) : R2 := fun x y H Q => ∃ d ds, Dp K H x d ∧ Dp K H y (.tuple ds) ∧ SeqAt.shaped d = true ∧ SeqAt.shaped (.tuple ds) = true ∧ Q (.bl (!ds.any fun z => PyData.eqv z d)) H
section
variable {X : Cx}
theorem room_inT {A : Around} {d : PyData} {ds : List PyData} (h : SeqAt.shaped d = true) (hu : A.units + 65 < cLine) : A.units + 1 + min (PyData.depthAll ds) d.depth < cLine := by
  have := SeqAt.depth_of_shaped h
  omega
theorem op_inT (hu : X.A.units + 65 < cLine) : OpR X (compareOp .In) (rInT X.K) := by
  intro pins s σ H x y v u Q I rx ry h
  obtain ⟨d, ds, hd, he, sd, se, q⟩ := h
  obtain ⟨as, r1⟩ := hd.reads I d x v rx
  obtain ⟨bs, r2⟩ := he.reads I (.tuple ds) y u ry
  exact SeqAt.in_tuple_reads r2 r1 (SeqAt.canLay_of_shaped se) (SeqAt.canLay_of_shaped sd) (room_inT sd hu) ⟨.bl _, H, I, rfl, q⟩
theorem op_notInT (hu : X.A.units + 65 < cLine) : OpR X (compareOp .NotIn) (rNotInT X.K) := by
  intro pins s σ H x y v u Q I rx ry h
  obtain ⟨d, ds, hd, he, sd, se, q⟩ := h
  obtain ⟨as, r1⟩ := hd.reads I d x v rx
  obtain ⟨bs, r2⟩ := he.reads I (.tuple ds) y u ry
  exact SeqAt.notIn_tuple_reads r2 r1 (SeqAt.canLay_of_shaped se) (SeqAt.canLay_of_shaped sd) (room_inT sd hu) ⟨.bl _, H, I, rfl, q⟩
end
section
variable {K : PySem.W.Frag} {H0 H : Hp}
/-- in a list, a tuple, a text -/
def inF (neg : Bool) : M → M → Option M := fun x y => (frz x).bind fun d => (frz y).bind fun c => (inD c d).map fun k => .p (.bool (if neg then !k else k))
theorem f_in : F2 K (fun x y H Q => rInD K x y H Q ∨ rInT K x y H Q ∨ ∃ i j, x = .str i ∧ y = .str j ∧ Q (.bl (!(Builtin.Str.occurrences j i 0 j.length 1).isEmpty)) H) (inF false) := by
  intro H0 H x y mx my m C D e rx ry q Q k
  obtain ⟨d, h1, q⟩ := Option.bind_eq_some_iff.mp q
  obtain ⟨c, h2, q⟩ := Option.bind_eq_some_iff.mp q
  obtain ⟨b, h3, rfl⟩ := Option.map_eq_some_iff.mp q
  have q1 := rx.frz e (fun _ _ => rfl) h1
  have q2 := ry.frz e (fun _ _ => rfl) h2
  unfold inD at h3
  split at h3
  · split at h3
    · rename_i z
      rw [Bool.and_eq_true] at z
      cases h3
      exact .inl ⟨_, _, q1.dp, q2.dp, z.1, z.2, fresh_p k e (.bl _)⟩
    · cases h3
  · split at h3
    · rename_i z
      rw [Bool.and_eq_true] at z
      cases h3
      exact .inr (.inl ⟨_, _, q1.dp, q2.dp, z.1, z.2, fresh_p k e (.bl _)⟩)
    · cases h3
  · split at h3
    · cases h3
      exact .inr (.inr ⟨_, _, dq_str q1, dq_str q2, fresh_p k e (.bl _)⟩)
    · cases h3
  · cases h3
theorem f_notin : F2 K (fun x y H Q => rNotInD K x y H Q ∨ rNotInT K x y H Q ∨ ∃ i j, x = .str i ∧ y = .str j ∧ Q (.bl (!(!(Builtin.Str.occurrences j i 0 j.length 1).isEmpty))) H) (inF true) := by
  intro H0 H x y mx my m C D e rx ry q Q k
  obtain ⟨d, h1, q⟩ := Option.bind_eq_some_iff.mp q
  obtain ⟨c, h2, q⟩ := Option.bind_eq_some_iff.mp q
  obtain ⟨b, h3, rfl⟩ := Option.map_eq_some_iff.mp q
  have q1 := rx.frz e (fun _ _ => rfl) h1
  have q2 := ry.frz e (fun _ _ => rfl) h2
  unfold inD at h3
  split at h3
  · split at h3
    · rename_i z
      rw [Bool.and_eq_true] at z
      cases h3
      exact .inl ⟨_, _, q1.dp, q2.dp, z.1, z.2, fresh_p k e (.bl _)⟩
    · cases h3
  · split at h3
    · rename_i z
      rw [Bool.and_eq_true] at z
      cases h3
      exact .inr (.inl ⟨_, _, q1.dp, q2.dp, z.1, z.2, fresh_p k e (.bl _)⟩)
    · cases h3
  · split at h3
    · cases h3
      exact .inr (.inr ⟨_, _, dq_str q1, dq_str q2, fresh_p k e (.bl _)⟩)
    · cases h3
  · cases h3
theorem dict_in {mx my : M} {x y : V} {C D : Fp} (e : Ex H0 H) (hx : Rep K H0 H mx x C) (hy : Rep K H0 H my y D) {k : Bool} (q : inK mx my = some k) : ∃ a o, x = .ref a ∧ DGet H a y o ∧ o.isSome = k := by
  cases mx with
  | fk ks ds =>
    cases my with
    | p d =>
      obtain ⟨j, e1, rfl⟩ := Option.map_eq_some_iff.mp (show (keyD d).map (fun k => (lookM ks (ds.map .p) k).isSome) = some k from q)
      obtain ⟨a, vs, o, rfl, h1, hl, h2, h3⟩ := hx
      obtain ⟨g1, g2⟩ := look_rep (ks := ks) (K := K) (H0 := H0) (H := H) j (repL_of_p h2) (by rw [List.length_map]; exact hl.1)
      refine ⟨a, valV (ks.zip vs) j, rfl, ?_, ?_⟩
      · rw [key_dq hy.1 e1]
        exact DGet.fk (e _ _ h1)
      · cases z : lookM ks (ds.map .p) j with
        | none => rw [g2 z]; rfl
        | some m =>
          obtain ⟨v, E, f1, _⟩ := g1 m z
          rw [f1]; rfl
    | _ => cases q
  | dk ks ms =>
    cases my with
    | p d =>
      obtain ⟨j, e1, rfl⟩ := Option.map_eq_some_iff.mp (show (keyD d).map (fun k => (lookM ks ms k).isSome) = some k from q)
      obtain ⟨a, vs, A', rfl, h0, h1, hl, h2, h3⟩ := hx
      obtain ⟨g1, g2⟩ := look_rep j h2 hl.1
      refine ⟨a, valV (ks.zip vs) j, rfl, ?_, ?_⟩
      · rw [key_dq hy.1 e1]
        exact DGet.k h1
      · cases z : lookM ks ms j with
        | none => rw [g2 z]; rfl
        | some m =>
          obtain ⟨v, E, f1, _⟩ := g1 m z
          rw [f1]; rfl
    | _ => cases q
  | dt ks ms =>
    cases my with
    | p d =>
      obtain ⟨j, e1, rfl⟩ := Option.map_eq_some_iff.mp (show (keysD d).map (fun k => (lookM ks ms k).isSome) = some k from q)
      obtain ⟨a, vs, A', rfl, h0, h1, hl, h2, h3⟩ := hx
      obtain ⟨g1, g2⟩ := look_rep j h2 hl.1
      obtain ⟨b, rfl, hb⟩ := keys_dq (dp_mono e hy.1) e1
      refine ⟨a, valV (ks.zip vs) j, rfl, DGet.t h1 hb, ?_⟩
      cases z : lookM ks ms j with
      | none => rw [g2 z]; rfl
      | some m =>
        obtain ⟨v, E, f1, _⟩ := g1 m z
        rw [f1]; rfl
    | _ => cases q
  | _ => cases q
theorem in_okG {neg : Bool} {ua ub : U} {r : R2} (F : F2 K r (inF neg)) : ∀ σ H Q, tOf K (uIn neg ua ub) σ H Q → (tOp r (tOf K ua) (tOf K ub) σ H Q ∨ tOf K ua σ H fun y H1 => tOf K ub σ H1 fun x H2 => ∃ a o, x = .ref a ∧ DGet H2 a y o ∧ Q (.bl (if neg then !o.isSome else o.isSome)) H2) := fun σ H Q t => by
  obtain ⟨env, A, H0, op, env', s, e, k⟩ := t
  obtain ⟨⟨x, e1⟩, h1, e⟩ := Option.bind_eq_some_iff.mp e
  obtain ⟨⟨y, e2⟩, h2, e⟩ := Option.bind_eq_some_iff.mp e
  obtain ⟨mx, h3, e⟩ := Option.bind_eq_some_iff.mp e
  obtain ⟨my, h4, e⟩ := Option.bind_eq_some_iff.mp e
  obtain ⟨b, h5, e⟩ := Option.bind_eq_some_iff.mp e
  cases e
  unfold inM at h5
  by_cases hd : isD my = true
  · rw [if_pos hd] at h5
    refine .inr (go2 s h1 h2 fun v w H0' H' A' B C s' o1 o2 one f => ?_)
    obtain ⟨C1, r1, _⟩ := rd_ok s' o1 h3
    obtain ⟨C2, r2, _⟩ := rd_ok s' o2 h4
    obtain ⟨a, o, rfl, g, rfl⟩ := dict_in s'.ex r2 r1 h5
    exact ⟨a, o, rfl, g, fresh_p (post_fresh s' f (fun b hb => by show 0 < A' b + B b + C b; omega) k) s'.ex (.bl _)⟩
  · rw [if_neg hd] at h5
    refine .inl (go2 s h1 h2 fun v w H0' H' A' B C s' o1 o2 one f => ?_)
    obtain ⟨C1, r1, _⟩ := rd_ok s' o1 h3
    obtain ⟨C2, r2, _⟩ := rd_ok s' o2 h4
    refine F H0' H' v w mx my (.p (.bool (if neg then !b else b))) C1 C2 s'.ex r1 r2 ?_ Q (post_fresh s' f (fun b hb => by show 0 < A' b + B b + C b; omega) k)
    obtain ⟨d, q1, q⟩ := Option.bind_eq_some_iff.mp h5
    obtain ⟨c, q2, q⟩ := Option.bind_eq_some_iff.mp q
    show (frz mx).bind _ = _
    rw [q1]
    show (frz my).bind _ = _
    rw [q2]
    show (inD c d).map _ = _
    rw [q]
    rfl
end
section
variable {X : Cx} {a b : Expr} {pos : Pos} {ua ub : U}
theorem g_in (hu : X.A.units + 65 < cLine) (ha : PE X a (tOf X.K ua)) (hb : PE X b (tOf X.K ub)) (hm : behindInMarks .In b = false := by rfl) : PE X (.Compare a [.In] [b] pos) (tOf X.K (uIn false ua ub)) :=
  pe_imp (pe_or (pe_cmpR ((op_inD hu).or ((op_inT hu).or op_in_str)) ha hb hm) (pe_cmp (pc_din (by omega) ha hb) hm)) (in_okG f_in)
theorem g_notin (hu : X.A.units + 65 < cLine) (ha : PE X a (tOf X.K ua)) (hb : PE X b (tOf X.K ub)) (hm : behindInMarks .NotIn b = false := by rfl) : PE X (.Compare a [.NotIn] [b] pos) (tOf X.K (uIn true ua ub)) :=
  pe_imp (pe_or (pe_cmpR ((op_notInD hu).or ((op_notInT hu).or op_notin_str)) ha hb hm) (pe_cmp (pc_dnotin (by omega) ha hb) hm)) (in_okG f_notin)
end

/-! ### ranges as lists, repr -/
def rgD (a b : Int) : List PyData := (List.range (b - a).toNat).map fun i => .int (a + (i : Nat))
def rgOk (a b : Int) : Bool := decide (-4611686018427387904 ≤ a) && decide (a < 4611686018427387904) && decide (-4611686018427387904 ≤ b) && decide (b < 4611686018427387904) && decide (b - a ≤ 16777216)
abbrev UR := Env → Option ((Int × Int) × Env)
def uR1 (u : U) : UR := fun env => (u env).bind fun p => match rd p.2 p.1 with
  | some (.p (.int i)) => some ((0, i), p.2)
  | _ => none
def uR2 (u w : U) : UR := fun env => (u env).bind fun p => (w p.2).bind fun q => match rd q.2 p.1, rd q.2 q.1 with
  | some (.p (.int i)), some (.p (.int j)) => some ((i, j), q.2)
  | _, _ => none
def rOf (K : PySem.W.Frag) (u : UR) : L2.St → Hp → (Int → Int → Hp → Prop) → Prop := fun σ H Q => ∃ env A H0 c env', Stt K H0 H σ env A ∧ u env = some (c, env') ∧ ∀ H0' H' A', Stt K H0' H' σ env' A' → Fr H0 H A H0' H' A' → Q c.1 c.2 H'
def uLR (r : UR) : U := fun env => (r env).bind fun p => if rgOk p.1.1 p.1.2 = true then some (.tmp (.l ((rgD p.1.1 p.1.2).map .p)), p.2) else none
def uTR (r : UR) : U := fun env => (r env).bind fun p => if rgOk p.1.1 p.1.2 = true then some (.tmp (.p (.tuple (rgD p.1.1 p.1.2))), p.2) else none
section
variable {K : PySem.W.Frag} {H0 H : Hp}
theorem r1_ok {u : U} : ∀ σ H Q, rOf K (uR1 u) σ H Q → tRg1 (tOf K u) σ H Q := fun σ H Q t => by
  obtain ⟨env, A, H0, c, env', s, e, k⟩ := t
  obtain ⟨⟨x, e1⟩, h1, e⟩ := Option.bind_eq_some_iff.mp e
  split at e
  · rename_i i hr
    cases e
    refine tOf.go s h1 fun v H0' H' A' B s' o one f => ?_
    obtain ⟨C, r, _⟩ := rd_ok s' o hr
    exact ⟨i, rep_int r, k H0' H' A' s' (f.weak fun b hb => by show 0 < A' b + B b; omega)⟩
  · cases e
theorem r2_ok {u w : U} : ∀ σ H Q, rOf K (uR2 u w) σ H Q → tRg2 (tOf K u) (tOf K w) σ H Q := fun σ H Q t => by
  obtain ⟨env, A, H0, c, env', s, e, k⟩ := t
  obtain ⟨⟨x, e1⟩, h1, e⟩ := Option.bind_eq_some_iff.mp e
  obtain ⟨⟨y, e2⟩, h2, e⟩ := Option.bind_eq_some_iff.mp e
  split at e
  · rename_i i j hr hr2
    cases e
    refine go2 s h1 h2 fun v w H0' H' A' B C s' o1 o2 one f => ?_
    obtain ⟨C1, r1, _⟩ := rd_ok s' o1 hr
    obtain ⟨C2, r2, _⟩ := rd_ok s' o2 hr2
    exact ⟨i, j, rep_int r1, rep_int r2, k H0' H' A' s' (f.weak fun b hb => by show 0 < A' b + B b + C b; omega)⟩
  · cases e
theorem rg_dq : ∀ (l : List Nat) (a : Int), DqAll K H (l.map fun i => V.int (a + (i : Nat))) (l.map fun i => .int (a + (i : Nat)))
  | [], _ => .nil
  | i :: l, a => .cons (.int _) (rg_dq l a)
theorem rgOk_iff {a b : Int} (h : rgOk a b = true) : RgOk a b := by
  unfold rgOk at h
  simp only [Bool.and_eq_true, decide_eq_true_eq] at h
  exact ⟨by omega, by omega, by omega, by omega, by omega⟩
theorem lr_ok {r : UR} : ∀ σ H Q, tOf K (uLR r) σ H Q → tLstRg (rOf K r) σ H Q := fun σ H Q t => by
  obtain ⟨env, A, H0, op, env', s, e, k⟩ := t
  obtain ⟨⟨c, e1⟩, h1, e⟩ := Option.bind_eq_some_iff.mp e
  split at e
  · rename_i z
    cases e
    exact ⟨env, A, H0, c, _, s, h1, fun H0' H' A' s' f => ⟨rgOk_iff z, fun q hq => fresh_lp (post_fresh s' f (fun _ h => h) k) s'.ex hq (rg_dq _ _)⟩⟩
  · cases e
theorem tr_ok {r : UR} : ∀ σ H Q, tOf K (uTR r) σ H Q → tTupRg (rOf K r) σ H Q := fun σ H Q t => by
  obtain ⟨env, A, H0, op, env', s, e, k⟩ := t
  obtain ⟨⟨c, e1⟩, h1, e⟩ := Option.bind_eq_some_iff.mp e
  split at e
  · rename_i z
    cases e
    exact ⟨env, A, H0, c, _, s, h1, fun H0' H' A' s' f => ⟨rgOk_iff z, fun q hq => fresh_tp (post_fresh s' f (fun _ h => h) k) s'.ex hq (rg_dq _ _)⟩⟩
  · cases e
end
section
variable {X : Cx} {a b e : Expr} {p pos : Pos} {u w : U} {r : UR}
theorem prg_imp {e : Expr} {t t' : L2.St → Hp → (Int → Int → Hp → Prop) → Prop} (h : PRg X e t) (k : ∀ σ H Q, t' σ H Q → t σ H Q) : PRg X e t' :=
  fun pins s σ H Q I q => h pins s σ H Q I (k σ H Q q)
theorem gr_1 (hm : X.mg "range" = none) (ha : PE X a (tOf X.K u)) (hg : Gl X "range" := by rfl) (na : starEach [a] X.env = (false, eval a X.env) :: starEach [] X.env := by rfl) : PRg X (.Call (.Name "range" p) [a] [] pos) (rOf X.K (uR1 u)) :=
  prg_imp (prg_1 hg hm ha na) r1_ok
theorem gr_2 (hm : X.mg "range" = none) (ha : PE X a (tOf X.K u)) (hb : PE X b (tOf X.K w)) (hg : Gl X "range" := by rfl) (na : starEach [a, b] X.env = (false, eval a X.env) :: starEach [b] X.env := by rfl)
    (nb : starEach [b] X.env = (false, eval b X.env) :: starEach [] X.env := by rfl) : PRg X (.Call (.Name "range" p) [a, b] [] pos) (rOf X.K (uR2 u w)) :=
  prg_imp (prg_2 hg hm ha hb na nb (by rw [nb]; rfl)) r2_ok
theorem g_lr (hc : X.calm = true) (hm : X.mg "list" = none) (h : PRg X e (rOf X.K r)) (hg : Gl X "list" := by rfl) (na : starEach [e] X.env = (false, eval e X.env) :: starEach [] X.env := by rfl) : PE X (.Call (.Name "list" p) [e] [] pos) (tOf X.K (uLR r)) :=
  pe_imp (pe_listRg hc hg hm h na) lr_ok
theorem g_tr (hc : X.calm = true) (hm : X.mg "tuple" = none) (h : PRg X e (rOf X.K r)) (hg : Gl X "tuple" := by rfl) (na : starEach [e] X.env = (false, eval e X.env) :: starEach [] X.env := by rfl) : PE X (.Call (.Name "tuple" p) [e] [] pos) (tOf X.K (uTR r)) :=
  pe_imp (pe_tupRg hc hg hm h na) tr_ok
end
def showOk (d : PyData) : Bool := d.showable && !d.hasDict && decide (d.depth ≤ 64) && decide (d.shown.length ≤ sizeLine)
def rRepr (K : PySem.W.Frag) : List V → Hp → VK → Prop := fun xs H Q => ∃ x d, xs = [x] ∧ Dp K H x d ∧ showOk d = true ∧ Q (.str d.shown) H
def fRepr : List M → Option M
  | [m] => (frz m).bind fun d => if showOk d = true then some (.p (.str d.shown)) else none
  | _ => none
theorem fl_repr {K : PySem.W.Frag} : FL K (rRepr K) fRepr := by
  intro H0 H vs ms m e rb q Q k
  unfold fRepr at q
  split at q
  · obtain ⟨d, h1, q⟩ := Option.bind_eq_some_iff.mp q
    split at q
    · rename_i z
      cases q
      obtain ⟨v, C, rfl, r⟩ := repB1 rb
      exact ⟨v, d, rfl, (r.frz e (fun _ _ => rfl) h1).dp, z, fresh_p k e (.str _)⟩
    · cases q
  · cases q
theorem call_repr {X : Cx} (hg : X.A.guards = some []) (hu : X.A.units + 66 < cLine) : CallR X (.builtin "repr") (rRepr X.K) := by
  intro pins s σ H vs us Q I r h
  obtain ⟨x, d, rfl, hd, ok, q⟩ := h
  obtain ⟨u, rfl, rx⟩ := vals1 r
  unfold showOk at ok
  simp only [Bool.and_eq_true, decide_eq_true_eq] at ok
  obtain ⟨⟨⟨o1, o2⟩, o3⟩, o4⟩ := ok
  obtain ⟨as, rd⟩ := hd.reads I d x u rx
  have big : ∀ a, u = .ref a → wpAny (model X.prog X.w) X.A (call (.builtin "repr") [u]) (L2.EP X pins σ Q) X.xe s := fun a e => by
    subst e
    exact repr_of_reads' rd o1 (fun z => by rw [z] at o2; cases o2) hg (by omega) (fun _ _ e => e) (fun h' t tk hk => ⟨.str _, H, I.kept hk, ⟨_, rfl⟩, q⟩) o4
  cases hd with
  | non => cases rx; exact P.repr_of_none ⟨.str _, H, I.tok _, ⟨_, rfl⟩, q⟩
  | bl b => cases rx; exact P.repr_of_bool ⟨.str _, H, I.tok _, ⟨_, rfl⟩, q⟩
  | int i =>
    obtain ⟨t, rfl⟩ := rx
    have o1 : decide (i.natAbs.log2 < 1920) = true := o1
    exact P.repr_of_int (of_decide_eq_true o1) ⟨.str _, H, I.tok _, ⟨_, rfl⟩, q⟩
  | str z =>
    obtain ⟨t, rfl⟩ := rx
    exact P.repr_of_str ⟨.str _, H, I.tok _, ⟨_, rfl⟩, q⟩ o4
  | lst h a => cases rx; exact big _ rfl
  | tup h a => cases rx; exact big _ rfl
section
variable {X : Cx} {a : Expr} {p pos : Pos} {ua : UA}
theorem g_repr (hgd : X.A.guards = some []) (hu : X.A.units + 66 < cLine) (hm : X.mg "repr" = none) (ha : PA X [a] (aOf X.K ua)) (hg : Gl X "repr" := by rfl) (he : starEach [a] X.env = (false, eval a X.env) :: starEach [] X.env := by rfl) : PE X (.Call (.Name "repr" p) [a] [] pos) (tOf X.K (uFun fRepr ua)) :=
  g_callB fl_repr (call_repr hgd hu) hg hm (by decide +kernel) ha (he := he)
end
end G

/-! G7: targets, what is walked, comprehensions. -/
namespace G
open PySem PySem.Spec PyProof.Rows L2

inductive Pat where
  | sl (i : Nat)
  | tp (ps : List Pat)
/-- a tuple's items, for a target -/
def tupE : M → Option (List M)
  | .p (.tuple ds) => some (ds.map .p)
  | .p (.list ds) => some (ds.map .p)
  | .t ms => some ms
  | _ => none
mutual
def asg : Pat → M → Env → Option Env
  | .sl i, m, env => if i < env.length then some (env.set i (some m)) else none
  | .tp ps, m, env => (tupE m).bind fun ms => asgL ps ms env
def asgL : List Pat → List M → Env → Option Env
  | [], [], env => some env
  | p :: ps, m :: ms, env => (asg p m env).bind fun e => asgL ps ms e
  | _, _, _ => none
end
mutual
def slots : Pat → List Nat
  | .sl i => [i]
  | .tp ps => slotsL ps
def slotsL : List Pat → List Nat
  | [] => []
  | p :: ps => slots p ++ slotsL ps
end
/-- the slots but those -/
def But (ns : List Nat) (σ σ' : L2.St) : Prop := σ'.length = σ.length ∧ ∀ k, k ∉ ns → σ'[k]? = σ[k]?
def gOf (K : PySem.W.Frag) (p : Pat) : TG := fun v σ H Q => ∃ env A H0 m B env', Stt K H0 H σ env A ∧ Rep K H0 H m v B ∧ (∀ b, A b + B b ≤ 1) ∧ asg p m env = some env' ∧
  ∀ σ' H0' H' A', Stt K H0' H' σ' env' A' → Fr H0 H (fun b => A b + B b) H0' H' A' → But (slots p) σ σ' → Q σ' H'
def gsOf (K : PySem.W.Frag) (ps : List Pat) : TGs := fun vs σ H Q => ∃ env A H0 ms B env', Stt K H0 H σ env A ∧ RepL K H0 H ms vs B ∧ (∀ b, A b + B b ≤ 1) ∧ asgL ps ms env = some env' ∧
  ∀ σ' H0' H' A', Stt K H0' H' σ' env' A' → Fr H0 H (fun b => A b + B b) H0' H' A' → But (slotsL ps) σ σ' → Q σ' H'
section
variable {K : PySem.W.Frag} {H0 H H0' H' : Hp} {σ : L2.St} {env env' : Env} {A A' B C : Fp}
/-- a slot gets a thing -/
theorem stt_set {i : Nat} {m : M} {v : V} (s : Stt K H0 H σ env A) (r : Rep K H0 H m v B) (one : ∀ b, A b + B b ≤ 1) (hi : i < env.length) :
    ∃ A', Stt K H0 H (σ.set i (some v)) (env.set i (some m)) A' ∧ ∀ b, A' b ≤ A b + B b := by
  obtain ⟨t, A1, A2, f1, f2, f3, f4, f5⟩ := s.rep.zoom (List.getElem?_eq_getElem hi)
  refine ⟨fun b => B b + A2 b, ⟨f5 (some m) (some v) B H0 H (Ex.refl _) (fun b hb => ⟨(f4 b hb).1, rfl⟩) ⟨v, rfl, r⟩, fun b => ?_, s.ex⟩, fun b => ?_⟩
  · have := one b; have := f3 b; show B b + A2 b ≤ 1; omega
  · have := f3 b; show B b + A2 b ≤ A b + B b; omega
theorem gsl_ok {i : Nat} : ∀ v σ H Q, gOf K (.sl i) v σ H Q → gName i v σ H Q := fun v σ H Q h => by
  obtain ⟨env, A, H0, m, B, env', s, r, one, e, k⟩ := h
  have e : (if i < env.length then some (env.set i (some m)) else none) = some env' := by simpa only [asg] using e
  split at e
  · rename_i hi
    cases e
    obtain ⟨A', s', ha⟩ := stt_set s r one hi
    refine k _ H0 H A' s' (Fr.refl fun b hb => by have := ha b; show 0 < A b + B b; omega) ⟨List.length_set, fun j hj => ?_⟩
    exact List.getElem?_set_ne fun e => hj (by rw [← e]; exact List.mem_singleton.mpr rfl)
  · cases e
theorem gnil_ok : ∀ vs σ H Q, gsOf K [] vs σ H Q → gNil vs σ H Q := fun vs σ H Q h => by
  obtain ⟨env, A, H0, ms, B, env', s, r, one, e, k⟩ := h
  cases ms with
  | nil =>
    have e : some env = some env' := by simpa only [asgL] using e
    cases e
    exact ⟨r.1, k σ H0 H A s (Fr.refl fun b hb => by show 0 < A b + B b; omega) ⟨rfl, fun _ _ => rfl⟩⟩
  | cons _ _ => simp only [asgL] at e; cases e
theorem gcons_ok {p : Pat} {ps : List Pat} : ∀ vs σ H Q, gsOf K (p :: ps) vs σ H Q → gCons (gOf K p) (gsOf K ps) vs σ H Q := fun vs σ H Q h => by
  obtain ⟨env, A, H0, ms, B, env', s, r, one, e, k⟩ := h
  cases ms with
  | nil => simp only [asgL] at e; cases e
  | cons m ms =>
    have e : (asg p m env).bind (fun e => asgL ps ms e) = some env' := by simpa only [asgL] using e
    obtain ⟨e1, h1, e⟩ := Option.bind_eq_some_iff.mp e
    obtain ⟨v, vr, B1, B2, rfl, r1, r2, ea⟩ := r
    refine ⟨v, vr, rfl, env, A, H0, m, B1, e1, s, r1, fun b => by have := one b; rw [ea b] at this; omega, h1, fun σ1 H1' H1 A1 s1 f1 b1 => ?_⟩
    have r2' := f1.repL r2 fun b => by have := one b; rw [ea b] at this; show A b + B1 b + B2 b ≤ 1; omega
    have ap := f1.apart (B := B2) (fun b hb => (r2.own b hb).2) (fun b => by have := one b; rw [ea b] at this; show A b + B1 b + B2 b ≤ 1; omega) s1.one
    refine ⟨e1, A1, H1', ms, B2, env', s1, r2', ap, e, fun σ2 H2' H2 A2 s2 f2 b2 => k σ2 H2' H2 A2 s2 ?_ ⟨b2.1.trans b1.1, fun j hj => ?_⟩⟩
    · have f1' : Fr H0 H (fun b => A b + B b) H1' H1 (fun b => A1 b + B2 b) :=
        ⟨f1.e0, fun b hb ha => f1.keep b hb (by have ha : A b + B b = 0 := ha; rw [ea b] at ha; show A b + B1 b = 0; omega), f1.dom, fun b hb => by
          have hb : 0 < A1 b + B2 b := hb
          show 0 < A b + B b ∨ _
          rw [ea b]
          by_cases q : 0 < A1 b
          · rcases f1.new b q with z | z
            · have z : 0 < A b + B1 b := z
              exact .inl (by omega)
            · exact .inr z
          · exact .inl (by omega), fun b hb => (f1.fz b hb).imp id fun z => z.imp (fun z => by have z : 0 < A b + B1 b := z; show 0 < A b + B b; rw [ea b]; omega) id⟩
      exact f1'.trans f2 (fun b hb => hb) fun b hb => .inr hb
    · have hj' : j ∉ slots p ∧ j ∉ slotsL ps := by
        have hj : j ∉ slotsL (p :: ps) := hj
        rw [slotsL, List.mem_append] at hj
        exact ⟨fun z => hj (.inl z), fun z => hj (.inr z)⟩
      exact (b2.2 j hj'.2).trans (b1.2 j hj'.1)
theorem asgL_len : ∀ {ps : List Pat} {ms : List M} {env env' : Env}, asgL ps ms env = some env' → ms.length = ps.length
  | [], [], _, _, _ => rfl
  | [], _ :: _, _, _, e => by simp only [asgL] at e; cases e
  | _ :: _, [], _, _, e => by simp only [asgL] at e; cases e
  | p :: ps, m :: ms, env, env', e => by
    have e : (asg p m env).bind (fun e => asgL ps ms e) = some env' := by simpa only [asgL] using e
    obtain ⟨e1, h1, e⟩ := Option.bind_eq_some_iff.mp e
    rw [List.length_cons, List.length_cons, asgL_len e]
theorem gtp_ok {ps : List Pat} : ∀ v σ H Q, gOf K (.tp ps) v σ H Q → gTup K ps.length (gsOf K ps) v σ H Q ∨ gUnl K ps.length (gsOf K ps) v σ H Q := fun v σ H Q h => by
  obtain ⟨env, A, H0, m, B, env', s, r, one, e, k⟩ := h
  have e : (tupE m).bind (fun ms => asgL ps ms env) = some env' := by simpa only [asg] using e
  obtain ⟨ms, h1, e⟩ := Option.bind_eq_some_iff.mp e
  have go : ∃ a xs, v = .ref a ∧ (H a = some (.tup xs) ∨ SqL K H a xs) ∧ RepL K H0 H ms xs B := by
    unfold tupE at h1
    split at h1
    · cases h1
      obtain ⟨r, hB⟩ := r
      cases r with
      | tup h a =>
        refine ⟨_, _, rfl, .inl (s.ex _ _ h), ?_⟩
        have : B = fun _ => 0 := funext hB
        rw [this]
        exact repL_of_p a
    · cases h1
      obtain ⟨r, hB⟩ := r
      cases r with
      | lst h a =>
        refine ⟨_, _, rfl, .inr (s.ex.sl h), ?_⟩
        have : B = fun _ => 0 := funext hB
        rw [this]
        exact repL_of_p a
    · cases h1
      obtain ⟨a, vs, rfl, e2, e4⟩ := r
      exact ⟨a, vs, rfl, .inl (s.ex _ _ e2), e4⟩
    · cases h1
  obtain ⟨a, xs, rfl, ha, hr⟩ := go
  have z : gsOf K ps xs σ H Q := ⟨env, A, H0, ms, B, env', s, hr, one, e, fun σ' H0' H' A' s' f b => k σ' H0' H' A' s' f ⟨b.1, fun j hj => b.2 j
    (by have hj : j ∉ slots (.tp ps) := hj; rw [slots] at hj; exact hj)⟩⟩
  have hl : xs.length = ps.length := by rw [repL_len hr, asgL_len e]
  rcases ha with ha | ha
  · exact .inl ⟨a, xs, rfl, SqT.of ha, hl, z⟩
  · exact .inr ⟨a, xs, rfl, ha, hl, z⟩
end
section
variable {X : Cx}
theorem pg_imp {e : Expr} {t t' : TG} (h : PG X e t) (k : ∀ v σ H Q, t' v σ H Q → t v σ H Q) : PG X e t' := ⟨fun pins s σ H v u Q I r q => h.run pins s σ H v u Q I r (k v σ H Q q)⟩
theorem pg_or {e : Expr} {t t' : TG} (h : PG X e t) (h' : PG X e t') : PG X e (fun v σ H Q => t v σ H Q ∨ t' v σ H Q) := ⟨fun pins s σ H v u Q I r q => q.elim (fun q => h.run pins s σ H v u Q I r q) fun q => h'.run pins s σ H v u Q I r q⟩
theorem pgs_imp {e : List Expr} {t t' : TGs} (h : PGs X e t) (k : ∀ v σ H Q, t' v σ H Q → t v σ H Q) : PGs X e t' := ⟨fun pins s σ H v u Q I r q => h.run pins s σ H v u Q I r (k v σ H Q q)⟩
theorem gg_n (i : Nat) {x : Str} {pos : Pos} (hN : X.N.Nodup) (hi : X.N[i]? = some x := by rfl) (hx : Loc X.env.scope x := by first | exact Or.inl rfl | exact Or.inr rfl) (hf : X.fn x = true ∨ X.env.scope.names.lookup x = some .local := by first | exact .inl rfl | exact .inr rfl) : PG X (.Name x pos) (gOf X.K (.sl i)) :=
  pg_imp (pg_name hN hi hx hf) gsl_ok
theorem ggs_nil : PGs X [] (gsOf X.K []) := pgs_imp pgs_nil gnil_ok
theorem ggs_cons {e : Expr} {es : List Expr} {p : Pat} {ps : List Pat} (h1 : PG X e (gOf X.K p)) (h2 : PGs X es (gsOf X.K ps)) (hs : (assignEach (e :: es) X.env).map (·.2) = assign e X.env :: (assignEach es X.env).map (·.2) := by rfl) : PGs X (e :: es) (gsOf X.K (p :: ps)) :=
  pgs_imp (pgs_cons h1 h2 hs) gcons_ok
theorem gg_t {es : List Expr} {k : Nat} {ps : List Pat} {pos : Pos} (hc : X.calm = true) (h : PGs X es (gsOf X.K ps)) (hn : (assignEach es X.env).length = ps.length := by rfl) (hst : (assignEach es X.env).findIdx? (·.1) = none := by rfl) : PG X (.Tuple es k pos) (gOf X.K (.tp ps)) :=
  pg_imp (pg_or (pg_tup hc h hn hst) (pg_unl hc h hn hst)) gtp_ok
end

/-! ### what is walked -/
abbrev UI := Env → Option (List PyData × Env)
/-- from a known heap that grew, with what is newly known -/
structure Gro (H0 H H0' H' : Hp) : Prop where
  e0 : Ex H0 H0'
  ex : Ex H0' H'
  keep : ∀ b, H b ≠ none → H' b = H b
  fz : ∀ b, H0' b ≠ none → H0 b ≠ none ∨ H b = none
structure ItOk (K : PySem.W.Frag) (H0 : Hp) (J : It) (ds : List PyData) : Prop where
  go : ∀ i H, i < ds.length → Ex H0 H → J.go i H
  yld : ∀ i Hc H x H', Ex H0 Hc → Ex Hc H → i < ds.length → J.yld i H x H' → ∃ Hc' d, Gro Hc H Hc' H' ∧ ds[i]? = some d ∧ Dq K Hc' x d
  stop : ∀ H, Ex H0 H → J.stop ds.length H
def iOf (K : PySem.W.Frag) (it : UI) : TI := fun σ H R => ∃ env A H0 ds env', Stt K H0 H σ env A ∧ it env = some (ds, env') ∧
  ∀ J H0' H' A', Stt K H0' H' σ env' A' → Fr H0 H A H0' H' A' → ItOk K H0' J ds → R J H'
theorem Gro.refl {H0 H : Hp} (e : Ex H0 H) : Gro H0 H H0 H := ⟨Ex.refl _, e, fun _ _ => rfl, fun _ h => .inl h⟩
/-- the items of a list, of a tuple, shared -/
def seqD : PyData → Option (List PyData)
  | .list ds => some ds
  | .tuple ds => some ds
  | _ => none
def uiSeq (u : U) : UI := fun env => (u env).bind fun p => (take p.2 p.1).bind fun q => (frz q.1).bind fun d => (seqD d).bind fun ds => some (ds, q.2)
section
variable {K : PySem.W.Frag} {H0 H H0' H' : Hp} {σ : L2.St} {env env' : Env} {A A' B C : Fp}
/-- what one has in the hand, shared from here on -/
theorem frz_fr {m : M} {v : V} {d : PyData} (s : Stt K H0 H σ env A) (r : Rep K H0 H m v B) (one : ∀ b, A b + B b ≤ 1) (e : frz m = some d) :
    ∃ H0', Stt K H0' H σ env A ∧ Dq K H0' v d ∧ Fr H0 H (fun b => A b + B b) H0' H A := by
  have ex0 : Ex H0 (shr H0 H B) := fun b o hb => by
    unfold shr
    by_cases q : 0 < B b
    · rw [(r.own b q).1] at hb
      cases hb
    · rw [if_neg q]
      exact hb
  have ex1 : Ex (shr H0 H B) H := fun b o hb => by
    unfold shr at hb
    by_cases q : 0 < B b
    · rw [if_pos q] at hb; exact hb
    · rw [if_neg q] at hb; exact s.ex b o hb
  refine ⟨shr H0 H B, ⟨s.rep.mono ex0 fun b hb => ⟨?_, rfl⟩, s.one, ex1⟩, r.frz ex0 (fun b hb => by unfold shr; rw [if_pos hb]) e, ⟨ex0, fun _ _ _ => rfl, fun _ h => h, fun b hb => .inl (by show 0 < A b + B b; omega), fun b hb => ?_⟩⟩
  · unfold shr
    have := one b
    rw [if_neg (by omega)]
    exact (s.rep.own b hb).1
  · unfold shr at hb
    by_cases q : 0 < B b
    · exact .inr (.inl (by show 0 < A b + B b; omega))
    · rw [if_neg q] at hb
      exact .inl hb
theorem it_list {a : Addr} {vs : List V} {ds : List PyData} (h : SqL K H0 a vs) (hd : DqAll K H0 vs ds) : ItOk K H0 (Itl K a) ds where
  go := fun i H hi e => ⟨vs, vs[i]'(by rw [dpA_len hd]; exact hi), e.sl h, List.getElem?_eq_getElem _⟩
  yld := fun i Hc H x H' e0 e hi y => by
    obtain ⟨rfl, y⟩ := y
    have hx := y vs ((e0.trans e).sl h)
    obtain ⟨d, h1, h2⟩ := dpA_at hd hx
    exact ⟨Hc, d, Gro.refl e, h1, dp_mono e0 h2⟩
  stop := fun H e => ⟨vs, e.sl h, by rw [dpA_len hd]; exact Nat.le_refl _⟩
theorem it_tup {a : Addr} {vs : List V} {ds : List PyData} (h : H0 a = some (.tup vs)) (hd : DqAll K H0 vs ds) : ItOk K H0 (Itt K a) ds where
  go := fun i H hi e => ⟨vs, vs[i]'(by rw [dpA_len hd]; exact hi), SqT.of (e _ _ h), List.getElem?_eq_getElem _⟩
  yld := fun i Hc H x H' e0 e hi y => by
    obtain ⟨rfl, y⟩ := y
    have hx := y vs (SqT.of ((e0.trans e) _ _ h))
    obtain ⟨d, h1, h2⟩ := dpA_at hd hx
    exact ⟨Hc, d, Gro.refl e, h1, dp_mono e0 h2⟩
  stop := fun H e => ⟨vs, SqT.of (e _ _ h), by rw [dpA_len hd]; exact Nat.le_refl _⟩
theorem it_rng {lo : Int} {n : Nat} : ItOk K H0 (Itr lo n) ((List.range n).map fun i => .int (lo + (i : Nat))) where
  go := fun i H hi e => by rw [List.length_map, List.length_range] at hi; exact hi
  yld := fun i Hc H x H' e0 e hi y => by
    obtain ⟨rfl, rfl⟩ := y
    rw [List.length_map, List.length_range] at hi
    exact ⟨Hc, .int (lo + (i : Nat)), Gro.refl e, by rw [List.getElem?_map, List.getElem?_range hi]; rfl, .int _⟩
  stop := fun H e => by rw [List.length_map, List.length_range]; exact Nat.le_refl _
theorem seq_ok {u : U} : ∀ σ H R, iOf K (uiSeq u) σ H R → (iList K (tOf K u) σ H R ∨ iTup K (tOf K u) σ H R) := fun σ H R t => by
  obtain ⟨env, A, H0, ds, env', s, e, k⟩ := t
  obtain ⟨⟨x, e1⟩, h1, e⟩ := Option.bind_eq_some_iff.mp e
  obtain ⟨⟨m, e2⟩, h2, e⟩ := Option.bind_eq_some_iff.mp e
  obtain ⟨d, h3, e⟩ := Option.bind_eq_some_iff.mp e
  obtain ⟨ds', h4, e⟩ := Option.bind_eq_some_iff.mp e
  cases e
  have fin : ∀ v H0' H' A' B, Stt K H0' H' σ e1 A' → OpV K H0' H' σ x v B → (∀ b, A' b + B b ≤ 1) → Fr H0 H A H0' H' (fun b => A' b + B b) → ∃ H2' A2, Stt K H2' H' σ e2 A2 ∧ Dq K H2' v d ∧ Fr H0 H A H2' H' A2 := by
    intro v H0' H' A' B s' o one f
    obtain ⟨H1', A1, B1, s1, r1, a1, b1, f1⟩ := take_fr s' o one h2
    obtain ⟨H2', s2, r2, f2⟩ := frz_fr s1 r1 (fun b => by have := one b; have := a1 b; have := b1 b; omega) h3
    refine ⟨H2', A1, s2, r2, ?_⟩
    have f01 := f.trans f1 (E := fun b => A1 b + B1 b) (fun b hb => by show 0 < A' b + B b; omega) fun b hb => by
      have hb : 0 < A1 b + B1 b := hb
      have := a1 b
      have := b1 b
      exact .inl (by show 0 < A' b + B b; omega)
    exact f01.trans f2 (fun b hb => hb) fun b hb => .inr hb
  cases d with
  | list xs =>
    cases h4
    refine .inl (tOf.go s h1 fun v H0' H' A' B s' o one f => ?_)
    obtain ⟨H2', A2, s2, r2, f2⟩ := fin v H0' H' A' B s' o one f
    cases r2 with
    | lst h a => exact ⟨_, rfl, ⟨_, s2.ex.sl h⟩, k _ H2' H' A2 s2 f2 (it_list h a)⟩
  | tuple xs =>
    cases h4
    refine .inr (tOf.go s h1 fun v H0' H' A' B s' o one f => ?_)
    obtain ⟨H2', A2, s2, r2, f2⟩ := fin v H0' H' A' B s' o one f
    cases r2 with
    | tup h a => exact ⟨_, rfl, ⟨_, SqT.of (s2.ex _ _ h)⟩, k _ H2' H' A2 s2 f2 (it_tup h a)⟩
  | _ => cases h4
/-- range(a), range(a, b), walked -/
def uiR1 (ua : UA) : UI := fun env => (ua env).bind fun p => match rdL p.2 p.1 with
  | some [.p (.int j)] => if rgOk 0 j = true then some (rgD 0 j, p.2) else none
  | _ => none
def uiR2 (ua : UA) : UI := fun env => (ua env).bind fun p => match rdL p.2 p.1 with
  | some [.p (.int i), .p (.int j)] => if rgOk i j = true then some (rgD i j, p.2) else none
  | _ => none
theorem ir1_ok {ua : UA} : ∀ σ H R, iOf K (uiR1 ua) σ H R → iRng1 (aOf K ua) σ H R := fun σ H R t => by
  obtain ⟨env, A, H0, ds, env', s, e, k⟩ := t
  obtain ⟨⟨ops, e1⟩, h1, e⟩ := Option.bind_eq_some_iff.mp e
  split at e
  · rename_i j hj
    split at e
    · rename_i z
      cases e
      refine ⟨env, A, H0, ops, _, s, h1, fun vs H0' H' A' B s' o one f => ?_⟩
      obtain ⟨v, C, rfl, r⟩ := repB1 (rdL_ok s' o hj)
      obtain ⟨q1, q2, q3, q4, q5⟩ := rgOk_iff z
      refine ⟨j, by rw [rep_int r], q3, q4, k _ H0' H' A' s' (f.weak fun b hb => by show 0 < A' b + B b; omega) ?_⟩
      have := it_rng (K := K) (H0 := H0') (lo := 0) (n := j.toNat)
      unfold rgD
      rw [Int.sub_zero]
      exact this
    · cases e
  · cases e
theorem ir2_ok {ua : UA} : ∀ σ H R, iOf K (uiR2 ua) σ H R → iRng2 (aOf K ua) σ H R := fun σ H R t => by
  obtain ⟨env, A, H0, ds, env', s, e, k⟩ := t
  obtain ⟨⟨ops, e1⟩, h1, e⟩ := Option.bind_eq_some_iff.mp e
  split at e
  · rename_i i j hj
    split at e
    · rename_i z
      cases e
      refine ⟨env, A, H0, ops, _, s, h1, fun vs H0' H' A' B s' o one f => ?_⟩
      obtain ⟨v, w, C, D, rfl, r, r2⟩ := repB2 (rdL_ok s' o hj)
      obtain ⟨q1, q2, q3, q4, q5⟩ := rgOk_iff z
      exact ⟨i, j, by rw [rep_int r, rep_int r2], ⟨q1, q2, q3, q4⟩, k _ H0' H' A' s' (f.weak fun b hb => by show 0 < A' b + B b; omega) it_rng⟩
    · cases e
  · cases e
end
section
variable {X : Cx} {tg e a b : Expr} {u : U} {ua : UA} {p pos : Pos}
theorem pi_imp {t t' : TI} (h : PI X tg e t) (k : ∀ σ H R, t' σ H R → t σ H R) : PI X tg e t' := ⟨fun pins s σ H R I q => h.run pins s σ H R I (k σ H R q)⟩
theorem pi_or {t t' : TI} (h : PI X tg e t) (h' : PI X tg e t') : PI X tg e (fun σ H R => t σ H R ∨ t' σ H R) := ⟨fun pins s σ H R I q => by
  rcases q with q | q
  · exact h.run pins s σ H R I q
  · exact h'.run pins s σ H R I q⟩
theorem gi_seq (h : PE X e (tOf X.K u)) : PI X tg e (iOf X.K (uiSeq u)) := pi_imp (pi_or (pi_list h) (pi_tup h)) seq_ok
theorem gi_r1 (hm : X.mg "range" = none) (ha : PA X [a] (aOf X.K ua)) (hg : Gl X "range" := by rfl) (hs : starEach [a] X.env = [(false, eval a X.env)] := by rfl) : PI X tg (.Call (.Name "range" p) [a] [] pos) (iOf X.K (uiR1 ua)) := pi_imp (pi_range1 hg hm ha hs) ir1_ok
theorem gi_r2 (hm : X.mg "range" = none) (ha : PA X [a, b] (aOf X.K ua)) (hg : Gl X "range" := by rfl) (hs : starEach [a, b] X.env = [(false, eval a X.env), (false, eval b X.env)] := by rfl) (hs2 : starEach [b] X.env = [(false, eval b X.env)] := by rfl) : PI X tg (.Call (.Name "range" p) [a, b] [] pos) (iOf X.K (uiR2 ua)) := pi_imp (pi_range2 hg hm ha hs hs2) ir2_ok
end
end G

/-! G8: comprehensions. -/
namespace G
open PySem PySem.Spec PyProof.Rows L2

def wipeE (env : Env) : List Nat → Env
  | [] => env
  | v :: vs => (wipeE env vs).set v none
def restE (env0 : Env) : List Nat → Env → Env
  | [], env => env
  | v :: vs, env => restE env0 vs (env.set v (env0[v]?.getD none))
/-- nothing of one's own stands in these slots -/
def plainAt (env : Env) (vs : List Nat) : Bool := vs.all fun v => match env[v]? with
  | some (some (.p _)) => true
  | some none => true
  | _ => false
def lcL (p : Pat) (t : UT) (u : U) (vs : List Nat) : List PyData → Env → Option (List M × Env)
  | [], env => some ([], env)
  | d :: ds, env => (asg p (.p d) env).bind fun e1 => (t e1).bind fun c => if c.1 = true then
      (u c.2).bind fun q => (take q.2 q.1).bind fun r => (lcL p t u vs ds (wipeE r.2 vs)).bind fun z => some (r.1 :: z.1, z.2)
    else lcL p t u vs ds (wipeE c.2 vs)
def uLc (it : UI) (p : Pat) (t : UT) (u : U) (vs : List Nat) : U := fun env => (it env).bind fun q => if (decide (q.1.length ≤ sizeLine) && plainAt q.2 vs) = true then
  (lcL p t u vs q.1 (wipeE q.2 vs)).bind fun z => some (.tmp (.l z.1), restE q.2 vs z.2) else none
section
variable {K : PySem.W.Frag} {H0 H H0' H' : Hp} {σ σ' : L2.St} {env env' : Env} {A A' B C : Fp}
theorem RepE.slot {i : Nat} {o : Option M} {s : Option V} (h : RepE K H0 H env σ A) (hr : RepO K H0 H o s B) : ∃ A', RepE K H0 H (env.set i o) (σ.set i s) A' ∧ ∀ b, A' b ≤ A b + B b := by
  by_cases hi : i < env.length
  · obtain ⟨t, A1, A2, f1, f2, f3, f4, f5⟩ := h.zoom (List.getElem?_eq_getElem hi)
    exact ⟨fun b => B b + A2 b, f5 o s B H0 H (Ex.refl _) (fun b hb => ⟨(f4 b hb).1, rfl⟩) hr, fun b => by have := f3 b; show B b + A2 b ≤ _; omega⟩
  · have hl := h.len
    rw [List.set_eq_of_length_le (by omega), List.set_eq_of_length_le (by omega)]
    exact ⟨A, h, fun b => by omega⟩
theorem wipe_rep : ∀ {vs : List Nat}, RepE K H0 H env σ A → ∃ A', RepE K H0 H (wipeE env vs) (wipe σ vs) A' ∧ ∀ b, A' b ≤ A b
  | [], h => ⟨A, h, fun _ => Nat.le_refl _⟩
  | v :: vs, h => by
    obtain ⟨A1, h1, l1⟩ := wipe_rep (vs := vs) h
    obtain ⟨A2, h2, l2⟩ := h1.slot (i := v) (o := none) (s := none) (B := fun _ => 0) (fun _ => rfl)
    exact ⟨A2, h2, fun b => by have := l1 b; have := l2 b; omega⟩
theorem wipe_stt (vs : List Nat) (s : Stt K H0 H σ env A) : ∃ A', Stt K H0 H (wipe σ vs) (wipeE env vs) A' ∧ ∀ b, A' b ≤ A b := by
  obtain ⟨A', h, l⟩ := wipe_rep (vs := vs) s.rep
  exact ⟨A', ⟨h, fun b => Nat.le_trans (l b) (s.one b), s.ex⟩, l⟩
theorem wipe_get (σ : L2.St) (k : Nat) : ∀ vs : List Nat, (wipe σ vs)[k]? = if k ∈ vs then (σ[k]?).map (fun _ => none) else σ[k]?
  | [] => by rw [if_neg (by simp)]; rfl
  | v :: vs => by
    unfold wipe
    by_cases q : v = k
    · subst q
      rw [if_pos (by simp)]
      by_cases hl : v < (wipe σ vs).length
      · rw [List.getElem?_set_self hl]
        rw [wipe_length] at hl
        rw [List.getElem?_eq_getElem hl]
        rfl
      · rw [List.getElem?_eq_none (by rw [List.length_set]; omega)]
        rw [wipe_length] at hl
        rw [List.getElem?_eq_none (by omega)]
        rfl
    · rw [List.getElem?_set_ne q, wipe_get σ k vs]
      have : k ∈ v :: vs ↔ k ∈ vs := by
        rw [List.mem_cons]
        exact ⟨fun z => z.resolve_left (Ne.symm q), .inr⟩
      by_cases z : k ∈ vs
      · rw [if_pos z, if_pos (this.mpr z)]
      · rw [if_neg z, if_neg (fun w => z (this.mp w))]
theorem wipe_but {ns vs : List Nat} (h : But ns (wipe σ vs) σ') (hs : ∀ k, k ∈ ns → k ∈ vs) : wipe σ' vs = wipe σ vs := by
  apply List.ext_getElem?
  intro k
  rw [wipe_get, wipe_get]
  have hl := h.1
  rw [wipe_length] at hl
  by_cases q : k ∈ vs
  · rw [if_pos q, if_pos q]
    by_cases z : k < σ.length
    · rw [List.getElem?_eq_getElem z, List.getElem?_eq_getElem (by omega)]; rfl
    · rw [List.getElem?_eq_none (by omega), List.getElem?_eq_none (by omega)]
  · rw [if_neg q, if_neg q, h.2 k (fun z => q (hs k z)), wipe_get, if_neg q]
/-- the slots as they were -/
theorem rest_rep {env0 : Env} {vs0 : List Nat} (hp : ∀ v ∈ vs0, ∃ o, env0[v]? = some o ∧ (o = none ∨ ∃ d x, o = some (M.p d) ∧ σ[v]? = some (some x) ∧ Dq K H0 x d)) : ∀ {vs : List Nat} {env : Env} {A : Fp}, (∀ v ∈ vs, v ∈ vs0) → vs.Nodup → RepE K H0 H env (wipe σ vs) A →
    ∃ A', RepE K H0 H (restE env0 vs env) σ A' ∧ ∀ b, A' b ≤ A b
  | [], env, A, _, _, h => ⟨A, h, fun _ => Nat.le_refl _⟩
  | v :: vs, env, A, hm, nd, h => by
    obtain ⟨nv, nd⟩ := List.nodup_cons.mp nd
    obtain ⟨o, ho, hd⟩ := hp v (hm v List.mem_cons_self)
    have hs : ((wipe σ vs).set v none).set v (σ[v]?.getD none) = wipe σ vs := by
      rw [List.set_set]
      have e := wipe_get σ v vs
      rw [if_neg nv] at e
      cases q : σ[v]? with
      | none =>
        rw [q] at e
        exact List.set_eq_of_length_le (by rw [List.getElem?_eq_none_iff] at e; exact e)
      | some s =>
        rw [q] at e
        exact st_set_self e
    have hr : RepO K H0 H o (σ[v]?.getD none) fun _ => 0 := by
      rcases hd with rfl | ⟨d, x, rfl, hx, hq⟩
      · exact fun _ => rfl
      · rw [hx]
        exact ⟨x, rfl, hq, fun _ => rfl⟩
    have h : RepE K H0 H env ((wipe σ vs).set v none) A := h
    obtain ⟨A1, h1, l1⟩ := h.slot (i := v) hr
    rw [hs] at h1
    obtain ⟨A2, h2, l2⟩ := rest_rep hp (fun w hw => hm w (List.mem_cons_of_mem _ hw)) nd h1
    refine ⟨A2, ?_, fun b => by have := l1 b; have := l2 b; omega⟩
    unfold restE
    rw [ho]
    exact h2
theorem plain_rep {vs : List Nat} (h : RepE K H0 H env σ A) (hp : plainAt env vs = true) : ∀ v ∈ vs, ∃ o, env[v]? = some o ∧ (o = none ∨ ∃ d x, o = some (M.p d) ∧ σ[v]? = some (some x) ∧ Dq K H0 x d) := fun v hv => by
  have q := List.all_eq_true.mp hp v hv
  split at q
  · rename_i d e
    obtain ⟨t, A1, A2, f1, f2, f3, f4, f5⟩ := h.zoom e
    obtain ⟨x, rfl, r⟩ := f2
    exact ⟨_, e, .inr ⟨d, x, rfl, f1, r.1⟩⟩
  · rename_i e
    exact ⟨_, e, .inl rfl⟩
  · cases q
theorem gro_stt (g : Gro H0 H H0' H') (s : Stt K H0 H σ env A) : Stt K H0' H' σ env A :=
  ⟨s.rep.mono g.e0 fun b hb => by
    obtain ⟨o1, o2⟩ := s.rep.own b hb
    refine ⟨?_, g.keep b o2⟩
    cases q : H0' b with
    | none => rfl
    | some o =>
      rcases g.fz b (by rw [q]; exact nofun) with z | z
      · exact absurd o1 z
      · exact absurd z o2, s.one, g.ex⟩
theorem gro_fr (g : Gro H0 H H0' H') : Fr H0 H A H0' H' A :=
  ⟨g.e0, fun b hb _ => g.keep b hb, fun b hb => by rw [g.keep b hb]; exact hb, fun b hb => .inl hb, fun b hb => (g.fz b hb).imp id .inr⟩
/-- the list that a comprehension makes, at D: one's own, apart from the slots -/
structure Acc (K : PySem.W.Frag) (H0 H : Hp) (A : Fp) (D : Addr) (ms : List M) (acc : List V) (B : Fp) : Prop where
  at_ : H D = some (.lst acc)
  fr : H0 D = none
  rep : RepL K H0 H ms acc B
  one : ∀ b, A b + B b + (if b = D then 1 else 0) ≤ 1
theorem Acc.go {ms : List M} {acc : List V} {D : Addr} (a : Acc K H0 H A D ms acc B) (f : Fr H0 H A H0' H' A') (one : ∀ b, A' b ≤ 1) : Acc K H0' H' A' D ms acc B := by
  have od := a.one D
  rw [if_pos rfl] at od
  have hD : H D ≠ none := by rw [a.at_]; exact nofun
  have ap := f.apart (B := fun b => B b + if b = D then 1 else 0) (fun b hb => by
    by_cases q : b = D
    · rw [q]; exact hD
    · have hb : 0 < B b + (if b = D then 1 else 0) := hb
      rw [if_neg q] at hb
      exact (a.rep.own b (by omega)).2) (fun b => by have := a.one b; show A b + (B b + if b = D then 1 else 0) ≤ 1; omega) one
  refine ⟨(f.keep D hD (by omega)).trans a.at_, ?_, f.repL a.rep (fun b => by have := a.one b; omega), fun b => by have := ap b; have this : A' b + (B b + if b = D then 1 else 0) ≤ 1 := this; omega⟩
  cases q : H0' D with
  | none => rfl
  | some o =>
    rcases f.fz D (by rw [q]; exact nofun) with z | z | z
    · exact absurd a.fr z
    · omega
    · exact absurd z hD
/-- one more item -/
theorem Acc.app {ms : List M} {m : M} {acc : List V} {v : V} {D : Addr} (a : Acc K H0 H A D ms acc B) (s : Stt K H0 H σ env A) (r : Rep K H0 H m v C) (one : ∀ b, A b + C b + (B b + if b = D then 1 else 0) ≤ 1) :
    Stt K H0 (upd H D (.lst (acc ++ [v]))) σ env A ∧ Acc K H0 (upd H D (.lst (acc ++ [v]))) A D (ms ++ [m]) (acc ++ [v]) (fun b => B b + C b) ∧ Fr H0 H (fun b => A b + C b + (B b + if b = D then 1 else 0)) H0 (upd H D (.lst (acc ++ [v]))) (fun b => A b + C b + (B b + if b = D then 1 else 0)) := by
  have nD : ∀ b, 0 < A b + C b + B b → b ≠ D := fun b hb q => by
    have := one b
    rw [if_pos q] at this
    omega
  have kp : ∀ b, b ≠ D → upd H D (.lst (acc ++ [v])) b = H b := fun b hb => upd_ne hb
  have ex : Ex H0 (upd H D (.lst (acc ++ [v]))) := fun b o hb => by
    by_cases q : b = D
    · rw [q, a.fr] at hb; cases hb
    · rw [kp b q]; exact s.ex b o hb
  refine ⟨⟨s.rep.mono (Ex.refl _) fun b hb => ⟨(s.rep.own b hb).1, kp b (nD b (by omega))⟩, s.one, ex⟩, ⟨upd_same, a.fr, ?_, fun b => by have := one b; show A b + (B b + C b) + _ ≤ 1; omega⟩, ⟨Ex.refl _, fun b hb ha => kp b fun q => ?_, fun b hb => ?_, fun b hb => .inl hb, fun b hb => .inl hb⟩⟩
  · have r1 : RepL K H0 (upd H D (.lst (acc ++ [v]))) ms acc B := a.rep.mono (Ex.refl _) fun b hb => ⟨(a.rep.own b hb).1, kp b (nD b (by omega))⟩
    have r2 : Rep K H0 (upd H D (.lst (acc ++ [v]))) m v C := r.mono (Ex.refl _) fun b hb => ⟨(r.own b hb).1, kp b (nD b (by omega))⟩
    generalize upd H D (.lst (acc ++ [v])) = H9 at r1 r2
    clear nD kp ex
    have go : ∀ (ms : List M) (acc : List V) (B : Fp), RepL K H0 H9 ms acc B → RepL K H0 H9 (ms ++ [m]) (acc ++ [v]) fun b => B b + C b := by
      intro ms
      induction ms with
      | nil =>
        intro acc B h
        obtain ⟨rfl, h⟩ := h
        exact ⟨v, [], C, fun _ => 0, rfl, r2, ⟨rfl, fun _ => rfl⟩, fun b => by show B b + C b = C b + 0; rw [h b]; omega⟩
      | cons m' ms ih =>
        intro acc B h
        obtain ⟨v', vr, A1, A2, rfl, h1, h2, ea⟩ := h
        exact ⟨v', vr ++ [v], A1, fun b => A2 b + C b, rfl, h1, ih vr A2 h2, fun b => by show B b + C b = A1 b + (A2 b + C b); rw [ea b]; omega⟩
    exact go ms acc B r1
  · have ha : A b + C b + (B b + if b = D then 1 else 0) = 0 := ha
    rw [if_pos q] at ha
    omega
  · by_cases q : b = D
    · rw [q, upd_same]; exact nofun
    · rw [kp b q]; exact hb
/-- the whole: from what is walked to the list -/
theorem lc_okG {it : UI} {p : Pat} {t : UT} {u : U} {vs : List Nat} (hs : ∀ k, k ∈ slots p → k ∈ vs) (nd : vs.Nodup) : ∀ σ H Q, tOf K (uLc it p t u vs) σ H Q → tLc (iOf K it) (gOf K p) (ttOf K t) (tOf K u) vs σ H Q := fun σ H Q h => by
  obtain ⟨env, A, H0, op, env', s, e, k⟩ := h
  obtain ⟨⟨ds, e1⟩, h1, e⟩ := Option.bind_eq_some_iff.mp e
  split at e
  case isFalse => cases e
  rename_i hz
  rw [Bool.and_eq_true, decide_eq_true_eq] at hz
  obtain ⟨hz, hpl⟩ := hz
  have hz : ds.length ≤ sizeLine := hz
  obtain ⟨⟨ms, e2⟩, h2, e⟩ := Option.bind_eq_some_iff.mp e
  cases e
  refine ⟨env, A, H0, ds, e1, s, h1, fun J Hs0 Hs As ss fs ok D hD => ?_⟩
  have pl := plain_rep ss.rep hpl
  obtain ⟨Aw, sw, lw⟩ := wipe_stt vs ss
  -- the invariant
  refine ⟨fun i m H' => ∃ env' A' H0' ms1 ms2 acc B, Stt K H0' H' (wipe σ vs) env' A' ∧ Acc K H0' H' A' D ms1 acc B ∧ Fr Hs0 Hs As H0' H' (fun b => A' b + (B b + if b = D then 1 else 0)) ∧ i + m = ds.length ∧ acc.length ≤ i ∧ lcL p t u vs (ds.drop i) env' = some (ms2, e2) ∧ ms1 ++ ms2 = ms,
    ⟨ds.length, wipeE e1 vs, Aw, Hs0, [], ms, [], fun _ => 0, ?_, ?_, ?_, by omega, Nat.le_refl _, by rw [List.drop_zero]; exact h2, rfl⟩, ?_⟩
  · exact ⟨sw.rep.mono (Ex.refl _) fun b hb => ⟨(sw.rep.own b hb).1, upd_keep hD b (sw.rep.own b hb).2⟩, sw.one, ex_upd sw.ex hD⟩
  · refine ⟨upd_same, sw.ex.none hD, ⟨rfl, fun _ => rfl⟩, fun b => ?_⟩
    by_cases q : b = D
    · rw [if_pos q]
      by_cases z : 0 < Aw b
      · exact absurd (q ▸ hD) (sw.rep.own b z).2
      · show Aw b + 0 + 1 ≤ 1; omega
    · rw [if_neg q]; have := sw.one b; show Aw b + 0 + 0 ≤ 1; omega
  · refine (fr_own (A := As) ss.ex hD).weak fun b hb => ?_
    have hb : 0 < Aw b + (0 + if b = D then 1 else 0) := hb
    have := lw b
    show 0 < As b + if b = D then 1 else 0
    omega
  · rintro i m H' ⟨env', A', H0', ms1, ms2, acc, B, s', ac, f', him, hacc, hrest, hms⟩
    by_cases hi : i < ds.length
    case neg =>
      -- the end
      have ei : i = ds.length := by omega
      subst ei
      rw [List.drop_length] at hrest
      have hrest : some (([] : List M), env') = some (ms2, e2) := hrest
      cases hrest
      rw [List.append_nil] at hms
      subst hms
      have exs : Ex Hs0 H' := f'.e0.trans s'.ex
      refine .inl ⟨ok.stop H' exs, ?_⟩
      obtain ⟨A2, r2, l2⟩ := rest_rep (K := K) (H0 := H0') (H := H') (σ := σ) (env0 := e1) (vs0 := vs) (fun v hv => by
        obtain ⟨o, ho, hd⟩ := pl v hv
        exact ⟨o, ho, hd.imp id fun ⟨d, x, h1, h2, h3⟩ => ⟨d, x, h1, h2, dp_mono f'.e0 h3⟩⟩) (fun _ h => h) nd s'.rep
      refine k (.ref D) H0' H' A2 (fun b => (if b = D then 1 else 0) + B b) ⟨r2, fun b => Nat.le_trans (l2 b) (s'.one b), s'.ex⟩ ⟨D, acc, B, rfl, ac.fr, ac.at_, ac.rep, fun _ => rfl⟩ (fun b => by have := ac.one b; have := l2 b; show A2 b + ((if b = D then 1 else 0) + B b) ≤ 1; omega) ?_
      exact fs.trans f' (fun b hb => hb) fun b hb => by
        have hb : 0 < A2 b + ((if b = D then 1 else 0) + B b) := hb
        have := l2 b
        refine .inr ?_
        show 0 < A' b + (B b + if b = D then 1 else 0)
        omega
    case pos =>
      have exs : Ex Hs0 H' := f'.e0.trans s'.ex
      have hdrop : ds.drop i = ds[i] :: ds.drop (i + 1) := List.drop_eq_getElem_cons hi
      rw [hdrop] at hrest
      unfold lcL at hrest
      obtain ⟨ea, g1, hrest⟩ := Option.bind_eq_some_iff.mp hrest
      obtain ⟨⟨c, eb⟩, g2, hrest⟩ := Option.bind_eq_some_iff.mp hrest
      refine .inr ⟨ok.go i H' hi exs, fun H2 => ∃ env' A' H0' ms1 ms2 acc B, Stt K H0' H2 (wipe σ vs) env' A' ∧ Acc K H0' H2 A' D ms1 acc B ∧ Fr Hs0 Hs As H0' H2 (fun b => A' b + (B b + if b = D then 1 else 0)) ∧ acc.length ≤ i + 1 ∧ lcL p t u vs (ds.drop (i + 1)) env' = some (ms2, e2) ∧ ms1 ++ ms2 = ms, fun H2 hN => ?_, fun x Hx hy => ?_⟩
      · obtain ⟨env2, A2, H02, m1, m2, ac2, B2, q1, q2, q3, q4, q5, q6⟩ := hN
        exact ⟨m - 1, by omega, env2, A2, H02, m1, m2, ac2, B2, q1, q2, q3, by omega, q4, q5, q6⟩
      · obtain ⟨Hc, d, gr, hd, hdq⟩ := ok.yld i H0' H' x Hx f'.e0 s'.ex hi hy
        have hd' : d = ds[i] := by
          rw [List.getElem?_eq_getElem hi] at hd
          exact (Option.some.inj hd).symm
        subst hd'
        have sx := gro_stt gr s'
        have fx : Fr H0' H' A' Hc Hx A' := gro_fr gr
        have ax := ac.go fx sx.one
        refine ⟨env', A', Hc, .p ds[i], fun _ => 0, ea, sx, ⟨hdq, fun _ => rfl⟩, fun b => sx.one b, g1, fun σ2 Ha0 Ha Aa sa fa ba => ⟨wipe_but ba hs, ?_⟩⟩
        have fa' : Fr Hc Hx A' Ha0 Ha Aa := fa.wide fun b hb => hb
        have aa := ax.go fa' sa.one
        refine ttOf.go sa g2 fun Hb0 Hb Ab sb fb => ?_
        have ab := aa.go fb sb.one
        have fxb := (fx.trans fa' (E := Aa) (fun _ h => h) fun b hb => .inr hb).trans fb (E := Ab) (fun _ h => h) fun b hb => .inr hb
        have one_of : ∀ {A1 : Fp} {H1' H1 : Hp}, Acc K H1' H1 A1 D ms1 acc B → ∀ b, A1 b + (B b + if b = D then 1 else 0) ≤ 1 := fun a b => by have := a.one b; omega
        -- frames
        have fD : ∀ {A1 : Fp} {H1' H1 : Hp}, Fr H0' H' A' H1' H1 A1 → Fr Hs0 Hs As H1' H1 (fun b => A1 b + (B b + if b = D then 1 else 0)) := fun {A1 H1' H1} f =>
          f'.trans f (fun b hb => by show 0 < A' b + (B b + if b = D then 1 else 0); omega) fun b hb => by
            have hb : 0 < A1 b + (B b + if b = D then 1 else 0) := hb
            by_cases q : 0 < A1 b
            · exact .inr q
            · exact .inl (by show 0 < A' b + (B b + if b = D then 1 else 0); omega)
        cases c with
        | false =>
          have hrest : lcL p t u vs (ds.drop (i + 1)) (wipeE eb vs) = some (ms2, e2) := hrest
          show ∃ env' A' H0' ms1 ms2 acc B, _
          obtain ⟨A9, s9, l9⟩ := wipe_stt vs sb
          rw [wipe_but ba hs] at s9
          refine ⟨wipeE eb vs, A9, Hb0, ms1, ms2, acc, B, s9, ⟨ab.at_, ab.fr, ab.rep, fun b => by have := ab.one b; have := l9 b; omega⟩, (fD fxb).weak fun b hb => ?_, by omega, hrest, hms⟩
          have hb : 0 < A9 b + (B b + if b = D then 1 else 0) := hb
          have := l9 b
          show 0 < Ab b + (B b + if b = D then 1 else 0)
          omega
        | true =>
          have hrest : ((u eb).bind fun q => (take q.2 q.1).bind fun r => (lcL p t u vs (ds.drop (i + 1)) (wipeE r.2 vs)).bind fun z => some (r.1 :: z.1, z.2)) = some (ms2, e2) := hrest
          obtain ⟨⟨x9, ec⟩, g3, hrest⟩ := Option.bind_eq_some_iff.mp hrest
          obtain ⟨⟨m9, ed⟩, g4, hrest⟩ := Option.bind_eq_some_iff.mp hrest
          obtain ⟨⟨mr, ee⟩, g5, hrest⟩ := Option.bind_eq_some_iff.mp hrest
          cases hrest
          show tOf K u σ2 Hb _
          refine tOf.go sb g3 fun y Hc0 Hc1 Ac Bc sc oc onec fc => ?_
          have ac3 := ab.go (A' := fun b => Ac b + Bc b) fc onec
          obtain ⟨Hd0, Ad, Bd, sd, rd9, ad, bd, fd⟩ := take_fr sc oc onec g4
          have one4 : ∀ b, Ad b + Bd b + (B b + if b = D then 1 else 0) ≤ 1 := fun b => by
            have h1 := ac3.one b
            have h1 : Ac b + Bc b + B b + (if b = D then 1 else 0) ≤ 1 := h1
            have := ad b
            have := bd b
            omega
          have ac4 : Acc K Hd0 Hc1 Ad D ms1 acc B := by
            have z : Acc K Hc0 Hc1 Ac D ms1 acc B := ⟨ac3.at_, ac3.fr, ac3.rep, fun b => by have h1 := ac3.one b; have h1 : Ac b + Bc b + B b + (if b = D then 1 else 0) ≤ 1 := h1; omega⟩
            exact z.go fd sd.one
          obtain ⟨s5, ac5, f5⟩ := ac4.app sd rd9 one4
          refine ⟨acc, ac4.at_, by omega, ?_⟩
          obtain ⟨A9, s9, l9⟩ := wipe_stt vs s5
          rw [wipe_but ba hs] at s9
          refine ⟨wipeE ed vs, A9, Hd0, ms1 ++ [m9], mr, acc ++ [y], fun b => B b + Bd b, s9, ⟨ac5.at_, ac5.fr, ac5.rep, fun b => by have := ac5.one b; have := l9 b; omega⟩, ?_, by rw [List.length_append]; show acc.length + 1 ≤ i + 1; omega, g5, by rw [List.append_assoc]; exact hms⟩
          have fcd : Fr H0' H' A' Hd0 Hc1 (fun b => Ad b + Bd b) := (fxb.trans fc (fun _ h => h) (E := fun b => Ac b + Bc b) fun b hb => .inr hb).trans fd (fun b hb => by show 0 < Ac b + Bc b; omega) fun b hb => by
            have hb : 0 < Ad b + Bd b := hb
            have := ad b
            have := bd b
            exact .inl (by show 0 < Ac b + Bc b; omega)
          exact (fD fcd).trans f5 (fun b hb => hb) fun b hb => by
            have hb : 0 < A9 b + (B b + Bd b + if b = D then 1 else 0) := hb
            have := l9 b
            refine .inr ?_
            show 0 < Ad b + Bd b + (B b + if b = D then 1 else 0)
            omega
def uYes : UT := fun env => some (true, env)
theorem yes_ok : ∀ σ H Q, ttOf K uYes σ H Q → tYes σ H Q := fun σ H Q h => by
  obtain ⟨env, A, H0, c, env', s, e, k⟩ := h
  cases e
  exact k H0 H A s (Fr.refl fun _ h => h)
end
section
variable {X : Cx}
theorem pts_imp {e : List Expr} {t t' : TT} (h : PTs X e t) (k : ∀ σ H Q, t' σ H Q → t σ H Q) : PTs X e t' := ⟨fun pins s σ H Q I q => h.run pins s σ H Q I (k σ H Q q)⟩
theorem gts_nil : PTs X [] (ttOf X.K uYes) := pts_imp pts_nil yes_ok
theorem gts_one {c : Expr} {t : UT} (h : PT X c (ttOf X.K t)) : PTs X [c] (ttOf X.K t) := pts_one h
theorem g_lc {elt tg iter : Expr} {ifs : List Expr} {scope : Scope} (own : List (Str × Nat)) {pos : Pos} {it : UI} {p : Pat} {t : UT} {u : U} (hc : X.calm = true) (hN : X.N.Nodup) (hi : PI X tg iter (iOf X.K it)) (ok : BlkOk X.N X.env.scope scope own)
    (hg : ∀ (s : Shared) (H : Hp) (C : Addr) (cl : List (Str × Addr)) (fp : List Addr), PG (X.blk s H scope (compEnvC scope cl C X.env) fp) tg (gOf X.K p)) (ht : ∀ (s : Shared) (H : Hp) (C : Addr) (cl : List (Str × Addr)) (fp : List Addr), PTs (X.blk s H scope (compEnvC scope cl C X.env) fp) ifs (ttOf X.K t))
    (he : ∀ (s : Shared) (H : Hp) (C : Addr) (cl : List (Str × Addr)) (fp : List Addr), PE (X.blk s H scope (compEnvC scope cl C X.env) fp) elt (tOf X.K u)) (hsl : ∀ k, k ∈ slots p → k ∈ own.map (·.2) := by decide) (nd : (own.map (·.2)).Nodup := by decide) (hs : ∀ x, foldedSetIterable iter X.env x = pure x := by intro _; rfl) :
    PE X (.ListComp elt [⟨tg, iter, ifs, 0⟩] scope pos) (tOf X.K (uLc it p t u (own.map (·.2)))) := pe_imp (pe_lc hc hN hi ok hg ht he hs) (lc_okG hsl nd)
end
end G

/-! G9: statements. -/
namespace G
open PySem PySem.Spec PyProof.Rows L2

inductive Out where
  | nx (e : Env)
  | bk (e : Env)
  | ct (e : Env)
  | rt (m : M) (e : Env)
abbrev S := Env → Option Out
/-- the first slots stay -/
def Pin (np : Nat) (σ σ' : L2.St) : Prop := ∀ k, k < np → σ'[k]? = σ[k]?
def SPost (K : PySem.W.Frag) (np : Nat) (σ : L2.St) (H0 H : Hp) (A : Fp) (D : Ends) : Out → Prop
  | .nx e => ∀ σ' H0' H' A', Stt K H0' H' σ' e A' → Fr H0 H A H0' H' A' → Pin np σ σ' → D.nx σ' H'
  | .bk e => ∀ σ' H0' H' A', Stt K H0' H' σ' e A' → Fr H0 H A H0' H' A' → Pin np σ σ' → D.bk σ' H'
  | .ct e => ∀ σ' H0' H' A', Stt K H0' H' σ' e A' → Fr H0 H A H0' H' A' → Pin np σ σ' → D.ct σ' H'
  | .rt m e => ∀ v σ' H0' H' A' B, Stt K H0' H' σ' e A' → Rep K H0' H' m v B → (∀ b, A' b + B b ≤ 1) → Fr H0 H A H0' H' (fun b => A' b + B b) → Pin np σ σ' → D.rt v H'
def sOf (K : PySem.W.Frag) (np : Nat) (s : S) : TS := fun D σ H => ∃ env A H0 out, Stt K H0 H σ env A ∧ s env = some out ∧ SPost K np σ H0 H A D out

/-! what a text computes, worked out as it goes: the same, but quick in the kernel -/
def stN {α : Type} (n : Nat) (k : Nat → α) : α := match n with
  | 0 => k 0
  | m + 1 => k (m + 1)
theorem stN_eq {α : Type} (n : Nat) (k : Nat → α) : stN n k = k n := by cases n <;> rfl
def stI {α : Type} (i : Int) (k : Int → α) : α := match i with
  | .ofNat n => stN n fun n => k (.ofNat n)
  | .negSucc n => stN n fun n => k (.negSucc n)
theorem stI_eq {α : Type} (n : Int) (k : Int → α) : stI n k = k n := by
  cases n with
  | ofNat m => exact stN_eq m (fun n => k (.ofNat n))
  | negSucc m => exact stN_eq m (fun n => k (.negSucc n))
def stB {α : Type} (b : Bool) (k : Bool → α) : α := match b with
  | true => k true
  | false => k false
theorem stB_eq {α : Type} (n : Bool) (k : Bool → α) : stB n k = k n := by cases n <;> rfl
mutual
def stD {α : Type} : PyData → (PyData → α) → α
  | .none, k => k .none
  | .bool b, k => stB b fun b => k (.bool b)
  | .int i, k => stI i fun i => k (.int i)
  | .str x, k => k (.str x)
  | .list ds, k => stDs ds fun ds => k (.list ds)
  | .tuple ds, k => stDs ds fun ds => k (.tuple ds)
  | .dict x, k => k (.dict x)
def stDs {α : Type} : List PyData → (List PyData → α) → α
  | [], k => k []
  | d :: ds, k => stD d fun d => stDs ds fun ds => k (d :: ds)
end
mutual
theorem stD_eq {α : Type} : ∀ (d : PyData) (k : PyData → α), stD d k = k d
  | .none, k => by rw [stD]
  | .bool b, k => by rw [stD, stB_eq]
  | .int i, k => by rw [stD, stI_eq]
  | .str x, k => by rw [stD]
  | .list ds, k => by rw [stD, stDs_eq]
  | .tuple ds, k => by rw [stD, stDs_eq]
  | .dict x, k => by rw [stD]
theorem stDs_eq {α : Type} : ∀ (d : List PyData) (k : List PyData → α), stDs d k = k d
  | [], k => by rw [stDs]
  | d :: ds, k => by rw [stDs, stD_eq, stDs_eq]
end
def stK {α : Type} : List Key → (List Key → α) → α
  | [], k => k []
  | .inl i :: ks, k => stI i fun i => stK ks fun ks => k (.inl i :: ks)
  | .inr x :: ks, k => stK ks fun ks => k (.inr x :: ks)
theorem stK_eq {α : Type} : ∀ (d : List Key) (k : List Key → α), stK d k = k d
  | [], k => by rw [stK]
  | .inl i :: ks, k => by rw [stK, stI_eq, stK_eq]
  | .inr i :: ks, k => by rw [stK, stK_eq]
def stKs {α : Type} : List (List Key) → (List (List Key) → α) → α
  | [], k => k []
  | i :: ks, k => stK i fun i => stKs ks fun ks => k (i :: ks)
theorem stKs_eq {α : Type} : ∀ (d : List (List Key)) (k : List (List Key) → α), stKs d k = k d
  | [], k => by rw [stKs]
  | i :: ks, k => by rw [stKs, stK_eq, stKs_eq]
mutual
def stM {α : Type} : M → (M → α) → α
  | .p d, k => stD d fun d => k (.p d)
  | .l ms, k => stMs ms fun ms => k (.l ms)
  | .t ms, k => stMs ms fun ms => k (.t ms)
  | .dk ks ms, k => stK ks fun ks => stMs ms fun ms => k (.dk ks ms)
  | .dt ks ms, k => stKs ks fun ks => stMs ms fun ms => k (.dt ks ms)
  | .fk ks ds, k => stK ks fun ks => stDs ds fun ds => k (.fk ks ds)
def stMs {α : Type} : List M → (List M → α) → α
  | [], k => k []
  | m :: ms, k => stM m fun m => stMs ms fun ms => k (m :: ms)
end
mutual
theorem stM_eq {α : Type} : ∀ (d : M) (k : M → α), stM d k = k d
  | .p d, k => by rw [stM, stD_eq]
  | .l ms, k => by rw [stM, stMs_eq]
  | .t ms, k => by rw [stM, stMs_eq]
  | .dk ks ms, k => by rw [stM, stK_eq, stMs_eq]
  | .dt ks ms, k => by rw [stM, stKs_eq, stMs_eq]
  | .fk ks ds, k => by rw [stM, stK_eq, stDs_eq]
theorem stMs_eq {α : Type} : ∀ (d : List M) (k : List M → α), stMs d k = k d
  | [], k => by rw [stMs]
  | d :: ds, k => by rw [stMs, stM_eq, stMs_eq]
end
def stE {α : Type} : Env → (Env → α) → α
  | [], k => k []
  | none :: es, k => stE es fun es => k (none :: es)
  | some m :: es, k => stM m fun m => stE es fun es => k (some m :: es)
theorem stE_eq {α : Type} : ∀ (d : Env) (k : Env → α), stE d k = k d
  | [], k => by rw [stE]
  | none :: ds, k => by rw [stE, stE_eq]
  | some d :: ds, k => by rw [stE, stM_eq, stE_eq]

def sNever : S := fun _ => none
def sPass : S := fun e => some (.nx e)
def sBrk : S := fun e => some (.bk e)
def sCnt : S := fun e => some (.ct e)
def sSeq (a b : S) : S := fun env => (a env).bind fun o => match o with
  | .nx e => stE e b
  | o => some o
def sIf (t : UT) (a b : S) : S := fun env => (t env).bind fun c => if c.1 = true then a c.2 else b c.2
def sAsg (p : Pat) (u : U) : S := fun env => (u env).bind fun q => (take q.2 q.1).bind fun r => (asg p r.1 r.2).bind fun e => some (.nx e)
def sExpr (u : U) : S := fun env => (u env).bind fun q => some (.nx q.2)
/-- given out: what one had goes along -/
def mv (env : Env) : Op → Option (M × Env)
  | .tmp m => some (m, env)
  | .slot i => match env[i]? with
    | some (some (.p d)) => some (.p d, env)
    | some (some m) => some (m, env.set i none)
    | _ => none
def sRet (u : U) : S := fun env => (u env).bind fun q => (mv q.2 q.1).bind fun r => some (.rt r.1 r.2)
def forL (p : Pat) (body : S) : List PyData → Env → Option Out
  | [], env => some (.nx env)
  | d :: ds, env => (asg p (.p d) env).bind fun e1 => (body e1).bind fun o => match o with
    | .nx e => stE e fun e => forL p body ds e
    | .ct e => stE e fun e => forL p body ds e
    | .bk e => some (.nx e)
    | .rt m e => some (.rt m e)
def sFor (it : UI) (p : Pat) (body : S) : S := fun env => (it env).bind fun q => forL p body q.1 q.2
def whL (t : UT) (body : S) : Nat → Env → Option Out
  | 0, _ => none
  | n + 1, env => (t env).bind fun c => if c.1 = true then (body c.2).bind fun o => match o with
      | .nx e => stE e fun e => whL t body n e
      | .ct e => stE e fun e => whL t body n e
      | .bk e => some (.nx e)
      | .rt m e => some (.rt m e)
    else some (.nx c.2)
def FUEL : Nat := 1000000
def sWhile (t : UT) (body : S) : S := fun env => whL t body FUEL env

section
variable {K : PySem.W.Frag} {np : Nat} {H0 H H0' H' : Hp} {σ σ' : L2.St} {env env' : Env} {A A' B C : Fp} {D : Ends}
theorem Pin.refl : Pin np σ σ := fun _ _ => rfl
theorem Pin.trans {σ'' : L2.St} (h : Pin np σ σ') (h' : Pin np σ' σ'') : Pin np σ σ'' := fun k hk => (h' k hk).trans (h k hk)
theorem But.pin {ns : List Nat} (h : But ns σ σ') (hn : ∀ k, k ∈ ns → np ≤ k) : Pin np σ σ' := fun k hk => h.2 k fun z => by have := hn k z; omega
theorem SPost.go {o : Out} (h : SPost K np σ H0 H A D o) (f : Fr H0 H A H0' H' A') (p : Pin np σ σ') : SPost K np σ' H0' H' A' D o := by
  cases o with
  | nx e => exact fun σ2 H02 H2 A2 s2 f2 p2 => h σ2 H02 H2 A2 s2 (f.trans f2 (fun _ h => h) fun b hb => .inr hb) (p.trans p2)
  | bk e => exact fun σ2 H02 H2 A2 s2 f2 p2 => h σ2 H02 H2 A2 s2 (f.trans f2 (fun _ h => h) fun b hb => .inr hb) (p.trans p2)
  | ct e => exact fun σ2 H02 H2 A2 s2 f2 p2 => h σ2 H02 H2 A2 s2 (f.trans f2 (fun _ h => h) fun b hb => .inr hb) (p.trans p2)
  | rt m e => exact fun v σ2 H02 H2 A2 B2 s2 r2 o2 f2 p2 => h v σ2 H02 H2 A2 B2 s2 r2 o2 (f.trans f2 (fun _ h => h) fun b hb => .inr hb) (p.trans p2)
theorem sOf.go {s : S} {o : Out} (st : Stt K H0 H σ env A) (e : s env = some o) (h : SPost K np σ H0 H A D o) : sOf K np s D σ H := ⟨env, A, H0, o, st, e, h⟩
theorem never_ok {t : TS} : ∀ D σ H, sOf K np sNever D σ H → t D σ H := fun D σ H h => by
  obtain ⟨env, A, H0, o, s, e, k⟩ := h
  cases e
theorem pass_ok : ∀ D σ H, sOf K np sPass D σ H → tNext D σ H := fun D σ H h => by
  obtain ⟨env, A, H0, o, s, e, k⟩ := h
  cases e
  exact k σ H0 H A s (Fr.refl fun _ h => h) .refl
theorem brk_ok : ∀ D σ H, sOf K np sBrk D σ H → tBreak D σ H := fun D σ H h => by
  obtain ⟨env, A, H0, o, s, e, k⟩ := h
  cases e
  exact k σ H0 H A s (Fr.refl fun _ h => h) .refl
theorem cnt_ok : ∀ D σ H, sOf K np sCnt D σ H → tCont D σ H := fun D σ H h => by
  obtain ⟨env, A, H0, o, s, e, k⟩ := h
  cases e
  exact k σ H0 H A s (Fr.refl fun _ h => h) .refl
theorem seq_okS {a b : S} : ∀ D σ H, sOf K np (sSeq a b) D σ H → tSeq (sOf K np a) (sOf K np b) D σ H := fun D σ H h => by
  obtain ⟨env, A, H0, o, s, e, k⟩ := h
  obtain ⟨o1, h1, e⟩ := Option.bind_eq_some_iff.mp e
  refine sOf.go s h1 ?_
  cases o1 with
  | nx e1 => exact fun σ' H0' H' A' s' f p => sOf.go s' ((stE_eq _ _).symm.trans e) (k.go f p)
  | bk e1 => cases e; exact k
  | ct e1 => cases e; exact k
  | rt m e1 => cases e; exact k
theorem if_okS {t : UT} {a b : S} : ∀ D σ H, sOf K np (sIf t a b) D σ H → tIfS (ttOf K t) (sOf K np a) (sOf K np b) D σ H := fun D σ H h => by
  obtain ⟨env, A, H0, o, s, e, k⟩ := h
  obtain ⟨⟨c, e1⟩, h1, e⟩ := Option.bind_eq_some_iff.mp e
  refine ttOf.go s h1 fun H0' H' A' s' f => ?_
  cases c with
  | true => exact sOf.go s' e (k.go f .refl)
  | false => exact sOf.go s' e (k.go f .refl)
theorem asg_okS {p : Pat} {u : U} (hp : ∀ k, k ∈ slots p → np ≤ k) : ∀ D σ H, sOf K np (sAsg p u) D σ H → tAsg (tOf K u) (gOf K p) D σ H := fun D σ H h => by
  obtain ⟨env, A, H0, o, s, e, k⟩ := h
  obtain ⟨⟨x, e1⟩, h1, e⟩ := Option.bind_eq_some_iff.mp e
  obtain ⟨⟨m, e2⟩, h2, e⟩ := Option.bind_eq_some_iff.mp e
  obtain ⟨e3, h3, e⟩ := Option.bind_eq_some_iff.mp e
  cases e
  refine tOf.go s h1 fun v H0' H' A' B s' o one f => ?_
  obtain ⟨H1', A1, B1, s1, r1, a1, b1, f1⟩ := take_fr s' o one h2
  refine ⟨e2, A1, H1', m, B1, e3, s1, r1, fun b => by have := one b; have := a1 b; have := b1 b; omega, h3, fun σ2 H2' H2 A2 s2 f2 bt => k σ2 H2' H2 A2 s2 ?_ (bt.pin hp)⟩
  have f01 := f.trans f1 (E := fun b => A1 b + B1 b) (fun b hb => by show 0 < A' b + B b; omega) fun b hb => by
    have hb : 0 < A1 b + B1 b := hb
    have := a1 b
    have := b1 b
    exact .inl (by show 0 < A' b + B b; omega)
  exact f01.trans f2 (fun b hb => hb) fun b hb => .inr hb
theorem expr_okS {u : U} : ∀ D σ H, sOf K np (sExpr u) D σ H → tDrop (tOf K u) D σ H := fun D σ H h => by
  obtain ⟨env, A, H0, o, s, e, k⟩ := h
  obtain ⟨⟨x, e1⟩, h1, e⟩ := Option.bind_eq_some_iff.mp e
  cases e
  exact tOf.go s h1 fun v H0' H' A' B s' o one f => k σ H0' H' A' s' (f.weak fun b hb => by show 0 < A' b + B b; omega) .refl
theorem mv_ok {op : Op} {v : V} {m : M} (s : Stt K H0 H σ env A) (h : OpV K H0 H σ op v B) (one : ∀ b, A b + B b ≤ 1) (e : mv env op = some (m, env')) :
    ∃ A' B', Stt K H0 H σ env' A' ∧ Rep K H0 H m v B' ∧ (∀ b, A' b + B' b ≤ A b + B b) := by
  cases op with
  | tmp m' =>
    cases e
    exact ⟨A, B, s, h, fun b => Nat.le_refl _⟩
  | slot i =>
    obtain ⟨hv, hB⟩ := h
    have e : (match env[i]? with
      | some (some (.p d)) => some (M.p d, env)
      | some (some m) => some (m, env.set i none)
      | _ => none) = some (m, env') := e
    split at e
    · rename_i d q
      cases e
      obtain ⟨t, A1, A2, f1, f2, f3, f4, f5⟩ := s.rep.zoom q
      obtain ⟨v', rfl, r⟩ := f2
      have : v' = v := by
        rw [f1] at hv
        exact Option.some.inj (Option.some.inj hv)
      subst this
      exact ⟨A, fun _ => 0, s, ⟨r.1, fun _ => rfl⟩, fun b => by show A b + 0 ≤ A b + B b; omega⟩
    · rename_i m0 _ q
      cases e
      obtain ⟨t, A1, A2, f1, f2, f3, f4, f5⟩ := s.rep.zoom q
      obtain ⟨v', rfl, r⟩ := f2
      have : v' = v := by
        rw [f1] at hv
        exact Option.some.inj (Option.some.inj hv)
      subst this
      have z := f5 none (some v') (fun _ => 0) H0 H (Ex.refl _) (fun b hb => ⟨(f4 b hb).1, rfl⟩) (fun _ => rfl)
      rw [st_set_self f1] at z
      exact ⟨A2, A1, ⟨by simpa using z, fun b => by have := s.one b; have := f3 b; omega, s.ex⟩, r, fun b => by have := f3 b; omega⟩
    · cases e
theorem ret_okS {u : U} : ∀ D σ H, sOf K np (sRet u) D σ H → tRet (tOf K u) D σ H := fun D σ H h => by
  obtain ⟨env, A, H0, o, s, e, k⟩ := h
  obtain ⟨⟨x, e1⟩, h1, e⟩ := Option.bind_eq_some_iff.mp e
  obtain ⟨⟨m, e2⟩, h2, e⟩ := Option.bind_eq_some_iff.mp e
  cases e
  refine tOf.go s h1 fun v H0' H' A' B s' o one f => ?_
  obtain ⟨A1, B1, s1, r1, l1⟩ := mv_ok s' o one h2
  exact k v σ H0' H' A1 B1 s1 r1 (fun b => by have := one b; have := l1 b; omega) (f.weak fun b hb => by
    have hb : 0 < A1 b + B1 b := hb
    have := l1 b
    show 0 < A' b + B b
    omega) .refl
theorem for_okS {it : UI} {p : Pat} {body : S} (hp : ∀ k, k ∈ slots p → np ≤ k) : ∀ D σ H, sOf K np (sFor it p body) D σ H → tFor (iOf K it) (gOf K p) (sOf K np body) D σ H := fun D σ H h => by
  obtain ⟨env, A, H0, out, s, e, k⟩ := h
  obtain ⟨⟨ds, e1⟩, h1, e⟩ := Option.bind_eq_some_iff.mp e
  refine ⟨env, A, H0, ds, e1, s, h1, fun J Hs0 Hs As ss fs ok => ?_⟩
  have k := k.go fs .refl
  refine ⟨fun i m σ' H' => ∃ env' A' H0', Stt K H0' H' σ' env' A' ∧ Fr Hs0 Hs As H0' H' A' ∧ Pin np σ σ' ∧ i + m = ds.length ∧ forL p body (ds.drop i) env' = some out, ⟨ds.length, e1, As, Hs0, ss, Fr.refl fun _ h => h, .refl, by omega, by rw [List.drop_zero]; exact e⟩, ?_⟩
  rintro i m σ' H' ⟨env', A', H0', s', f', p', him, hr⟩
  have exs : Ex Hs0 H' := f'.e0.trans s'.ex
  by_cases hi : i < ds.length
  case neg =>
    have ei : i = ds.length := by omega
    subst ei
    rw [List.drop_length] at hr
    have hr : some (Out.nx env') = some out := hr
    cases hr
    exact .inl ⟨ok.stop H' exs, k σ' H0' H' A' s' f' p'⟩
  case pos =>
    rw [List.drop_eq_getElem_cons hi] at hr
    unfold forL at hr
    obtain ⟨ea, g1, hr⟩ := Option.bind_eq_some_iff.mp hr
    obtain ⟨ob, g2, hr⟩ := Option.bind_eq_some_iff.mp hr
    refine .inr ⟨ok.go i H' hi exs, fun σ2 H2 => ∃ env' A' H0', Stt K H0' H2 σ2 env' A' ∧ Fr Hs0 Hs As H0' H2 A' ∧ Pin np σ σ2 ∧ forL p body (ds.drop (i + 1)) env' = some out, fun σ2 H2 hN => ?_, fun x Hx hy => ?_⟩
    · obtain ⟨en, An, Hn0, q1, q2, q3, q4⟩ := hN
      exact ⟨m - 1, by omega, en, An, Hn0, q1, q2, q3, by omega, q4⟩
    · obtain ⟨Hc, d, gr, hd, hdq⟩ := ok.yld i H0' H' x Hx f'.e0 s'.ex hi hy
      have hd' : d = ds[i] := by
        rw [List.getElem?_eq_getElem hi] at hd
        exact (Option.some.inj hd).symm
      subst hd'
      have sx := gro_stt gr s'
      have fx : Fr H0' H' A' Hc Hx A' := gro_fr gr
      refine ⟨env', A', Hc, .p ds[i], fun _ => 0, ea, sx, ⟨hdq, fun _ => rfl⟩, fun b => sx.one b, g1, fun σ2 Ha0 Ha Aa sa fa ba => ?_⟩
      have fa' : Fr Hc Hx A' Ha0 Ha Aa := fa.wide fun b hb => hb
      have fxa := f'.trans (fx.trans fa' (E := Aa) (fun _ h => h) fun b hb => .inr hb) (E := Aa) (fun _ h => h) fun b hb => .inr hb
      have pa : Pin np σ σ2 := p'.trans (ba.pin hp)
      refine sOf.go sa g2 ?_
      have kk := k.go fxa pa
      cases ob with
      | nx e9 => exact fun σ3 H03 H3 A3 s3 f3 p3 => ⟨e9, A3, H03, s3, fxa.trans f3 (fun _ h => h) (fun b hb => .inr hb), pa.trans p3, (stE_eq _ _).symm.trans hr⟩
      | ct e9 => exact fun σ3 H03 H3 A3 s3 f3 p3 => ⟨e9, A3, H03, s3, fxa.trans f3 (fun _ h => h) (fun b hb => .inr hb), pa.trans p3, (stE_eq _ _).symm.trans hr⟩
      | bk e9 =>
        have hr : some (Out.nx e9) = some out := hr
        cases hr
        exact fun σ3 H03 H3 A3 s3 f3 p3 => kk σ3 H03 H3 A3 s3 f3 p3
      | rt m9 e9 =>
        have hr : some (Out.rt m9 e9) = some out := hr
        cases hr
        exact kk
theorem while_okS {t : UT} {body : S} : ∀ D σ H, sOf K np (sWhile t body) D σ H → tWhile (ttOf K t) (sOf K np body) D σ H := fun D σ H h => by
  obtain ⟨env, A, H0, out, s, e, k⟩ := h
  have e : whL t body FUEL env = some out := e
  refine ⟨fun m σ' H' => ∃ env' A' H0', Stt K H0' H' σ' env' A' ∧ Fr H0 H A H0' H' A' ∧ Pin np σ σ' ∧ whL t body m env' = some out, ⟨FUEL, env, A, H0, s, Fr.refl fun _ h => h, .refl, e⟩, ?_⟩
  rintro m σ' H' ⟨env', A', H0', s', f', p', hr⟩
  cases m with
  | zero => cases hr
  | succ n =>
    unfold whL at hr
    obtain ⟨⟨c, e1⟩, g1, hr⟩ := Option.bind_eq_some_iff.mp hr
    refine ttOf.go s' g1 fun Ha0 Ha Aa sa fa => ?_
    have ff := f'.trans fa (E := Aa) (fun _ h => h) fun b hb => .inr hb
    cases c with
    | false =>
      have hr : some (Out.nx e1) = some out := hr
      cases hr
      exact k σ' Ha0 Ha Aa sa ff p'
    | true =>
      have hr : (body e1).bind (fun o => match o with
        | .nx e => stE e fun e => whL t body n e
        | .ct e => stE e fun e => whL t body n e
        | .bk e => some (.nx e)
        | .rt m e => some (.rt m e)) = some out := hr
      obtain ⟨ob, g2, hr⟩ := Option.bind_eq_some_iff.mp hr
      refine ⟨fun σ2 H2 => ∃ env' A' H0', Stt K H0' H2 σ2 env' A' ∧ Fr H0 H A H0' H2 A' ∧ Pin np σ σ2 ∧ whL t body n env' = some out, fun σ2 H2 hN => ⟨n, Nat.lt_succ_self _, hN⟩, sOf.go sa g2 ?_⟩
      have kk := k.go ff p'
      cases ob with
      | nx e9 => exact fun σ3 H03 H3 A3 s3 f3 p3 => ⟨e9, A3, H03, s3, ff.trans f3 (fun _ h => h) (fun b hb => .inr hb), p'.trans p3, (stE_eq _ _).symm.trans hr⟩
      | ct e9 => exact fun σ3 H03 H3 A3 s3 f3 p3 => ⟨e9, A3, H03, s3, ff.trans f3 (fun _ h => h) (fun b hb => .inr hb), p'.trans p3, (stE_eq _ _).symm.trans hr⟩
      | bk e9 =>
        have hr : some (Out.nx e9) = some out := hr
        cases hr
        exact fun σ3 H03 H3 A3 s3 f3 p3 => kk σ3 H03 H3 A3 s3 f3 p3
      | rt m9 e9 =>
        have hr : some (Out.rt m9 e9) = some out := hr
        cases hr
        exact kk
end
section
variable {X : Cx} {np : Nat} {st : Stmt} {rest : List Stmt} {e : Expr} {pos : Pos} {a b : S} {u : U} {t : UT} {p : Pat} {it : UI}
theorem gs_never : PS X st (sOf X.K np sNever) := ps_imp ps_never never_ok
theorem gs_pass : PS X (.Pass pos) (sOf X.K np sPass) := ps_imp ps_pass pass_ok
theorem gs_brk : PS X (.Break pos) (sOf X.K np sBrk) := ps_imp ps_break brk_ok
theorem gs_cnt : PS X (.Continue pos) (sOf X.K np sCnt) := ps_imp ps_continue cnt_ok
theorem gss_nil : PSs X [] (sOf X.K np sPass) := pss_imp pss_nil pass_ok
theorem gss_one (h : PS X st (sOf X.K np a)) : PSs X [st] (sOf X.K np a) := pss_one h
theorem gss_cons (h : PS X st (sOf X.K np a)) (h2 : PSs X rest (sOf X.K np b)) : PSs X (st :: rest) (sOf X.K np (sSeq a b)) := pss_imp (pss_cons h h2) seq_okS
theorem gs_doc {x j pos pos'} : PS X (.Expr (.Constant (.str x) j pos) pos') (sOf X.K np sPass) := ps_imp ps_doc pass_ok
theorem gs_if {c : Expr} {sa sb : List Stmt} (hc : PT X c (ttOf X.K t)) (ha : PSs X sa (sOf X.K np a)) (hb : PSs X sb (sOf X.K np b)) : PS X (.If c sa sb pos) (sOf X.K np (sIf t a b)) := ps_imp (ps_if hc ha hb) if_okS
theorem gs_expr (he : PE X e (tOf X.K u)) (hs : swapsWith e none pos.line X.env = pure false := by rfl) : PS X (.Expr e pos) (sOf X.K np (sExpr u)) := ps_imp (ps_expr he hs) expr_okS
theorem gs_ret (he : PE X e (tOf X.K u)) : PS X (.Return (some e) pos) (sOf X.K np (sRet u)) := ps_imp (ps_ret he) ret_okS
theorem gs_asg {tg : Expr} (he : PE X e (tOf X.K u)) (hg : PG X tg (gOf X.K p)) (hp : ∀ k, k ∈ slots p → np ≤ k := by decide) (hs : swapsWithSole [tg] e pos.line X.env = pure false := by rfl) (hw : swappedStores [tg] e X.env = pure none := by rfl)
    (h1 : (assignEach [tg] X.env).map (·.2) = [assign tg X.env] := by rfl) : PS X (.Assign [tg] e pos) (sOf X.K np (sAsg p u)) := ps_imp (ps_asg he hg hs hw h1) (asg_okS hp)
theorem gs_set {i : Nat} {x : Str} {pos' : Pos} (hN : X.N.Nodup) (he : PE X e (tOf X.K u)) (hi : X.N[i]? = some x := by rfl) (hx : Loc X.env.scope x := by first | exact Or.inl rfl | exact Or.inr rfl) (hp : np ≤ i := by decide) (hs : swapsWith e (some (.Name x pos')) pos.line X.env = pure false := by rfl) (hf : X.fn x = true ∨ X.env.scope.names.lookup x = some .local := by first | exact .inl rfl | exact .inr rfl) :
    PS X (.Assign [.Name x pos'] e pos) (sOf X.K np (sAsg (.sl i) u)) :=
  ps_imp (ps_set hN hi hx he hs hf) fun D σ H h => by
    have h' := asg_okS (np := np) (p := .sl i) (fun k hk => by rw [List.mem_singleton.mp (show k ∈ [i] from hk)]; exact hp) D σ H h
    obtain ⟨env, A, H0, op, env', s, q, k⟩ := h'
    exact ⟨env, A, H0, op, env', s, q, fun v H0' H' A' B s' o one f => gsl_ok v σ H' _ (k v H0' H' A' B s' o one f)⟩
theorem gs_for {tg iter : Expr} {body : List Stmt} (hP : PassesOwn (model X.prog X.w) X.A X.env X.xe) (hc : X.calm = true) (hi : PI X tg iter (iOf X.K it)) (hg : PG X tg (gOf X.K p)) (hb : PSs X body (sOf X.K np a)) (hp : ∀ k, k ∈ slots p → np ≤ k := by decide)
    (hs : ∀ x, foldedSetIterable iter X.env x = pure x := by intro _; rfl) : PS X (.For tg iter body [] pos) (sOf X.K np (sFor it p a)) := ps_imp (ps_for hP hc hi hg hb hs) (for_okS hp)
theorem gs_while {c : Expr} {body : List Stmt} (hP : PassesOwn (model X.prog X.w) X.A X.env X.xe) (hc : PT X c (ttOf X.K t)) (hb : PSs X body (sOf X.K np a)) : PS X (.While c body [] pos) (sOf X.K np (sWhile t a)) := ps_imp (ps_while hP hc hb) while_okS
/-- y = [..] on one line, y a local -/
theorem gs_setLc {i : Nat} {y : Str} {py : Pos} {elt tg iter : Expr} {ifs : List Expr} {scope : Scope} (own : List (Str × Nat)) {pos spos : Pos} (hc : X.calm = true) (hN : X.N.Nodup) (hsw : swapsWith (.ListComp elt [⟨tg, iter, ifs, 0⟩] scope pos) (some (.Name y py)) spos.line X.env = pure true)
    (hi : PI X tg iter (iOf X.K it)) (ok : BlkOk X.N X.env.scope scope own)
    (hg : ∀ (s : Shared) (H : Hp) (C : Addr) (cl : List (Str × Addr)) (fp : List Addr), PG (X.blk s H scope (compEnvC scope cl C X.env) fp) tg (gOf X.K p)) (ht : ∀ (s : Shared) (H : Hp) (C : Addr) (cl : List (Str × Addr)) (fp : List Addr), PTs (X.blk s H scope (compEnvC scope cl C X.env) fp) ifs (ttOf X.K t))
    (he : ∀ (s : Shared) (H : Hp) (C : Addr) (cl : List (Str × Addr)) (fp : List Addr), PE (X.blk s H scope (compEnvC scope cl C X.env) fp) elt (tOf X.K u)) (hy : X.N[i]? = some y := by rfl) (hyl : X.env.scope.names.lookup y = some .local := by rfl) (hp : np ≤ i := by decide)
    (hsl : ∀ k, k ∈ slots p → k ∈ own.map (·.2) := by decide) (nd : (own.map (·.2)).Nodup := by decide) (hs : ∀ x, foldedSetIterable iter X.env x = pure x := by intro _; rfl) :
    PS X (.Assign [.Name y py] (.ListComp elt [⟨tg, iter, ifs, 0⟩] scope pos) spos) (sOf X.K np (sAsg (.sl i) (uLc it p t u (own.map (·.2))))) :=
  ps_imp (ps_setLc hc hN hy hyl hsw hi ok hg ht he hs) fun D σ H h => by
    have h' := asg_okS (np := np) (p := .sl i) (fun k hk => by rw [List.mem_singleton.mp (show k ∈ [i] from hk)]; exact hp) D σ H h
    refine lc_okG hsl nd σ H _ ?_
    obtain ⟨env, A, H0, op, env', s, q, k⟩ := h'
    exact ⟨env, A, H0, op, env', s, q, fun v H0' H' A' B s' o one f => gsl_ok v σ H' _ (k v H0' H' A' B s' o one f)⟩
end
end G

/-! G10: what a def changes of its own: lists, dicts; two names at once. -/
namespace G
open PySem PySem.Spec PyProof.Rows L2

section
variable {K : PySem.W.Frag} {np : Nat} {H0 H H0' H' : Hp} {σ σ' : L2.St} {env env' : Env} {A A' B C : Fp} {D : Ends} {Q : VK}
/-- one's own list in a slot, changed in place -/
theorem mut_l {i : Nat} {ms : List M} (s : Stt K H0 H σ env A) (e : env[i]? = some (some (.l ms))) :
    ∃ a vs B, σ[i]? = some (some (.ref a)) ∧ H a = some (.lst vs) ∧ RepL K H0 H ms vs B ∧ (∀ b, (if b = a then 1 else 0) + B b ≤ A b) ∧
      ∀ (C : Fp) ms' vs' B', (∀ b, A b + C b ≤ 1) → (∀ b, B' b ≤ B b + C b) → RepL K H0 H ms' vs' B' →
        ∃ A', Stt K H0 (upd H a (.lst vs')) σ (env.set i (some (.l ms'))) A' ∧ Fr H0 H (fun b => A b + C b) H0 (upd H a (.lst vs')) A' ∧ (∀ b, A' b ≤ A b + C b) ∧ (∀ b, A' b + B b ≤ A b + B' b) := by
  obtain ⟨t, A1, A2, f1, f2, f3, f4, f5⟩ := s.rep.zoom e
  obtain ⟨v, rfl, a, vs, B, rfl, h1, h2, h3, h4⟩ := f2
  refine ⟨a, vs, B, f1, h2, h3, fun b => by have := f3 b; have := h4 b; omega, fun C ms' vs' B' one lB r => ?_⟩
  have na : ∀ b, 0 < B' b ∨ 0 < A2 b → b ≠ a := fun b hb q => by
    have := one b
    have := f3 b
    have := h4 b
    have := lB b
    rw [if_pos q] at *
    omega
  have ex : Ex H0 (upd H a (.lst vs')) := fun b o hb => by
    by_cases q : b = a
    · rw [q, h1] at hb; cases hb
    · rw [upd_ne q]; exact s.ex b o hb
  have r' : RepL K H0 (upd H a (.lst vs')) ms' vs' B' := r.mono (Ex.refl _) fun b hb => ⟨(r.own b hb).1, upd_ne (na b (.inl hb))⟩
  have z := f5 (some (.l ms')) (some (.ref a)) (fun b => (if b = a then 1 else 0) + B' b) H0 (upd H a (.lst vs')) (Ex.refl _) (fun b hb => ⟨(f4 b hb).1, upd_ne (na b (.inr hb))⟩) ⟨.ref a, rfl, a, vs', B', rfl, h1, upd_same, r', fun _ => rfl⟩
  rw [st_set_self f1] at z
  refine ⟨_, ⟨z, fun b => ?_, ex⟩, ⟨Ex.refl _, fun b hb ha => upd_ne fun q => ?_, fun b hb => ?_, fun b hb => .inl ?_, fun b hb => .inl hb⟩, fun b => ?_, fun b => ?_⟩
  · have := one b; have := f3 b; have := h4 b; have := lB b
    show (if b = a then 1 else 0) + B' b + A2 b ≤ 1
    omega
  · have ha : A b + C b = 0 := ha
    have := f3 b
    have := h4 b
    rw [if_pos q] at this
    omega
  · by_cases q : b = a
    · rw [q, upd_same]; exact nofun
    · rw [upd_ne q]; exact hb
  · have hb : 0 < (if b = a then 1 else 0) + B' b + A2 b := hb
    have := f3 b; have := h4 b; have := lB b
    show 0 < A b + C b
    omega
  · have := f3 b; have := h4 b; have := lB b
    show (if b = a then 1 else 0) + B' b + A2 b ≤ A b + C b
    omega
  · have := f3 b; have := h4 b
    show (if b = a then 1 else 0) + B' b + A2 b + B b ≤ A b + B' b
    omega
theorem repL_app {ms ns : List M} {ws : List V} (h2 : RepL K H0 H ns ws C) : ∀ {ms : List M} {vs : List V} {B : Fp}, RepL K H0 H ms vs B → RepL K H0 H (ms ++ ns) (vs ++ ws) fun b => B b + C b
  | [], vs, B, h => by
    obtain ⟨rfl, h⟩ := h
    have : (fun b => B b + C b) = C := funext fun b => by rw [h b]; omega
    rw [this]
    exact h2
  | m :: ms, vs, B, h => by
    obtain ⟨v, vr, A1, A2, rfl, r1, r2, ea⟩ := h
    exact ⟨v, vr ++ ws, A1, fun b => A2 b + C b, rfl, r1, repL_app (ms := ms) h2 r2, fun b => by show B b + C b = A1 b + (A2 b + C b); rw [ea b]; omega⟩
theorem repL_one {m : M} {v : V} (h : Rep K H0 H m v C) : RepL K H0 H [m] [v] C := ⟨v, [], C, fun _ => 0, rfl, h, ⟨rfl, fun _ => rfl⟩, fun _ => rfl⟩
/-- x.append(e) -/
def uApp (i : Nat) (u : U) : U := fun env => match env[i]? with
  | some (some (.l _)) => (u env).bind fun q => (take q.2 q.1).bind fun r => match r.2[i]? with
    | some (some (.l ms)) => if ms.length < sizeLine then some (.tmp (.p .none), r.2.set i (some (.l (ms ++ [r.1])))) else none
    | _ => none
  | _ => none
theorem app_okG {i : Nat} {u : U} : ∀ σ H Q, tOf K (uApp i u) σ H Q → tBM K "list" rAppend (tVar i) (tCons (tOf K u) tNil) σ H Q := fun σ H Q h => by
  obtain ⟨env, A, H0, op, env', s, e, k⟩ := h
  unfold uApp at e
  split at e
  case h_2 => cases e
  rename_i ms0 e0
  obtain ⟨⟨x, e1⟩, h1, e⟩ := Option.bind_eq_some_iff.mp e
  obtain ⟨⟨m, e2⟩, h2, e⟩ := Option.bind_eq_some_iff.mp e
  obtain ⟨a, vs0, B0, f1, f2, f3, f4, _⟩ := mut_l s e0
  refine ⟨.ref a, f1, .inl ⟨rfl, _, SqL.of f2⟩, ?_⟩
  split at e
  case h_2 => cases e
  rename_i ms e3
  split at e
  case isFalse => cases e
  rename_i hz
  cases e
  refine tOf.go s h1 fun v H1' H1 A1 B1 s1 o1 one1 g1 => ?_
  show rAppend (.ref a) [v] H1 Q
  obtain ⟨H2', A2, B2, s2, r2, a2, b2, g2⟩ := take_fr s1 o1 one1 h2
  obtain ⟨a', vs, B3, k1, k2, k3, k4, k5⟩ := mut_l s2 e3
  have : a' = a := by
    rw [f1] at k1
    exact (V.ref.inj (Option.some.inj (Option.some.inj k1))).symm
  subst this
  refine ⟨a', vs, v, rfl, rfl, k2, by rw [repL_len k3]; exact hz, ?_⟩
  have one2 : ∀ b, A2 b + B2 b ≤ 1 := fun b => by have := one1 b; have := a2 b; have := b2 b; omega
  obtain ⟨A3, s3, g3, l3, _⟩ := k5 B2 (ms ++ [m]) (vs ++ [v]) (fun b => B3 b + B2 b) one2 (fun b => Nat.le_refl _) (repL_app (ms := ms) (repL_one r2) k3)
  refine k .non H2' _ A3 (fun _ => 0) s3 ⟨.non, fun _ => rfl⟩ (fun b => s3.one b) ?_
  have g12 := g1.trans g2 (E := fun b => A2 b + B2 b) (fun b hb => by show 0 < A1 b + B1 b; omega) fun b hb => by
    have hb : 0 < A2 b + B2 b := hb
    have := a2 b
    have := b2 b
    exact .inl (by show 0 < A1 b + B1 b; omega)
  exact g12.trans g3 (fun b hb => hb) fun b hb => .inr hb
/-- x.pop(), x.pop(e) -/
def uPop (i : Nat) : U := fun env => match env[i]? with
  | some (some (.l ms)) => match ms[ms.length - 1]? with
    | some m => some (.tmp m, env.set i (some (.l ms.dropLast)))
    | none => none
  | _ => none
theorem repL_dropLast : ∀ {ms : List M} {vs : List V} {B : Fp} {m : M}, RepL K H0 H ms vs B → ms[ms.length - 1]? = some m → ∃ v B1 C, vs[vs.length - 1]? = some v ∧ RepL K H0 H ms.dropLast vs.dropLast B1 ∧ Rep K H0 H m v C ∧ ∀ b, B b = B1 b + C b
  | [], vs, B, m, h, e => by cases e
  | [m'], vs, B, m, h, e => by
    obtain ⟨v, vr, A1, A2, rfl, r1, ⟨rfl, r2⟩, ea⟩ := h
    cases e
    exact ⟨v, fun _ => 0, A1, rfl, ⟨rfl, fun _ => rfl⟩, r1, fun b => by show B b = 0 + A1 b; rw [ea b, r2 b]; omega⟩
  | m' :: m2 :: ms, vs, B, m, h, e => by
    obtain ⟨v, vr, A1, A2, rfl, r1, r2, ea⟩ := h
    have e : (m2 :: ms)[(m2 :: ms).length - 1]? = some m := e
    obtain ⟨w, B1, C, g1, g2, g3, g4⟩ := repL_dropLast r2 e
    have hl := repL_len r2
    cases vr with
    | nil => rw [List.length_cons] at hl; exact absurd hl (by simp)
    | cons w2 vr =>
      exact ⟨w, fun b => A1 b + B1 b, C, g1, ⟨v, (w2 :: vr).dropLast, A1, B1, rfl, r1, g2, fun _ => rfl⟩, g3, fun b => by show B b = A1 b + B1 b + C b; rw [ea b, g4 b]; omega⟩
theorem pop_okG {i : Nat} : ∀ σ H Q, tOf K (uPop i) σ H Q → tBM0 K "list" rPop (tVar i) σ H Q := fun σ H Q h => by
  obtain ⟨env, A, H0, op, env', s, e, k⟩ := h
  unfold uPop at e
  split at e
  case h_2 => cases e
  rename_i ms e0
  split at e
  case h_2 => cases e
  rename_i m hm
  cases e
  obtain ⟨a, vs, B, f1, f2, f3, f4, f5⟩ := mut_l s e0
  obtain ⟨v, B1, C, g1, g2, g3, g4⟩ := repL_dropLast f3 hm
  refine ⟨.ref a, f1, .inl ⟨rfl, _, SqL.of f2⟩, a, vs, v, rfl, rfl, f2, g1, ?_⟩
  obtain ⟨A3, s3, fr3, l3, l4⟩ := f5 (fun _ => 0) ms.dropLast vs.dropLast B1 (fun b => s.one b) (fun b => by rw [g4 b]; omega) g2
  have nc : ∀ b, 0 < C b → b ≠ a := fun b hb q => by
    have h1 := s.one b
    have h2 := f4 b
    rw [if_pos q, g4 b] at h2
    omega
  have g3' : Rep K H0 (upd H a (.lst vs.dropLast)) m v C := g3.mono (Ex.refl _) fun b hb => ⟨(g3.own b hb).1, upd_ne (nc b hb)⟩
  refine k v H0 _ A3 C s3 g3' (fun b => ?_) ?_
  · have h1 := s.one b
    have h2 := l4 b
    have h3 := g4 b
    omega
  · have z : Fr H0 H A H0 (upd H a (.lst vs.dropLast)) (fun b => A3 b + C b) := ⟨fr3.e0, fun b hb ha => fr3.keep b hb (by show A b + 0 = 0; omega), fr3.dom, fun b hb => by
      have hb : 0 < A3 b + C b := hb
      by_cases q : 0 < A3 b
      · exact (fr3.new b q).imp (fun z => by have z : 0 < A b + 0 := z; omega) id
      · have := f4 b
        rw [g4 b] at this
        exact .inl (by omega), fun b hb => (fr3.fz b hb).imp id fun z => z.imp (fun z => by have z : 0 < A b + 0 := z; omega) id⟩
    exact z
def uPopAt (i : Nat) (u : U) : U := fun env => match env[i]? with
  | some (some (.l _)) => (u env).bind fun q => match rd q.2 q.1, q.2[i]? with
    | some (.p (.int j)), some (some (.l ms)) => match ixN ms.length j with
      | some n => if decide (-9223372036854775808 ≤ j) && decide (j < 9223372036854775808) then (ms[n]?).map fun m => (.tmp m, q.2.set i (some (.l (ms.eraseIdx n)))) else none
      | none => none
    | _, _ => none
  | _ => none
theorem repL_erase : ∀ {ms : List M} {vs : List V} {B : Fp} {n : Nat} {m : M}, RepL K H0 H ms vs B → ms[n]? = some m → ∃ v B1 C, vs[n]? = some v ∧ RepL K H0 H (ms.eraseIdx n) (vs.eraseIdx n) B1 ∧ Rep K H0 H m v C ∧ ∀ b, B b = B1 b + C b
  | [], vs, B, n, m, h, e => by cases e
  | m' :: ms, vs, B, 0, m, h, e => by
    obtain ⟨v, vr, A1, A2, rfl, r1, r2, ea⟩ := h
    rw [List.getElem?_cons_zero] at e
    cases e
    exact ⟨v, A2, A1, rfl, r2, r1, fun b => by rw [ea b]; omega⟩
  | m' :: ms, vs, B, n + 1, m, h, e => by
    obtain ⟨v, vr, A1, A2, rfl, r1, r2, ea⟩ := h
    rw [List.getElem?_cons_succ] at e
    obtain ⟨w, B1, C, g1, g2, g3, g4⟩ := repL_erase r2 e
    exact ⟨w, fun b => A1 b + B1 b, C, by rw [List.getElem?_cons_succ]; exact g1, ⟨v, vr.eraseIdx n, A1, B1, rfl, r1, g2, fun _ => rfl⟩, g3, fun b => by show B b = A1 b + B1 b + C b; rw [ea b, g4 b]; omega⟩
theorem popAt_okG {i : Nat} {u : U} : ∀ σ H Q, tOf K (uPopAt i u) σ H Q → tBM K "list" rPopAt (tVar i) (tCons (tOf K u) tNil) σ H Q := fun σ H Q h => by
  obtain ⟨env, A, H0, op, env', s, e, k⟩ := h
  unfold uPopAt at e
  split at e
  case h_2 => cases e
  rename_i ms0 e0
  obtain ⟨⟨x, e1⟩, h1, e⟩ := Option.bind_eq_some_iff.mp e
  obtain ⟨a, vs0, B0, f1, f2, f3, f4, _⟩ := mut_l s e0
  refine ⟨.ref a, f1, .inl ⟨rfl, _, SqL.of f2⟩, ?_⟩
  split at e
  case h_2 => cases e
  rename_i j ms hj e3
  split at e
  case h_2 => cases e
  rename_i n hn
  split at e
  case isFalse => cases e
  rename_i hz
  rw [Bool.and_eq_true, decide_eq_true_eq, decide_eq_true_eq] at hz
  obtain ⟨m, hm, e⟩ := Option.map_eq_some_iff.mp e
  cases e
  refine tOf.go s h1 fun v H1' H1 A1 B1 s1 o1 one1 g1 => ?_
  show rPopAt (.ref a) [v] H1 Q
  obtain ⟨C0, r0, _⟩ := rd_ok s1 o1 hj
  obtain ⟨a', vs, B3, k1, k2, k3, k4, k5⟩ := mut_l s1 e3
  have : a' = a := by
    rw [f1] at k1
    exact (V.ref.inj (Option.some.inj (Option.some.inj k1))).symm
  subst this
  obtain ⟨w, B4, C, q1, q2, q3, q4⟩ := repL_erase k3 hm
  have hsq := ixN_seq hn
  rw [← repL_len k3] at hsq
  refine ⟨a', vs, j, n, w, rfl, by rw [rep_int r0], k2, by omega, by omega, hsq.1, q1, ?_⟩
  obtain ⟨A3, s3, fr3, l3, l4⟩ := k5 (fun _ => 0) (ms.eraseIdx n) (vs.eraseIdx n) B4 (fun b => s1.one b) (fun b => by rw [q4 b]; omega) q2
  have nc : ∀ b, 0 < C b → b ≠ a' := fun b hb q => by
    have h1 := s1.one b
    have h2 := k4 b
    rw [if_pos q, q4 b] at h2
    omega
  have q3' : Rep K H1' (upd H1 a' (.lst (vs.eraseIdx n))) m w C := q3.mono (Ex.refl _) fun b hb => ⟨(q3.own b hb).1, upd_ne (nc b hb)⟩
  refine k w H1' _ A3 C s3 q3' (fun b => ?_) ?_
  · have h1 := s1.one b
    have h2 := l4 b
    have h3 := q4 b
    omega
  · refine g1.trans fr3 (fun b hb => by have hb : 0 < A1 b + 0 := hb; show 0 < A1 b + B1 b; omega) fun b hb => ?_
    have hb : 0 < A3 b + C b := hb
    by_cases q : 0 < A3 b
    · exact .inr q
    · have := k4 b
      rw [q4 b] at this
      exact .inl (by show 0 < A1 b + B1 b; omega)
/-- x[i] = e of a list -/
def sSetL (i : Nat) (ui ue : U) : S := fun env => (ue env).bind fun q => (take q.2 q.1).bind fun r => match r.2[i]? with
  | some (some (.l _)) => (ui r.2).bind fun z => match rd z.2 z.1, z.2[i]? with
    | some (.p (.int j)), some (some (.l ms)) => match ixN ms.length j with
      | some n => some (.nx (z.2.set i (some (.l (ms.set n r.1)))))
      | none => none
    | _, _ => none
  | _ => none
theorem repL_set : ∀ {ms : List M} {vs : List V} {B C : Fp} {n : Nat} {m : M} {v : V}, RepL K H0 H ms vs B → Rep K H0 H m v C → ∃ B', RepL K H0 H (ms.set n m) (vs.set n v) B' ∧ ∀ b, B' b ≤ B b + C b
  | [], vs, B, C, n, m, v, h, r => by
    obtain ⟨rfl, h⟩ := h
    exact ⟨B, ⟨rfl, h⟩, fun b => by omega⟩
  | m' :: ms, vs, B, C, 0, m, v, h, r => by
    obtain ⟨v', vr, A1, A2, rfl, r1, r2, ea⟩ := h
    exact ⟨fun b => C b + A2 b, ⟨v, vr, C, A2, rfl, r, r2, fun _ => rfl⟩, fun b => by show C b + A2 b ≤ _; rw [ea b]; omega⟩
  | m' :: ms, vs, B, C, n + 1, m, v, h, r => by
    obtain ⟨v', vr, A1, A2, rfl, r1, r2, ea⟩ := h
    obtain ⟨B2, g1, g2⟩ := repL_set (n := n) r2 r
    exact ⟨fun b => A1 b + B2 b, ⟨v', vr.set n v, A1, B2, rfl, r1, g1, fun _ => rfl⟩, fun b => by have := g2 b; show A1 b + B2 b ≤ _; rw [ea b]; omega⟩
theorem setL_okS {i : Nat} {ui ue : U} : ∀ D σ H, sOf K np (sSetL i ui ue) D σ H → tAsg (tOf K ue) (gSub (tVar i) (tOf K ui) rSetL) D σ H := fun D σ H h => by
  obtain ⟨env, A, H0, o, s, e, k⟩ := h
  obtain ⟨⟨x, e1⟩, h1, e⟩ := Option.bind_eq_some_iff.mp e
  obtain ⟨⟨m, e2⟩, h2, e⟩ := Option.bind_eq_some_iff.mp e
  split at e
  case h_2 => cases e
  rename_i ms0 e0
  obtain ⟨⟨y, e3⟩, h3, e⟩ := Option.bind_eq_some_iff.mp e
  split at e
  case h_2 => cases e
  rename_i j ms hj e4
  split at e
  case h_2 => cases e
  rename_i n hn
  cases e
  refine tOf.go s h1 fun v H1' H1 A1 B1 s1 o1 one1 g1 => ?_
  obtain ⟨H2', A2, B2, s2, r2, a2, b2, g2⟩ := take_fr s1 o1 one1 h2
  have one2 : ∀ b, A2 b + B2 b ≤ 1 := fun b => by have := one1 b; have := a2 b; have := b2 b; omega
  obtain ⟨a, vs0, B0, f1, f2, f3, f4, _⟩ := mut_l s2 e0
  refine ⟨.ref a, f1, tOf.go s2 h3 fun w H3' H3 A3 B3 s3 o3 one3 g3 => ?_⟩
  obtain ⟨C0, r0, _⟩ := rd_ok s3 o3 hj
  obtain ⟨a', vs, B4, k1, k2, k3, k4, k5⟩ := mut_l s3 e4
  have : a' = a := by
    rw [f1] at k1
    exact (V.ref.inj (Option.some.inj (Option.some.inj k1))).symm
  subst this
  have r3 : Rep K H3' H3 m v B2 := g3.rep r2 one2
  have ap := g3.apart (fun b hb => (r2.own b hb).2) one2 one3
  obtain ⟨B5, q1, q2⟩ := repL_set (n := n) k3 r3
  refine ⟨a', vs, j, n, rfl, rep_int r0, k2, by rw [repL_len k3]; exact hn, ?_⟩
  obtain ⟨A6, s6, fr6, l6, _⟩ := k5 B2 (ms.set n m) (vs.set n v) B5 (fun b => by have := ap b; omega) q2 q1
  refine k σ H3' _ A6 s6 ?_ .refl
  have g12 := g1.trans g2 (E := fun b => A2 b + B2 b) (fun b hb => by show 0 < A1 b + B1 b; omega) fun b hb => by
    have hb : 0 < A2 b + B2 b := hb
    have := a2 b
    have := b2 b
    exact .inl (by show 0 < A1 b + B1 b; omega)
  have g123 := g12.trans g3 (E := fun b => A3 b + B2 b) (fun b hb => by show 0 < A2 b + B2 b; omega) fun b hb => by
    have hb : 0 < A3 b + B2 b := hb
    show 0 < A2 b + B2 b ∨ 0 < A3 b + B3 b
    omega
  exact g123.trans fr6 (fun b hb => hb) fun b hb => .inr hb

/-! ### dicts -/
def putM {κ : Type} [DecidableEq κ] (ks : List κ) (ms : List M) (k : κ) (m : M) : List κ × List M :=
  match ks, ms with
  | k' :: ks, m' :: ms => if k' = k then (k' :: ks, m :: ms) else (k' :: (putM ks ms k m).1, m' :: (putM ks ms k m).2)
  | _, _ => ([k], [m])
theorem put_rep {κ : Type} [DecidableEq κ] : ∀ {ks : List κ} {ms : List M} {vs : List V} {B C : Fp} (k : κ) {m : M} {v : V}, RepL K H0 H ms vs B → Rep K H0 H m v C → ks.length = ms.length → ks.Nodup →
    ∃ vs' B', RepL K H0 H (putM ks ms k m).2 vs' B' ∧ (∀ b, B' b ≤ B b + C b) ∧ (putM ks ms k m).1.zip vs' = putK (ks.zip vs) k v ∧ (putM ks ms k m).1.length = (putM ks ms k m).2.length ∧ (putM ks ms k m).1.Nodup ∧ ∀ j, j ∈ (putM ks ms k m).1 → j = k ∨ j ∈ ks
  | [], [], vs, B, C, k, m, v, h, r, hl, nd => by
    obtain ⟨rfl, h⟩ := h
    exact ⟨[v], C, repL_one r, fun b => by omega, rfl, rfl, by simp [putM], fun j hj => .inl (by simpa [putM] using hj)⟩
  | [], _ :: _, vs, B, C, k, m, v, h, r, hl, nd => by rw [List.length_cons] at hl; exact absurd hl (by simp)
  | _ :: _, [], vs, B, C, k, m, v, h, r, hl, nd => by rw [List.length_cons] at hl; exact absurd hl (by simp)
  | k' :: ks, m' :: ms, vs, B, C, k, m, v, h, r, hl, nd => by
    obtain ⟨v', vr, A1, A2, rfl, r1, r2, ea⟩ := h
    obtain ⟨nk, nd⟩ := List.nodup_cons.mp nd
    have hl : ks.length = ms.length := by simpa using hl
    have hlv : ks.length = vr.length := by rw [hl, repL_len r2]
    unfold putM
    by_cases q : k' = k
    · rw [if_pos q]
      subst q
      refine ⟨v :: vr, fun b => C b + A2 b, ⟨v, vr, C, A2, rfl, r, r2, fun _ => rfl⟩, fun b => by show C b + A2 b ≤ _; rw [ea b]; omega, ?_, by simpa using hl, List.nodup_cons.mpr ⟨nk, nd⟩, fun j hj => .inr hj⟩
      unfold putK
      rw [if_pos (by simp)]
      show (k', v) :: ks.zip vr = (if k' = k' then (k', v) else (k', v')) :: (ks.zip vr).map _
      rw [if_pos rfl]
      congr 1
      refine (List.map_id _).symm.trans (List.map_congr_left fun p hp => ?_)
      have : p.1 ≠ k' := fun e => nk (e ▸ (List.of_mem_zip (a := p.1) (b := p.2) hp).1)
      rw [if_neg this]
      rfl
    · rw [if_neg q]
      obtain ⟨vs', B', g1, g2, g3, g4, g5, g6⟩ := put_rep k r2 r hl nd
      refine ⟨v' :: vs', fun b => A1 b + B' b, ⟨v', vs', A1, B', rfl, r1, g1, fun _ => rfl⟩, fun b => by have := g2 b; show A1 b + B' b ≤ _; rw [ea b]; omega, ?_, by simpa using g4, List.nodup_cons.mpr ⟨fun z => (g6 _ z).elim q nk, g5⟩, fun j hj => ?_⟩
      · show (k', v') :: (putM ks ms k m).1.zip vs' = _
        rw [g3]
        unfold putK
        show _ = if ((k', v') :: ks.zip vr).any _ = true then _ else _
        rw [List.any_cons, show decide (k' = k) = false from decide_eq_false q, Bool.false_or]
        split
        · show _ = (if k' = k then (k', v) else (k', v')) :: _
          rw [if_neg q]
          rfl
        · rfl
      · rcases List.mem_cons.mp hj with z | z
        · exact .inr (z ▸ List.mem_cons_self)
        · exact (g6 j z).imp id (List.mem_cons_of_mem _)
/-- one's own dict in a slot, changed in place (int and text keys) -/
theorem mut_dk {i : Nat} {ks : List Key} {ms : List M} (s : Stt K H0 H σ env A) (e : env[i]? = some (some (.dk ks ms))) :
    ∃ a vs B, σ[i]? = some (some (.ref a)) ∧ H a = some (.dK (ks.zip vs)) ∧ RepL K H0 H ms vs B ∧ (ks.length = ms.length ∧ ks.Nodup) ∧
      ∀ (C : Fp) ks' ms' vs' B', (∀ b, A b + C b ≤ 1) → (∀ b, B' b ≤ B b + C b) → RepL K H0 H ms' vs' B' → (ks'.length = ms'.length ∧ ks'.Nodup) →
        ∃ A', Stt K H0 (upd H a (.dK (ks'.zip vs'))) σ (env.set i (some (.dk ks' ms'))) A' ∧ Fr H0 H (fun b => A b + C b) H0 (upd H a (.dK (ks'.zip vs'))) A' := by
  obtain ⟨t, A1, A2, f1, f2, f3, f4, f5⟩ := s.rep.zoom e
  obtain ⟨v, rfl, a, vs, B, rfl, h1, h2, hl, h3, h4⟩ := f2
  refine ⟨a, vs, B, f1, h2, h3, hl, fun C ks' ms' vs' B' one lB r hl' => ?_⟩
  have na : ∀ b, 0 < B' b ∨ 0 < A2 b → b ≠ a := fun b hb q => by
    have := one b
    have := f3 b
    have := h4 b
    have := lB b
    rw [if_pos q] at *
    omega
  have ex : Ex H0 (upd H a (.dK (ks'.zip vs'))) := fun b o hb => by
    by_cases q : b = a
    · rw [q, h1] at hb; cases hb
    · rw [upd_ne q]; exact s.ex b o hb
  have r' : RepL K H0 (upd H a (.dK (ks'.zip vs'))) ms' vs' B' := r.mono (Ex.refl _) fun b hb => ⟨(r.own b hb).1, upd_ne (na b (.inl hb))⟩
  have z := f5 (some (.dk ks' ms')) (some (.ref a)) (fun b => (if b = a then 1 else 0) + B' b) H0 (upd H a (.dK (ks'.zip vs'))) (Ex.refl _) (fun b hb => ⟨(f4 b hb).1, upd_ne (na b (.inr hb))⟩) ⟨.ref a, rfl, a, vs', B', rfl, h1, upd_same, hl', r', fun _ => rfl⟩
  rw [st_set_self f1] at z
  refine ⟨_, ⟨z, fun b => ?_, ex⟩, ⟨Ex.refl _, fun b hb ha => upd_ne fun q => ?_, fun b hb => ?_, fun b hb => .inl ?_, fun b hb => .inl hb⟩⟩
  · have := one b; have := f3 b; have := h4 b; have := lB b
    show (if b = a then 1 else 0) + B' b + A2 b ≤ 1
    omega
  · have ha : A b + C b = 0 := ha
    have := f3 b
    have := h4 b
    rw [if_pos q] at this
    omega
  · by_cases q : b = a
    · rw [q, upd_same]; exact nofun
    · rw [upd_ne q]; exact hb
  · have hb : 0 < (if b = a then 1 else 0) + B' b + A2 b := hb
    have := f3 b; have := h4 b; have := lB b
    show 0 < A b + C b
    omega
/-- .. (keys that are tuples) -/
theorem mut_dt {i : Nat} {ks : List (List Key)} {ms : List M} (s : Stt K H0 H σ env A) (e : env[i]? = some (some (.dt ks ms))) :
    ∃ a vs B, σ[i]? = some (some (.ref a)) ∧ H a = some (.dT (ks.zip vs)) ∧ RepL K H0 H ms vs B ∧ (ks.length = ms.length ∧ ks.Nodup) ∧
      ∀ (C : Fp) ks' ms' vs' B', (∀ b, A b + C b ≤ 1) → (∀ b, B' b ≤ B b + C b) → RepL K H0 H ms' vs' B' → (ks'.length = ms'.length ∧ ks'.Nodup) →
        ∃ A', Stt K H0 (upd H a (.dT (ks'.zip vs'))) σ (env.set i (some (.dt ks' ms'))) A' ∧ Fr H0 H (fun b => A b + C b) H0 (upd H a (.dT (ks'.zip vs'))) A' := by
  obtain ⟨t, A1, A2, f1, f2, f3, f4, f5⟩ := s.rep.zoom e
  obtain ⟨v, rfl, a, vs, B, rfl, h1, h2, hl, h3, h4⟩ := f2
  refine ⟨a, vs, B, f1, h2, h3, hl, fun C ks' ms' vs' B' one lB r hl' => ?_⟩
  have na : ∀ b, 0 < B' b ∨ 0 < A2 b → b ≠ a := fun b hb q => by
    have := one b
    have := f3 b
    have := h4 b
    have := lB b
    rw [if_pos q] at *
    omega
  have ex : Ex H0 (upd H a (.dT (ks'.zip vs'))) := fun b o hb => by
    by_cases q : b = a
    · rw [q, h1] at hb; cases hb
    · rw [upd_ne q]; exact s.ex b o hb
  have r' : RepL K H0 (upd H a (.dT (ks'.zip vs'))) ms' vs' B' := r.mono (Ex.refl _) fun b hb => ⟨(r.own b hb).1, upd_ne (na b (.inl hb))⟩
  have z := f5 (some (.dt ks' ms')) (some (.ref a)) (fun b => (if b = a then 1 else 0) + B' b) H0 (upd H a (.dT (ks'.zip vs'))) (Ex.refl _) (fun b hb => ⟨(f4 b hb).1, upd_ne (na b (.inr hb))⟩) ⟨.ref a, rfl, a, vs', B', rfl, h1, upd_same, hl', r', fun _ => rfl⟩
  rw [st_set_self f1] at z
  refine ⟨_, ⟨z, fun b => ?_, ex⟩, ⟨Ex.refl _, fun b hb ha => upd_ne fun q => ?_, fun b hb => ?_, fun b hb => .inl ?_, fun b hb => .inl hb⟩⟩
  · have := one b; have := f3 b; have := h4 b; have := lB b
    show (if b = a then 1 else 0) + B' b + A2 b ≤ 1
    omega
  · have ha : A b + C b = 0 := ha
    have := f3 b
    have := h4 b
    rw [if_pos q] at this
    omega
  · by_cases q : b = a
    · rw [q, upd_same]; exact nofun
    · rw [upd_ne q]; exact hb
  · have hb : 0 < (if b = a then 1 else 0) + B' b + A2 b := hb
    have := f3 b; have := h4 b; have := lB b
    show 0 < A b + C b
    omega
/-- d[k] = e of a dict -/
def sPutD (i : Nat) (ui ue : U) : S := fun env => (ue env).bind fun q => (take q.2 q.1).bind fun r => match r.2[i]? with
  | some (some (.dk _ _)) => (ui r.2).bind fun z => match rd z.2 z.1, z.2[i]? with
    | some (.p d), some (some (.dk ks ms)) => if ks.length < sizeLine then (keyD d).map fun k => .nx (z.2.set i (some (.dk (putM ks ms k r.1).1 (putM ks ms k r.1).2))) else none
    | _, _ => none
  | some (some (.dt _ _)) => (ui r.2).bind fun z => match rd z.2 z.1, z.2[i]? with
    | some (.p d), some (some (.dt ks ms)) => if ks.length < sizeLine then (keysD d).map fun k => .nx (z.2.set i (some (.dt (putM ks ms k r.1).1 (putM ks ms k r.1).2))) else none
    | _, _ => none
  | _ => none
theorem zip_len {κ : Type} {ks : List κ} {ms : List M} {vs : List V} (h : ks.length = ms.length) (r : RepL K H0 H ms vs B) : (ks.zip vs).length = ks.length := by
  rw [List.length_zip, repL_len r, h, Nat.min_self]
theorem putD_okS {i : Nat} {ui ue : U} : ∀ D σ H, sOf K np (sPutD i ui ue) D σ H → sDPut (tVar i) (tOf K ui) (tOf K ue) D σ H := fun D σ H h => by
  obtain ⟨env, A, H0, o, s, e, k⟩ := h
  obtain ⟨⟨x, e1⟩, h1, e⟩ := Option.bind_eq_some_iff.mp e
  obtain ⟨⟨m, e2⟩, h2, e⟩ := Option.bind_eq_some_iff.mp e
  refine tOf.go s h1 fun v H1' H1 A1 B1 s1 o1 one1 g1 => ?_
  obtain ⟨H2', A2, B2, s2, r2, a2, b2, g2⟩ := take_fr s1 o1 one1 h2
  have one2 : ∀ b, A2 b + B2 b ≤ 1 := fun b => by have := one1 b; have := a2 b; have := b2 b; omega
  have g12 := g1.trans g2 (E := fun b => A2 b + B2 b) (fun b hb => by show 0 < A1 b + B1 b; omega) fun b hb => by
    have hb : 0 < A2 b + B2 b := hb
    have := a2 b
    have := b2 b
    exact .inl (by show 0 < A1 b + B1 b; omega)
  split at e
  · rename_i ks0 ms0 e0
    obtain ⟨⟨y, e3⟩, h3, e⟩ := Option.bind_eq_some_iff.mp e
    split at e
    case h_2 => cases e
    rename_i d ks ms hj e4
    split at e
    case isFalse => cases e
    rename_i hz
    obtain ⟨kk, hk, e⟩ := Option.map_eq_some_iff.mp e
    cases e
    obtain ⟨a, vs0, B0, f1, f2, f3, _⟩ := mut_dk s2 e0
    refine ⟨.ref a, f1, tOf.go s2 h3 fun w H3' H3 A3 B3 s3 o3 one3 g3 => ?_⟩
    obtain ⟨C0, r0, _⟩ := rd_ok s3 o3 hj
    obtain ⟨a', vs, B4, k1, k2, k3, k4, k5⟩ := mut_dk s3 e4
    have : a' = a := by
      rw [f1] at k1
      exact (V.ref.inj (Option.some.inj (Option.some.inj k1))).symm
    subst this
    have r3 : Rep K H3' H3 m v B2 := g3.rep r2 one2
    have ap := g3.apart (fun b hb => (r2.own b hb).2) one2 one3
    obtain ⟨vs', B5, q1, q2, q3, q4, q5, _⟩ := put_rep kk k3 r3 k4.1 k4.2
    refine ⟨a', _, rfl, by rw [key_dq r0.1 hk]; exact DPut.k k2 (by rw [zip_len k4.1 k3]; exact hz), ?_⟩
    rw [← q3]
    obtain ⟨A6, s6, fr6⟩ := k5 B2 (putM ks ms kk m).1 (putM ks ms kk m).2 vs' B5 (fun b => by have := ap b; omega) q2 q1 ⟨q4, q5⟩
    refine k σ H3' _ A6 s6 ?_ .refl
    have g123 := g12.trans g3 (E := fun b => A3 b + B2 b) (fun b hb => by show 0 < A2 b + B2 b; omega) fun b hb => by
      have hb : 0 < A3 b + B2 b := hb
      show 0 < A2 b + B2 b ∨ 0 < A3 b + B3 b
      omega
    exact g123.trans fr6 (fun b hb => hb) fun b hb => .inr hb
  · rename_i ks0 ms0 e0
    obtain ⟨⟨y, e3⟩, h3, e⟩ := Option.bind_eq_some_iff.mp e
    split at e
    case h_2 => cases e
    rename_i d ks ms hj e4
    split at e
    case isFalse => cases e
    rename_i hz
    obtain ⟨kk, hk, e⟩ := Option.map_eq_some_iff.mp e
    cases e
    obtain ⟨a, vs0, B0, f1, f2, f3, _⟩ := mut_dt s2 e0
    refine ⟨.ref a, f1, tOf.go s2 h3 fun w H3' H3 A3 B3 s3 o3 one3 g3 => ?_⟩
    obtain ⟨C0, r0, _⟩ := rd_ok s3 o3 hj
    obtain ⟨a', vs, B4, k1, k2, k3, k4, k5⟩ := mut_dt s3 e4
    have : a' = a := by
      rw [f1] at k1
      exact (V.ref.inj (Option.some.inj (Option.some.inj k1))).symm
    subst this
    have r3 : Rep K H3' H3 m v B2 := g3.rep r2 one2
    have ap := g3.apart (fun b hb => (r2.own b hb).2) one2 one3
    obtain ⟨vs', B5, q1, q2, q3, q4, q5, _⟩ := put_rep kk k3 r3 k4.1 k4.2
    obtain ⟨bk, rfl, hbk⟩ := keys_dq (dp_mono s3.ex r0.1) hk
    refine ⟨a', _, rfl, DPut.t k2 hbk (by rw [zip_len k4.1 k3]; exact hz), ?_⟩
    rw [← q3]
    obtain ⟨A6, s6, fr6⟩ := k5 B2 (putM ks ms kk m).1 (putM ks ms kk m).2 vs' B5 (fun b => by have := ap b; omega) q2 q1 ⟨q4, q5⟩
    refine k σ H3' _ A6 s6 ?_ .refl
    have g123 := g12.trans g3 (E := fun b => A3 b + B2 b) (fun b hb => by show 0 < A2 b + B2 b; omega) fun b hb => by
      have hb : 0 < A3 b + B2 b := hb
      show 0 < A2 b + B2 b ∨ 0 < A3 b + B3 b
      omega
    exact g123.trans fr6 (fun b hb => hb) fun b hb => .inr hb
  · cases e
/-- {} -/
def uDk : U := fun env => some (.tmp (.dk [] []), env)
def uDt : U := fun env => some (.tmp (.dt [] []), env)
theorem dk_okG : ∀ σ H Q, tOf K uDk σ H Q → tDNewK σ H Q := fun σ H Q h p hp => by
  obtain ⟨env, A, H0, op, env', s, e, k⟩ := h
  cases e
  have g : Fr H0 H A H0 (upd H p (.dK [])) (fun b => A b + if b = p then 1 else 0) := fr_own s.ex hp
  have s' := stt_fr s (fr_own (o := .dK []) (A := fun _ => 0) s.ex hp) (fun _ _ => rfl) (ex_upd s.ex hp)
  refine k (.ref p) H0 _ A (fun b => if b = p then 1 else 0) s' ⟨p, [], fun _ => 0, rfl, s.ex.none hp, upd_same, ⟨rfl, List.nodup_nil⟩, ⟨rfl, fun _ => rfl⟩, fun b => rfl⟩ (fun b => ?_) g
  have := s.one b
  by_cases q : b = p
  · rw [if_pos q]
    by_cases z : 0 < A b
    · exact absurd (q ▸ hp) (s.rep.own b z).2
    · omega
  · rw [if_neg q]; omega
theorem dt_okG : ∀ σ H Q, tOf K uDt σ H Q → tDNewT σ H Q := fun σ H Q h p hp => by
  obtain ⟨env, A, H0, op, env', s, e, k⟩ := h
  cases e
  have g : Fr H0 H A H0 (upd H p (.dT [])) (fun b => A b + if b = p then 1 else 0) := fr_own s.ex hp
  have s' := stt_fr s (fr_own (o := .dT []) (A := fun _ => 0) s.ex hp) (fun _ _ => rfl) (ex_upd s.ex hp)
  refine k (.ref p) H0 _ A (fun b => if b = p then 1 else 0) s' ⟨p, [], fun _ => 0, rfl, s.ex.none hp, upd_same, ⟨rfl, List.nodup_nil⟩, ⟨rfl, fun _ => rfl⟩, fun b => rfl⟩ (fun b => ?_) g
  have := s.one b
  by_cases q : b = p
  · rw [if_pos q]
    by_cases z : 0 < A b
    · exact absurd (q ▸ hp) (s.rep.own b z).2
    · omega
  · rw [if_neg q]; omega
/-- a, b = x, y -/
def sPar (i j : Nat) (ua : UA) : S := fun env => (ua env).bind fun q => (takeL q.2 q.1).bind fun r => match r.1 with
  | [m, n] => if decide (i < r.2.length) && decide (j < r.2.length) then some (.nx ((r.2.set i (some m)).set j (some n))) else none
  | _ => none
theorem par_okS {i j : Nat} {ua : UA} (hi : np ≤ i) (hj : np ≤ j) : ∀ D σ H, sOf K np (sPar i j ua) D σ H → tPar i j (aOf K ua) D σ H := fun D σ H h => by
  obtain ⟨env, A, H0, o, s, e, k⟩ := h
  obtain ⟨⟨ops, e1⟩, h1, e⟩ := Option.bind_eq_some_iff.mp e
  obtain ⟨⟨ms, e2⟩, h2, e⟩ := Option.bind_eq_some_iff.mp e
  split at e
  case h_2 => cases e
  rename_i m n hmn
  have hmn : ms = [m, n] := hmn
  subst hmn
  split at e
  case isFalse => cases e
  rename_i hz
  rw [Bool.and_eq_true, decide_eq_true_eq, decide_eq_true_eq] at hz
  cases e
  refine ⟨env, A, H0, ops, e1, s, h1, fun vs H1' H1 A1 B1 s1 o1 one1 g1 => ?_⟩
  obtain ⟨H2', A2, B2, s2, r2, a2, b2, g2⟩ := takeL_fr s1 o1 one1 h2
  obtain ⟨v, vr, C1, C2, rfl, r3, r4, ea⟩ := r2
  obtain ⟨w, wr, C3, C4, rfl, r5, ⟨rfl, r6⟩, eb⟩ := r4
  have oneB : ∀ b, A2 b + C1 b + C3 b ≤ 1 := fun b => by have := one1 b; have := a2 b; have := b2 b; rw [ea b, eb b] at *; omega
  obtain ⟨A3, s3, l3⟩ := stt_set s2 r3 (fun b => by have := oneB b; omega) hz.1
  obtain ⟨A4, s4, l4⟩ := stt_set (i := j) s3 r5 (fun b => by have := oneB b; have := l3 b; omega) (by rw [List.length_set]; exact hz.2)
  refine ⟨v, w, rfl, k _ H2' H1 A4 s4 ?_ fun kk hk => ?_⟩
  · have g12 := g1.trans g2 (E := fun b => A2 b + B2 b) (fun b hb => by show 0 < A1 b + B1 b; omega) fun b hb => by
      have hb : 0 < A2 b + B2 b := hb
      have := a2 b
      have := b2 b
      exact .inl (by show 0 < A1 b + B1 b; omega)
    refine g12.weak fun b hb => ?_
    have := l3 b; have := l4 b
    show 0 < A2 b + B2 b
    rw [ea b, eb b]
    omega
  · rw [List.getElem?_set_ne (by omega), List.getElem?_set_ne (by omega)]
end
section
variable {X : Cx} {np : Nat} {e o idx : Expr} {pos apos cpos p2 : Pos} {u ui ue : U} {ua : UA}
theorem tv (i : Nat) {x : Str} {pos : Pos} (hN : X.N[i]? = some x := by rfl) (hv : Vis X.env.scope x := by first | exact Or.inl rfl | exact Or.inr (Or.inl rfl) | exact Or.inr (Or.inr rfl)) (hd : (x == ("__debug__" : Str)) = false := by decide)
    (hcd : (x == ("__classdict__" : Str)) = false := by decide) : PE X (.Name x pos) (tVar i) := pe_var hN hv hd hcd
theorem g_app {i : Nat} (ho : PE X o (tVar i)) (he : PE X e (tOf X.K u)) (hbase : attributeBase o "append" X.env (eval o X.env) = eval o X.env := by rfl)
    (hfew : ((backTo cpos (starEach [e] X.env)).all (fun x => !x.1) && (backToKw cpos (keywordEach [] X.env)).all (fun x => x.1.isSome) && decide ([e].length + ([] : List Keyword).length + (if ([] : List Keyword).isEmpty then 0 else 1) < 30)) = true := by rfl)
    (hline : (apos.endLine == cpos.line) = true := by rfl) (hs : starEach [e] X.env = (false, eval e X.env) :: starEach [] X.env := by rfl) : PE X (.Call (.Attribute o "append" apos) [e] [] cpos) (tOf X.K (uApp i u)) :=
  pe_imp (pe_bm PySem.F.plainAttrs_list PySem.F.slot_list_append PySem.F.type_list_append mt_append ho (pa_cons he pa_nil hs) hbase hfew hline hs (by rfl)) app_okG
theorem g_pop {i : Nat} (ho : PE X o (tVar i)) (hbase : attributeBase o "pop" X.env (eval o X.env) = eval o X.env := by rfl) (hline : (apos.endLine == cpos.line) = true := by rfl) : PE X (.Call (.Attribute o "pop" apos) [] [] cpos) (tOf X.K (uPop i)) :=
  pe_imp (pe_bm0 PySem.F.plainAttrs_list PySem.F.slot_list_pop PySem.F.type_list_pop mt_pop ho hbase hline) pop_okG
theorem g_popAt {i : Nat} (ho : PE X o (tVar i)) (he : PE X e (tOf X.K u)) (hbase : attributeBase o "pop" X.env (eval o X.env) = eval o X.env := by rfl)
    (hfew : ((backTo cpos (starEach [e] X.env)).all (fun x => !x.1) && (backToKw cpos (keywordEach [] X.env)).all (fun x => x.1.isSome) && decide ([e].length + ([] : List Keyword).length + (if ([] : List Keyword).isEmpty then 0 else 1) < 30)) = true := by rfl)
    (hline : (apos.endLine == cpos.line) = true := by rfl) (hs : starEach [e] X.env = (false, eval e X.env) :: starEach [] X.env := by rfl) : PE X (.Call (.Attribute o "pop" apos) [e] [] cpos) (tOf X.K (uPopAt i u)) :=
  pe_imp (pe_bm PySem.F.plainAttrs_list PySem.F.slot_list_pop PySem.F.type_list_pop mt_popAt ho (pa_cons he pa_nil hs) hbase hfew hline hs (by rfl)) popAt_okG
def sSet (i : Nat) (ui ue : U) : S := fun env => (sSetL i ui ue env).or (sPutD i ui ue env)
theorem ps_or {st : Stmt} {t t' : TS} (h : PS X st t) (h' : PS X st t') : PS X st (fun D σ H => t D σ H ∨ t' D σ H) := ⟨fun pins s σ H D I q => by
  rcases q with q | q
  · exact h.run pins s σ H D I q
  · exact h'.run pins s σ H D I q⟩
theorem gs_setI {i : Nat} (hu : X.A.units + 1 < cLine) (ho : PE X o (tVar i)) (hi : PE X idx (tOf X.K ui)) (he : PE X e (tOf X.K ue)) (hs : swapsWith e (some (.Subscript o idx p2)) pos.line X.env = pure false := by rfl)
    (ha : ∀ v, assign (.Subscript o idx p2) X.env v = (do
      let ov ← holding [v] (eval o X.env)
      let iv ← holding [v, ov] (eval idx X.env)
      standAt p2
      holding [v, ov, iv] (setItem ov iv v)
      release [v, ov, iv] []) := by intro _; rfl) (hs1 : swapsWithSole [.Subscript o idx p2] e pos.line X.env = pure false := by rfl) (hw : swappedStores [.Subscript o idx p2] e X.env = pure none := by rfl)
    (h1 : (assignEach [.Subscript o idx p2] X.env).map (·.2) = [assign (.Subscript o idx p2) X.env] := by rfl) : PS X (.Assign [.Subscript o idx p2] e pos) (sOf X.K np (sSet i ui ue)) :=
  ps_imp (ps_or (ps_asg he (pg_sub ho hi set_list ha) hs1 hw h1) (ps_dput hu ho hi he hs)) fun D σ H h => by
    obtain ⟨env, A, H0, out, s, q, k⟩ := h
    have q : (sSetL i ui ue env).or (sPutD i ui ue env) = some out := q
    cases z : sSetL i ui ue env with
    | some o1 =>
      rw [z] at q
      cases q
      exact .inl (setL_okS (np := np) D σ H ⟨env, A, H0, _, s, z, k⟩)
    | none =>
      rw [z] at q
      exact .inr (putD_okS (np := np) D σ H ⟨env, A, H0, _, s, q, k⟩)
theorem g_dk : PE X (.Dict [] [] pos) (tOf X.K uDk) := pe_imp pe_dnewK dk_okG
theorem g_dt : PE X (.Dict [] [] pos) (tOf X.K uDt) := pe_imp pe_dnewT dt_okG
theorem gs_par {i j : Nat} {x y : Str} {a b : Expr} {px py pt : Pos} {kt k2 : Nat} {pt2 : Pos} (hc : X.calm = true) (hN : X.N.Nodup) (ha : PA X [a, b] (aOf X.K ua)) (hi : X.N[i]? = some x := by rfl) (hj : X.N[j]? = some y := by rfl) (hij : i ≠ j := by decide)
    (hx : X.env.scope.names.lookup x = some .local := by rfl) (hy : X.env.scope.names.lookup y = some .local := by rfl) (hpi : np ≤ i := by decide) (hpj : np ≤ j := by decide)
    (hw : swappedStores [.Tuple [.Name x px, .Name y py] kt pt] (.Tuple [a, b] k2 pt2) X.env = pure (some [x, y]) := by rfl)
    (hs : swapsWithSole [.Tuple [.Name x px, .Name y py] kt pt] (.Tuple [a, b] k2 pt2) pos.line X.env = pure false := by rfl) :
    PS X (.Assign [.Tuple [.Name x px, .Name y py] kt pt] (.Tuple [a, b] k2 pt2) pos) (sOf X.K np (sPar i j ua)) := ps_imp (ps_par hc hN hi hj hij hx hy ha hw hs) (par_okS hpi hpj)
end
end G

/-! G11: defs, their calls, the law's end. No repr is under way (guards). -/
namespace G
open PySem PySem.Spec PyProof.Rows L2

/-- a def's meaning: what it hands back, and what its arguments are behind it -/
abbrev Fn := List M → Option (M × List (Option M))
def shareM : M → Option M
  | .p d => some (.p d)
  | _ => none
def padE (n : Nat) (ms : List M) : Env := ms.map some ++ List.replicate (n - ms.length) none
def outsOf (np : Nat) (ms : List M) (e : Env) : List (Option M) := e.take np ++ (ms.drop np).map shareM
/-- n slots, k parameters, np of them kept -/
def fnOf (n k np : Nat) (s : S) : Fn := fun ms => if ms.length = k then match stE (padE n ms) s with
    | some (.nx e) => some (.p .none, outsOf np ms e)
    | some (.rt m e) => some (m, outsOf np ms e)
    | _ => none
  else none
theorem fnOf_len {n k np : Nat} {s : S} {ms : List M} {r : M × List (Option M)} (h : fnOf n k np s ms = some r) : ms.length = k := by
  unfold fnOf at h
  split at h
  · assumption
  · cases h
def spG (K : PySem.W.Frag) (n : Nat) (F : Fn) : Sp := fun vs H Q _ => vs.length = n ∧ ∃ ms H0 A r outs, RepL K H0 H ms vs A ∧ (∀ b, A b ≤ 1) ∧ Ex H0 H ∧ F ms = some (r, outs) ∧
  ∀ v H0' H' A' B, RepE K H0' H' outs (vs.map some) A' → Rep K H0' H' r v B → (∀ b, A' b + B b ≤ 1) → Ex H0' H' → Fr H0 H A H0' H' (fun b => A' b + B b) → Q v H'
structure FnG (P : Program) (w : World) (K : PySem.W.Frag) (mg : Str → Option Value) (base : Heap) (k : Nat) (f : Addr) (fd : FuncData) (ps : List Str) (sp : Sp) : Prop where
  len : ∀ vs H Q E, sp vs H Q E → vs.length = ps.length
  run : ∀ (A : Around) (outer : List PySem.Env) (s : Shared) (H : Hp) (args : Args) (us : List Value) (vs : List V) (Q : VK) (E : XK), A.guards = some [] → Room k A → Env0 P w K mg base A outer s H → BindsTo s fd args (ps.zip us) → Vals vs us → sp vs H Q E →
    codeAny (model P w) A (.call (.ref f) args) (CR CX0 outer P w H s Q E) s
section
variable {P : Program} {w : World} {K : PySem.W.Frag} {mg : Str → Option Value} {base : Heap} {H0 H H0' H' : Hp} {σ : L2.St} {env env' : Env} {A A' B C : Fp}
theorem FnG.mono {j k : Nat} {f : Addr} {fd : FuncData} {ps : List Str} {sp : Sp} (F : FnG P w K mg base j f fd ps sp) (h : j ≤ k) : FnG P w K mg base k f fd ps sp :=
  ⟨F.len, fun A outer s H args us vs Q E hg hr => F.run A outer s H args us vs Q E hg (hr.mono h)⟩
theorem repE_of : ∀ {ms : List M} {vs : List V} {A : Fp}, RepL K H0 H ms vs A → RepE K H0 H (ms.map some) (vs.map some) A
  | [], vs, A, h => by obtain ⟨rfl, h⟩ := h; exact ⟨rfl, h⟩
  | m :: ms, vs, A, h => by
    obtain ⟨v, vr, A1, A2, rfl, r1, r2, ea⟩ := h
    exact ⟨some v, vr.map some, A1, A2, rfl, ⟨v, rfl, r1⟩, repE_of r2, ea⟩
theorem repE_nones : ∀ n : Nat, RepE K H0 H (List.replicate n none) (List.replicate n none) fun _ => 0
  | 0 => ⟨rfl, fun _ => rfl⟩
  | n + 1 => ⟨none, List.replicate n none, fun _ => 0, fun _ => 0, rfl, fun _ => rfl, repE_nones n, fun _ => rfl⟩
theorem repE_app : ∀ {e1 e2 : Env} {s1 s2 : L2.St} {A B : Fp}, RepE K H0 H e1 s1 A → RepE K H0 H e2 s2 B → RepE K H0 H (e1 ++ e2) (s1 ++ s2) fun b => A b + B b
  | [], e2, s1, s2, A, B, h, h2 => by
    obtain ⟨rfl, h⟩ := h
    have : (fun b => A b + B b) = B := funext fun b => by rw [h b]; omega
    rw [this]
    exact h2
  | o :: e1, e2, s1, s2, A, B, h, h2 => by
    obtain ⟨s, σr, A1, A2, rfl, r1, r2, ea⟩ := h
    exact ⟨s, σr ++ s2, A1, fun b => A2 b + B b, rfl, r1, repE_app r2 h2, fun b => by show A b + B b = A1 b + (A2 b + B b); rw [ea b]; omega⟩
theorem repE_take : ∀ {e : Env} {s : L2.St} {A : Fp} (n : Nat), RepE K H0 H e s A → ∃ A', RepE K H0 H (e.take n) (s.take n) A' ∧ ∀ b, A' b ≤ A b
  | e, s, A, 0, h => ⟨fun _ => 0, ⟨by simp, fun _ => rfl⟩, fun _ => Nat.zero_le _⟩
  | [], s, A, n + 1, h => by
    obtain ⟨rfl, h⟩ := h
    exact ⟨A, ⟨rfl, h⟩, fun _ => Nat.le_refl _⟩
  | o :: e, s, A, n + 1, h => by
    obtain ⟨s1, σr, A1, A2, rfl, r1, r2, ea⟩ := h
    obtain ⟨A', h', l⟩ := repE_take n r2
    exact ⟨fun b => A1 b + A' b, ⟨s1, σr.take n, A1, A', rfl, r1, h', fun _ => rfl⟩, fun b => by have := l b; show A1 b + A' b ≤ _; rw [ea b]; omega⟩
theorem rep_shared (e0 : Ex H0 H0') : ∀ {ms : List M} {vs : List V} {A : Fp}, RepL K H0 H ms vs A → RepE K H0' H' (ms.map shareM) (vs.map some) fun _ => 0
  | [], vs, A, h => by obtain ⟨rfl, h⟩ := h; exact ⟨rfl, fun _ => rfl⟩
  | m :: ms, vs, A, h => by
    obtain ⟨v, vr, A1, A2, rfl, r1, r2, ea⟩ := h
    refine ⟨some v, vr.map some, fun _ => 0, fun _ => 0, rfl, ?_, rep_shared e0 r2, fun _ => rfl⟩
    cases m with
    | p d => exact ⟨v, rfl, dp_mono e0 r1.1, fun _ => rfl⟩
    | _ => exact fun _ => rfl
theorem repL_drop : ∀ {ms : List M} {vs : List V} {A : Fp} (n : Nat), RepL K H0 H ms vs A → ∃ A', RepL K H0 H (ms.drop n) (vs.drop n) A'
  | ms, vs, A, 0, h => ⟨A, h⟩
  | [], vs, A, n + 1, h => by obtain ⟨rfl, h⟩ := h; exact ⟨A, rfl, h⟩
  | m :: ms, vs, A, n + 1, h => by
    obtain ⟨v, vr, A1, A2, rfl, r1, r2, ea⟩ := h
    exact repL_drop n r2
theorem stt_start {n : Nat} {ms : List M} {vs : List V} {N : List Str} (r : RepL K H0 H ms vs A) (one : ∀ b, A b ≤ 1) (ex : Ex H0 H) (hn : N.length = n) : Stt K H0 H (L2.start N vs) (padE n ms) A := by
  refine ⟨?_, one, ex⟩
  unfold L2.start padE
  have h := repE_app (repE_of r) (repE_nones (K := K) (H0 := H0) (H := H) (n - ms.length))
  rw [repL_len r, hn]
  exact h
theorem outs_ok {np : Nat} {ms : List M} {vs : List V} {N : List Str} {e : Env} {σ' : L2.St} (r : RepL K H0 H ms vs A) (e0 : Ex H0 H0') (s : Stt K H0' H' σ' e A') (pin : Pin np (L2.start N vs) σ') (hnp : np ≤ vs.length) :
    ∃ B, RepE K H0' H' (outsOf np ms e) (vs.map some) B ∧ ∀ b, B b ≤ A' b := by
  obtain ⟨B, h1, l⟩ := repE_take np s.rep
  obtain ⟨A2, h2⟩ := repL_drop np r
  have h3 := repE_app h1 (rep_shared (H' := H') e0 h2)
  have hst : ∀ k, k < np → (L2.start N vs)[k]? = (vs.map some)[k]? := fun k hk => by
    unfold L2.start
    rw [List.getElem?_append_left (by rw [List.length_map]; omega)]
  have e1 : σ'.take np = (vs.map some).take np := by
    apply List.ext_getElem?
    intro k
    by_cases hk : k < np
    · rw [List.getElem?_take_of_lt hk, List.getElem?_take_of_lt hk, pin k hk, hst k hk]
    · rw [List.getElem?_eq_none (by rw [List.length_take]; omega), List.getElem?_eq_none (by rw [List.length_take]; omega)]
  have hd : (vs.drop np).map some = (vs.map some).drop np := List.map_drop
  rw [e1, hd, List.take_append_drop] at h3
  exact ⟨_, h3, fun b => by have := l b; show B b + 0 ≤ _; omega⟩
/-- THE RULE for a def: its body's meaning -/
theorem okG {x qual : Str} {st : Stmt} {f : Addr} {fd : FuncData} {N ps : List Str} {k n m np : Nat} {sem : S} (F : Fun K x qual st f fd) (Sc : FnScope N ps (defScope st)) (hn : N.length = n) (hm : ps.length = m) (hnp : np ≤ m)
    (hbody : ∀ (cdv : Value) (A : Around) (outer : List PySem.Env) (s : Shared) (H : Hp) (E : XK), A.guards = some [] → Room k (A.deeper (envOfC qual (defScope st) s.heap.objs.size f cdv)) →
      PSs (cxOf CX0 P w K mg base N qual (defScope st) f cdv A outer s H E).nox (defBody st) (sOf K np sem)) : FnG P w K mg base (k + 1) f fd ps (spG K m (fnOf n m np sem)) := by
  obtain ⟨oc, od, kV, doc, pm, an, cdv, ct, osl, rfl, lk, hcd⟩ := F.ex
  have len : ∀ vs H Q E, spG K m (fnOf n m np sem) vs H Q E → vs.length = ps.length := fun vs H Q E h => by rw [hm]; exact h.1
  refine ⟨len, fun A outer s H args us vs Q E hg hr e0 hb r hsp => ?_⟩
  have keep : ∀ b o, base.get? b = some o → s.heap.get? b = some o := fun b o e => (e0.bs b o e).1
  have hkind : ∀ y ∈ ps.zip us, (defScope st).names.lookup y.1 = some .local ∨ ((defScope st).names.lookup y.1 = some .cell ∧ ((cellsFrom (s.heap.objs.size + 1) (defScope st).names []).lookup y.1).isSome = true) := by
    rintro ⟨y, u⟩ hy
    exact (Sc.par y (List.of_mem_zip hy).1).imp id fun q => ⟨q, PySem.W.cellsFrom_some _ _ _ (.inl q)⟩
  refine codeAny_call_function hr.depth (e0.mod.kin.keeps keep _ _ lk) rfl Sc.co Sc.gen rfl (PySem.W.codeRec_of (e0.mod.kin.keeps keep) hcd) (hb _ _ _ _ ?_)
  refine wpAny_newFunctionEnv_cells Sc.kind hkind fun env he s1 x => ?_
  subst he
  refine ⟨(e0.mod.nolimit.keeps keep).keeps x.toInCall.keep, codeAny_func ?_⟩
  have hbd := (hbody cdv A outer s H E hg (hr.deeper _)).nox
  obtain ⟨hl, ms, H0, A0, r0, outs, hrep, one, ex, hF, hQ⟩ := hsp
  have I := inv_start (CX := CX0) (E := E) (N := N) Sc hr.hd e0 (hl.trans hm.symm) r x
  have hml : ms.length = m := fnOf_len hF
  unfold fnOf at hF
  rw [if_pos hml, stE_eq] at hF
  have st0 := stt_start (N := N) hrep one ex hn
  have hD : sOf K np sem { nx := fun _ H' => Q .non H', rt := Q } (L2.start N vs) H := by
    split at hF
    · rename_i e hsem
      cases hF
      refine ⟨padE n ms, A0, H0, .nx e, st0, hsem, fun σ' H0' H' A' s' f' p' => ?_⟩
      obtain ⟨B, hb1, hb2⟩ := outs_ok (np := np) hrep f'.e0 s' p' (by omega)
      exact hQ .non H0' H' B (fun _ => 0) hb1 ⟨.non, fun _ => rfl⟩ (fun b => Nat.le_trans (hb2 b) (s'.one b)) s'.ex (f'.weak fun b hb => Nat.lt_of_lt_of_le hb (hb2 b))
    · rename_i m9 e hsem
      cases hF
      refine ⟨padE n ms, A0, H0, .rt _ e, st0, hsem, fun v σ' H0' H' A' B' s' r' one' f' p' => ?_⟩
      obtain ⟨B, hb1, hb2⟩ := outs_ok (np := np) hrep f'.e0 s' p' (by omega)
      exact hQ v H0' H' B B' hb1 r' (fun b => by have := one' b; have := hb2 b; omega) s'.ex (f'.weak fun b hb => by have hb : 0 < B b + B' b := hb; have := hb2 b; show 0 < A' b + B' b; omega)
    · cases hF
  refine wpAny_mono (hbd.run [] s1 (L2.start N vs) H _ I hD) (fun fl s' hs => ?_) fun e s' hs => hs
  have fin : ∀ {σ' : L2.St} {H' : Hp} {v : V} {u : Value}, L2.Inv (cxOf CX0 P w K mg base N qual (defScope st) f cdv A outer s H E) [] σ' H' s' → RelV v u → Q v H' → CE outer P w H s Q u s' :=
    fun {σ' H' v u} J rv q => ⟨v, H', J.os, J.bare, J.base, J.hok, rv, q⟩
  cases fl with
  | ret u =>
    obtain ⟨v, σ', H', J, rv, q⟩ := hs
    exact fin J rv q
  | next =>
    obtain ⟨σ', H', J, q⟩ := hs
    exact fin (v := V.non) (u := Value.none) J rfl q
  | brk =>
    obtain ⟨_, _, _, q⟩ := hs
    exact q.elim
  | cont =>
    obtain ⟨_, _, _, q⟩ := hs
    exact q.elim
end

/-! ### calls -/
def passOp (env : Env) : Op → Option (M × Option Nat × Env)
  | .tmp m => some (m, none, env)
  | .slot i => match env[i]? with
    | some (some (.p d)) => some (.p d, none, env)
    | some (some m) => some (m, some i, env.set i none)
    | _ => none
def passL (env : Env) : List Op → Option (List M × List (Option Nat) × Env)
  | [] => some ([], [], env)
  | op :: ops => (passOp env op).bind fun p => (passL p.2.2 ops).bind fun q => some (p.1 :: q.1, p.2.1 :: q.2.1, q.2.2)
def backL : List (Option Nat) → List (Option M) → Env → Env
  | some i :: bs, o :: os, env => backL bs os (env.set i o)
  | none :: bs, _ :: os, env => backL bs os env
  | _, _, env => env
def uCall (F : Fn) (ua : UA) : U := fun env => (ua env).bind fun p => (passL p.2 p.1).bind fun q => (F q.1).bind fun r => stM r.1 fun m => some (.tmp m, backL q.2.1 r.2 q.2.2)
section
variable {K : PySem.W.Frag} {H0 H H0' H' : Hp} {σ : L2.St} {env env' : Env} {A A' B C : Fp}
def BackOk (σ : L2.St) : List (Option Nat) → List V → Prop
  | [], [] => True
  | b :: bs, v :: vs => (∀ i, b = some i → σ[i]? = some (some v)) ∧ BackOk σ bs vs
  | _, _ => False
theorem pass_op {op : Op} {v : V} {m : M} {bk : Option Nat} (s : Stt K H0 H σ env A) (h : OpV K H0 H σ op v B) (one : ∀ b, A b + B b ≤ 1) (e : passOp env op = some (m, bk, env')) :
    ∃ A' B', Stt K H0 H σ env' A' ∧ Rep K H0 H m v B' ∧ (∀ b, A' b + B' b ≤ A b + B b) ∧ (∀ b, A' b ≤ A b) ∧ ∀ i, bk = some i → σ[i]? = some (some v) := by
  cases op with
  | tmp m' =>
    cases e
    exact ⟨A, B, s, h, fun b => Nat.le_refl _, fun b => Nat.le_refl _, fun i q => nomatch q⟩
  | slot i =>
    obtain ⟨hv, hB⟩ := h
    have e : (match env[i]? with
      | some (some (.p d)) => some (M.p d, none, env)
      | some (some m) => some (m, some i, env.set i none)
      | _ => none) = some (m, bk, env') := e
    split at e
    · rename_i d q
      cases e
      obtain ⟨t, A1, A2, f1, f2, f3, f4, f5⟩ := s.rep.zoom q
      obtain ⟨v', rfl, r⟩ := f2
      have : v' = v := by
        rw [f1] at hv
        exact Option.some.inj (Option.some.inj hv)
      subst this
      exact ⟨A, fun _ => 0, s, ⟨r.1, fun _ => rfl⟩, fun b => by show A b + 0 ≤ A b + B b; omega, fun b => Nat.le_refl _, fun i q => nomatch q⟩
    · rename_i m0 _ q
      cases e
      obtain ⟨t, A1, A2, f1, f2, f3, f4, f5⟩ := s.rep.zoom q
      obtain ⟨v', rfl, r⟩ := f2
      have : v' = v := by
        rw [f1] at hv
        exact Option.some.inj (Option.some.inj hv)
      subst this
      have z := f5 none (some v') (fun _ => 0) H0 H (Ex.refl _) (fun b hb => ⟨(f4 b hb).1, rfl⟩) (fun _ => rfl)
      rw [st_set_self f1] at z
      exact ⟨A2, A1, ⟨by simpa using z, fun b => by have := s.one b; have := f3 b; omega, s.ex⟩, r, fun b => by have := f3 b; omega, fun b => by have := f3 b; omega, fun j q => by cases q; exact f1⟩
    · cases e
theorem pass_l : ∀ {ops : List Op} {env env' : Env} {A B : Fp} {vs : List V} {ms : List M} {bs : List (Option Nat)}, Stt K H0 H σ env A → OpVL K H0 H σ ops vs B → (∀ b, A b + B b ≤ 1) → passL env ops = some (ms, bs, env') →
    ∃ A' B', Stt K H0 H σ env' A' ∧ RepL K H0 H ms vs B' ∧ (∀ b, A' b + B' b ≤ A b + B b) ∧ BackOk σ bs vs
  | [], env, env', A, B, vs, ms, bs, s, h, one, e => by
    cases e
    obtain ⟨rfl, h⟩ := h
    exact ⟨A, B, s, ⟨rfl, h⟩, fun b => Nat.le_refl _, trivial⟩
  | op :: ops, env, env', A, B, vs, ms, bs, s, h, one, e => by
    obtain ⟨v, vr, B1, B2, rfl, h1, h2, ea⟩ := h
    unfold passL at e
    obtain ⟨⟨m, b1, e1⟩, q1, e⟩ := Option.bind_eq_some_iff.mp e
    obtain ⟨⟨mr, br, e2⟩, q2, e⟩ := Option.bind_eq_some_iff.mp e
    cases e
    obtain ⟨A1, B1', s1, r1, l1, a1, k1⟩ := pass_op s h1 (fun b => by have := one b; rw [ea b] at this; omega) q1
    obtain ⟨A2, B2', s2, r2, l2, k2⟩ := pass_l s1 h2 (fun b => by have := one b; have := a1 b; rw [ea b] at *; omega) q2
    refine ⟨A2, fun b => B1' b + B2' b, s2, ⟨v, vr, B1', B2', rfl, r1, r2, fun _ => rfl⟩, fun b => ?_, k1, k2⟩
    have := l1 b
    have := l2 b
    rw [ea b]
    show A2 b + (B1' b + B2' b) ≤ _
    omega
theorem back_l : ∀ {bs : List (Option Nat)} {outs : List (Option M)} {vs : List V} {env : Env} {A C : Fp}, RepE K H0 H env σ A → RepE K H0 H outs (vs.map some) C → BackOk σ bs vs → ∃ A', RepE K H0 H (backL bs outs env) σ A' ∧ ∀ b, A' b ≤ A b + C b
  | [], [], vs, env, A, C, h, h2, k => ⟨A, h, fun b => by omega⟩
  | [], _ :: _, vs, env, A, C, h, h2, k => ⟨A, h, fun b => by omega⟩
  | some i :: bs, [], vs, env, A, C, h, h2, k => ⟨A, h, fun b => by omega⟩
  | none :: bs, [], vs, env, A, C, h, h2, k => ⟨A, h, fun b => by omega⟩
  | bk :: bs, o :: outs, [], env, A, C, h, h2, k => False.elim k
  | bk :: bs, o :: outs, v :: vs, env, A, C, h, h2, k => by
    obtain ⟨s, σr, C1, C2, es, r1, r2, ea⟩ := h2
    obtain ⟨e1, e2⟩ := List.cons.inj es
    subst e1
    subst e2
    obtain ⟨k1, k2⟩ := k
    cases bk with
    | none =>
      obtain ⟨A', h', l⟩ := back_l (bs := bs) h r2 k2
      exact ⟨A', h', fun b => by have := l b; rw [ea b]; omega⟩
    | some i =>
      obtain ⟨A1, h1, l1⟩ := h.slot (i := i) r1
      rw [st_set_self (k1 i rfl)] at h1
      obtain ⟨A', h', l⟩ := back_l (bs := bs) h1 r2 k2
      exact ⟨A', h', fun b => by have := l b; have := l1 b; rw [ea b]; omega⟩
theorem call_ok {n : Nat} {F : Fn} {ua : UA} (hF : ∀ ms r, F ms = some r → ms.length = n) : ∀ σ H Q, tOf K (uCall F ua) σ H Q → tCall (spG K n F) [] E0 (aOf K ua) σ H Q := fun σ H Q h => by
  obtain ⟨env, A, H0, op, env', s, e, k⟩ := h
  obtain ⟨⟨ops, e1⟩, h1, e⟩ := Option.bind_eq_some_iff.mp e
  obtain ⟨⟨ms, bs, e2⟩, h2, e⟩ := Option.bind_eq_some_iff.mp e
  obtain ⟨⟨r, outs⟩, h3, e⟩ := Option.bind_eq_some_iff.mp e
  have e := (stM_eq _ _).symm.trans e
  cases e
  refine ⟨env, A, H0, ops, e1, s, h1, fun vs H1' H1 A1 B1 s1 o1 one1 g1 => ?_⟩
  obtain ⟨A2, B2, s2, r2, l2, k2⟩ := pass_l s1 o1 one1 h2
  rw [List.append_nil]
  have hl : vs.length = n := by rw [repL_len r2]; exact hF _ _ h3
  have one2 : ∀ b, A2 b + B2 b ≤ 1 := fun b => by have := one1 b; have := l2 b; omega
  refine ⟨hl, ms, H1', B2, r, outs, r2, fun b => by have := one2 b; omega, s2.ex, h3, fun v H2' H2 A3 B3 ro rr one3 ex3 f3 => ?_⟩
  have s3 := stt_fr s2 f3 (fun b hb => by have := one2 b; omega) ex3
  obtain ⟨A4, h4, l4⟩ := back_l s3.rep ro k2
  have ap := f3.apart (B := A2) (fun b hb => (s2.rep.own b hb).2) (fun b => by have := one2 b; omega) one3
  refine k v H2' H2 A4 B3 ⟨h4, fun b => by have := ap b; have := l4 b; omega, ex3⟩ rr (fun b => by have := ap b; have := l4 b; omega) ?_
  have w : Fr H1' H1 (fun b => A2 b + B2 b) H2' H2 (fun b => A3 b + B3 b) := f3.wide fun b hb => by show 0 < A2 b + B2 b; omega
  have g : Fr H1' H1 (fun b => A2 b + B2 b) H2' H2 (fun b => A4 b + B3 b) := ⟨w.e0, w.keep, w.dom, fun b hb => by
    have hb : 0 < A4 b + B3 b := hb
    by_cases q : 0 < A2 b
    · exact .inl (by show 0 < A2 b + B2 b; omega)
    · have := l4 b
      exact w.new b (by show 0 < A3 b + B3 b; omega), w.fz⟩
  exact g1.trans g (fun b hb => by have hb : 0 < A2 b + B2 b := hb; have := l2 b; show 0 < A1 b + B1 b; omega) fun b hb => .inr hb
end
section
variable {X : Cx} {k n : Nat} {f : Addr} {fd : FuncData} {ps : List Str} {sp : Sp} {x : Str} {p pos : Pos} {e : Expr} {es : List Expr} {t : TA} {ua : UA}
theorem run_g {pins : List (Addr × Obj)} {σ : L2.St} {H : Hp} {s : Shared} {Q : VK} {us : List Value} {vs : List V} (F : FnG X.prog X.w X.K X.mg X.base k f fd ps sp) (hgd : X.A.guards = some []) (hr : Room k X.A) (hb : Binds X.K fd ps []) (I : L2.Inv X pins σ H s) (r : Vals vs us) (h : sp vs H Q E0) :
    wpAny (model X.prog X.w) X.A (call (.ref f) us) (L2.EP X pins σ Q) X.xe s := by
  have hl : us.length = ps.length := r.length.symm.trans (F.len _ _ _ _ h)
  have bt := hb s us I.kIn (by rw [List.append_nil]; exact hl)
  rw [List.append_nil] at bt
  refine wpAny_call (codeAny_mono (F.run X.A X.stack s H ⟨us, []⟩ us vs Q E0 hgd hr I.env0 bt r h) fun res s' hq => ?_)
  match res, hq with
  | .error _, hq => exact hq.elim
  | .ok (.ret _), hq => exact I.after hq
  | .ok .next, hq => exact hq.elim
  | .ok .brk, hq => exact hq.elim
  | .ok .cont, hq => exact hq.elim
theorem pe_callG (F : FnG X.prog X.w X.K X.mg X.base k f fd ps sp) (hgd : X.A.guards = some []) (hr : Room k X.A) (hm : X.mg x = some (.ref f)) (hk : PySem.W.keepIn X.K (.ref f) = true) (hb : Binds X.K fd ps []) (ha : PA X (e :: es) t) (hg : Gl X x) (hdb : (x == ("__debug__" : Str)) = false)
    (he : starEach (e :: es) X.env = (false, eval e X.env) :: starEach es X.env) (hpl : (backTo pos (starEach es X.env)).any (·.1) = false) : PE X (.Call (.Name x p) (e :: es) [] pos) (tCall sp [] E0 t) := by
  refine ⟨fun pins s σ H Q I h => wpAny_Call_Name_kw (ld_glob I hg hm ?_ hdb)⟩
  refine PySem.W.callWith_K (h₀ := X.base) I.ok.mod.kin hk (thn (ha.run pos pins s σ H _ I h) fun us s1 hv => ?_) he hpl
  obtain ⟨vs, H1, I1, r, q⟩ := hv
  rw [List.append_nil] at q
  exact ⟨I1.kIn, run_g F hgd hr hb I1 r q⟩
theorem g_call {F : Fn} (hF : ∀ ms r, F ms = some r → ms.length = n) (GF : FnG X.prog X.w X.K X.mg X.base k f fd ps (spG X.K n F)) (hgd : X.A.guards = some []) (hr : Room k X.A) (hm : X.mg x = some (.ref f)) (hk : PySem.W.keepIn X.K (.ref f) = true) (hb : Binds X.K fd ps []) (ha : PA X (e :: es) (aOf X.K ua))
    (hg : Gl X x := by rfl) (hdb : (x == ("__debug__" : Str)) = false := by decide) (he : starEach (e :: es) X.env = (false, eval e X.env) :: starEach es X.env := by rfl) (hpl : (backTo pos (starEach es X.env)).any (·.1) = false := by rfl) :
    PE X (.Call (.Name x p) (e :: es) [] pos) (tOf X.K (uCall F ua)) := pe_imp (pe_callG GF hgd hr hm hk hb ha hg hdb he hpl) (call_ok hF)
end

/-! ### the law's end -/
section
variable {l : PySem.W.OpenLaw}
theorem law_end {P : Program} {w : World} {K : PySem.W.Frag} {mg mb : Str → Option Value} {k : Nat} {fa a : Addr} {fd : FuncData} {x : Str} {sp : Sp} {s1 : Shared} {vs : List Value} {ns : List Int}
    (KX : K.In s1.heap) (hns : s1.heap.Ns mainGlobals mg) (hb : s1.heap.Ns builtinsNs mb) (hbb : ∀ x : Str, x ≠ "__name__" → mb x = bootBuiltins x) (hlim : s1.heap.NoLimit) (hg : s1.gens = #[])
    (ha : s1.heap.get? a = some { cls := .type "list", data := .seq vs.toArray }) (hi : IntsAre vs ns) (hl : ns.length ≤ sizeLine) (hr : Room k callerA)
    (F : ∀ base : Heap, K.In base → base.Ns mainGlobals mg → FnG P w K mg base k fa fd [x] sp) (hbind : ∀ (s : Shared) (u : Value), BindsTo s fd ⟨[u], []⟩ [(x, u)])
    (hsp : ∀ H : Hp, Only H → SqL K H a (ns.map V.int) → sp [.ref a] H (fun v _ => v = .bl true) fun _ _ _ => False) :
    codeAny (model P w) callerA (.call (.ref fa) ⟨[.ref a], []⟩) (fun r s' => r = .ok (.ret (.bool true)) ∧ OldK s1.heap s'.heap ∧ s'.os = s1.os ∧ AllBare s'.gens) s1 := by
  -- what is tracked: the script, known to its object, unless it is the module's own
  let ob : Obj := { cls := .type "list", data := .seq vs.toArray }
  let H : Hp := fun b => if b = a ∧ K.lookup a = none then some (.frz ob (.lst (ns.map V.int))) else none
  have Hs : ∀ {b u}, H b = some u → b = a ∧ K.lookup a = none ∧ u = .frz ob (.lst (ns.map V.int)) := fun {b u} q => by
    have q : (if b = a ∧ K.lookup a = none then some (HO.frz ob (.lst (ns.map V.int))) else none) = some u := q
    split at q
    · rename_i z; cases q; exact ⟨z.1, z.2, rfl⟩
    · cases q
  have Hn : ∀ {b o}, s1.heap.get? b = some o → (b ≠ a ∨ K.lookup a ≠ none) → H b = none := fun {b o} e z => by
    show (if b = a ∧ K.lookup a = none then some (HO.frz ob (.lst (ns.map V.int))) else none) = none
    rw [if_neg (fun q => z.elim (fun z => z q.1) (fun z => z q.2))]
  have len := hi.length
  have ok : HOk P w H s1.heap := fun b u q => by
    obtain ⟨rfl, _, rfl⟩ := Hs q
    exact ⟨ha, by rw [List.length_map]; exact hl, vs, _, vals_ints hi, ha⟩
  have only : Only H := fun b => by
    cases q : H b with
    | none => exact .inl rfl
    | some u => obtain ⟨_, _, rfl⟩ := Hs q; exact .inr ⟨_, _, rfl⟩
  have sq : SqL K H a (ns.map V.int) := by
    cases q : K.lookup a with
    | none => exact .inl (.inr ⟨ob, if_pos ⟨rfl, q⟩⟩)
    | some o =>
      have e := KX a o q
      rw [ha] at e
      cases e
      exact .inr ⟨_, vs.toArray, _, q, rfl, rfl, rfl, by rw [List.size_toArray, len]; exact hl, by simpa using vals_ints hi⟩
  have kd : ∀ {b : Addr} {m : Str → Option Value}, s1.heap.Ns b m → (hidT s1.heap H).Ns b m := fun {b m} n => by
    obtain ⟨o, es, ep, e, d, r⟩ := n
    refine ⟨o, es, ep, hidT_get e (Hn e (.inl fun z => ?_)), d, r⟩
    subst z
    rw [ha] at e
    cases e
    have d : Data.seq vs.toArray _ = Data.dict es ep := d
    cases d
  have kk : K.In (hidT s1.heap H) := fun b o e => hidT_get (KX b o e) (Hn (KX b o e) (by
    by_cases z : b = a
    · subst z; exact .inr (by rw [e]; exact nofun)
    · exact .inl z))
  have md : Mod K mg (hidT s1.heap H) := ⟨kk, kd hns, ⟨mb, kd hb, hbb⟩, by obtain ⟨mc, h1, h2⟩ := hlim; exact ⟨mc, kd h1, h2⟩⟩
  have e0 : Env0 P w K mg (hidT s1.heap H) callerA [] s1 H :=
    ⟨rfl, md, fun b o e => of_hidT e, Nat.le_of_eq (hidT_size _ _), trivial, (fun b z => absurd (show b ∈ ([] : List Addr) from z) (by simp)), ok, .of_eq hg⟩
  have run := (F _ kk (kd hns)).run callerA [] s1 H ⟨[.ref a], []⟩ [.ref a] [.ref a] _ _ rfl hr e0 (hbind s1 (.ref a)) (.cons rfl .nil) (hsp H only sq)
  refine codeAny_mono run fun res s' hq => ?_
  match res, hq with
  | .error _, hq => exact hq.elim
  | .ok .next, hq => exact hq.elim
  | .ok .brk, hq => exact hq.elim
  | .ok .cont, hq => exact hq.elim
  | .ok (.ret u), hq =>
    obtain ⟨v, H', os, bare, un, ok', rv, q⟩ := hq
    have q : v = .bl true := q
    subst q
    obtain rfl : u = Value.bool true := rv
    refine ⟨rfl, OldK.of_keep fun b o e => ?_, os, bare⟩
    cases z : H b with
    | none => exact un.keep b o e z (fun z => absurd (show b ∈ ([] : List Addr) from z) (by simp)) (fun z => absurd z (by simp))
    | some u =>
      obtain ⟨rfl, _, rfl⟩ := Hs z
      have z2 := un.frzs _ _ _ z
      rw [ha] at e
      cases e
      exact (ok' _ _ z2).1
theorem walk_g {n k : Nat} {q : Program} {loose : List Str} {XP : (Str → Option Value) → Heap → Prop} {YP : World → Heap → Prop} {d : DefRec} {K : Params → PySem.W.Frag} {F : Fn} {x : Str}
    (hn : l.most = some n) (hn2 : n ≤ sizeLine) (hdf : d.params.defaults = []) (hr : Room k callerA) (hY : ∀ (w : World) (h : Heap), YP w h → (K w.params).In h)
    (hG : ∀ (w : World) (mg : Str → Option Value) (fa : Addr) (h : Heap), (K w.params).In h → h.Ns mainGlobals mg → mg d.name = some (.ref fa) →
      ∃ fd : FuncData, (∀ (s : Shared) (u : Value), BindsTo s fd ⟨[u], []⟩ [(x, u)]) ∧ ∀ base : Heap, (K w.params).In base → base.Ns mainGlobals mg → FnG l.prog w (K w.params) mg base k fa fd [x] (spG (K w.params) 1 F))
    (hlaw : ∀ ns : List Int, ns.length ≤ n → ∃ outs, F [.p (.list (ns.map .int))] = some (.p (.bool true), outs)) :
    PySem.W.WalkO q loose XP YP l.row.toRowW d [] (fun f vs => PySem.call f vs) := by
  refine Att.attach_call hn hdf fun w s0 s1 mg mb fa o pm cd doc a vs ns G Y ho hd hcd hmg hobj hints hlen hg => ?_
  have KX := hY w _ Y
  obtain ⟨fd, hb, hF⟩ := hG w mg fa _ KX G.T.g hmg
  refine law_end KX G.T.g G.T.b G.T.builtins G.T.nolimit hg hobj hints (Nat.le_trans hlen hn2) hr hF hb fun H hO hS => ?_
  obtain ⟨outs, hl⟩ := hlaw ns hlen
  refine ⟨rfl, [.p (.list (ns.map .int))], H, fun _ => 0, _, outs, ⟨_, _, fun _ => 0, fun _ => 0, rfl, ⟨.lst hS (dq_ints ns), fun _ => rfl⟩, ⟨rfl, fun _ => rfl⟩, fun _ => rfl⟩, fun _ => Nat.zero_le _, Ex.refl _, hl, fun v H0' H' A' B _ r _ _ _ => ?_⟩
  exact dq_bl r.1
end
end G

/-! G12: comparisons as tests, chains, minus, enumerate, constants, op=, repeats. -/
namespace G
open PySem PySem.Spec PyProof.Rows L2

/-- the truth of what is True or False -/
def uTruB (u : U) : UT := fun env => (u env).bind fun p => match rd p.2 p.1 with
  | some (.p (.bool k)) => some (k, p.2)
  | _ => none
section
variable {K : PySem.W.Frag} {np : Nat} {H0 H H0' H' : Hp} {σ σ' : L2.St} {env env' : Env} {A A' B C : Fp} {D : Ends} {Q : VK}
theorem truB_ok {u : U} : ∀ σ H Q, ttOf K (uTruB u) σ H Q → tOf K u σ H fun x H' => ∃ k, x = .bl k ∧ Q k H' := fun σ H Q t => by
  obtain ⟨env, A, H0, c, env', s, e, k⟩ := t
  obtain ⟨⟨x, e1⟩, h1, e⟩ := Option.bind_eq_some_iff.mp e
  split at e
  · rename_i b hb
    cases e
    refine tOf.go s h1 fun v H0' H' A' B s' o one f => ?_
    obtain ⟨C, r, _⟩ := rd_ok s' o hb
    exact ⟨_, rep_bl r, k H0' H' A' s' (f.weak fun b hb => by show 0 < A' b + B b; omega)⟩
  · cases e
/-- a op b op' c -/
def uChain (f f' : M → M → Option M) (a b c : U) : U := fun env => (a env).bind fun p => (b p.2).bind fun q => (rd q.2 p.1).bind fun mx => (rd q.2 q.1).bind fun my => match f mx my with
  | some (.p (.bool true)) => (c q.2).bind fun r => (rd r.2 q.1).bind fun my' => (rd r.2 r.1).bind fun mz => match f' my' mz with
    | some (.p (.bool k)) => some (.tmp (.p (.bool k)), r.2)
    | _ => none
  | some (.p (.bool false)) => some (.tmp (.p (.bool false)), q.2)
  | _ => none
end
/-- -a -/
def uNeg (u : U) : U := fun env => (u env).bind fun p => match rd p.2 p.1 with
  | some (.p (.int i)) => some (.tmp (.p (.int (-i))), p.2)
  | _ => none
section
variable {K : PySem.W.Frag} {np : Nat} {H0 H H0' H' : Hp} {σ σ' : L2.St} {env env' : Env} {A A' B C : Fp} {D : Ends} {Q : VK}
theorem neg_okG {u : U} : ∀ σ H Q, tOf K (uNeg u) σ H Q → tUn (rU fun i => .int (-i)) (tOf K u) σ H Q := fun σ H Q t => by
  obtain ⟨env, A, H0, op, env', s, e, k⟩ := t
  obtain ⟨⟨x, e1⟩, h1, e⟩ := Option.bind_eq_some_iff.mp e
  split at e
  · rename_i i hb
    cases e
    refine tOf.go s h1 fun v H0' H' A' B s' o one f => ?_
    obtain ⟨C, r, _⟩ := rd_ok s' o hb
    exact ⟨i, rep_int r, k _ H0' H' A' (fun _ => 0) s' ⟨.int _, fun _ => rfl⟩ (fun b => s'.one b) (f.weak fun b hb => by have hb : 0 < A' b + 0 := hb; show 0 < A' b + B b; omega)⟩
  · cases e
def enumD : Nat → List PyData → List PyData
  | _, [] => []
  | i, d :: ds => .tuple [.int (i : Nat), d] :: enumD (i + 1) ds
theorem enumD_len : ∀ (ds : List PyData) (i : Nat), (enumD i ds).length = ds.length
  | [], _ => rfl
  | _ :: ds, i => by unfold enumD; rw [List.length_cons, List.length_cons, enumD_len ds]
theorem enumD_get : ∀ (ds : List PyData) (i j : Nat) (d : PyData), ds[j]? = some d → (enumD i ds)[j]? = some (.tuple [.int ((i + j : Nat) : Int), d])
  | [], i, j, d, h => by cases h
  | x :: ds, i, 0, d, h => by cases h; rfl
  | x :: ds, i, j + 1, d, h => by
    have := enumD_get ds (i + 1) j d h
    rw [show i + 1 + j = i + (j + 1) by omega] at this
    exact this
def zipD : List PyData → List PyData → List PyData
  | a :: as, b :: bs => .tuple [a, b] :: zipD as bs
  | _, _ => []
theorem zipD_len : ∀ (as bs : List PyData), (zipD as bs).length = min as.length bs.length
  | [], bs => by unfold zipD; simp
  | a :: as, [] => by unfold zipD; simp
  | a :: as, b :: bs => by unfold zipD; rw [List.length_cons, zipD_len as bs, List.length_cons, List.length_cons]; omega
theorem zipD_get : ∀ (as bs : List PyData) (j : Nat) (a b : PyData), as[j]? = some a → bs[j]? = some b → (zipD as bs)[j]? = some (.tuple [a, b])
  | [], bs, j, a, b, h, h2 => by cases h
  | x :: as, [], j, a, b, h, h2 => by cases h2
  | x :: as, y :: bs, 0, a, b, h, h2 => by cases h; cases h2; rfl
  | x :: as, y :: bs, j + 1, a, b, h, h2 => zipD_get as bs j a b h h2
/-- a new pair -/
theorem gro_pair {T : Addr} {x y : V} {dx dy : PyData} (e : Ex H0 H) (hT : H T = none) (hx : Dq K H0 x dx) (hy : Dq K H0 y dy) : Gro H0 H (upd H0 T (.tup [x, y])) (upd H T (.tup [x, y])) ∧ Dq K (upd H0 T (.tup [x, y])) (.ref T) (.tuple [dx, dy]) := by
  have e1 : Ex H0 (upd H0 T (.tup [x, y])) := ex_new (e.none hT)
  refine ⟨⟨e1, ex_upd2 e, upd_keep hT, fun b hb => ?_⟩, .tup upd_same (.cons (dp_mono e1 hx) (.cons (dp_mono e1 hy) .nil))⟩
  by_cases q : b = T
  · rw [q]; exact .inr hT
  · rw [upd_ne q] at hb; exact .inl hb
theorem it_enum {a : Addr} {vs : List V} {ds : List PyData} (h : SqL K H0 a vs) (hd : DqAll K H0 vs ds) : ItOk K H0 (Ite K a) (enumD 0 ds) where
  go := fun i H hi e => ⟨vs, vs[i]'(by rw [dpA_len hd]; rw [enumD_len] at hi; exact hi), e.sl h, List.getElem?_eq_getElem _⟩
  yld := fun i Hc H x H' e0 e hi y => by
    obtain ⟨T, z, rfl, hT, rfl, y⟩ := y
    have hx := y vs ((e0.trans e).sl h)
    obtain ⟨d, h1, h2⟩ := dpA_at hd hx
    obtain ⟨g1, g2⟩ := gro_pair (K := K) e hT (.int (i : Nat)) (dp_mono e0 h2)
    have h3 := enumD_get ds 0 i d h1
    rw [Nat.zero_add] at h3
    exact ⟨_, _, g1, h3, g2⟩
  stop := fun H e => ⟨vs, e.sl h, by rw [enumD_len, dpA_len hd]; exact Nat.le_refl _⟩
/-- what is walked, from items -/
def uiOf (g : List PyData → Option (List PyData)) (ua : UA) : UI := fun env => (ua env).bind fun p => (takeL p.2 p.1).bind fun q => (frzL q.1).bind fun ds => (g ds).bind fun r => some (r, q.2)
def frzL_fr : ∀ {ms : List M} {H0 : Hp} {A B : Fp} {vs : List V} {ds : List PyData}, Stt K H0 H σ env A → RepL K H0 H ms vs B → (∀ b, A b + B b ≤ 1) → frzL ms = some ds →
    ∃ H0', Stt K H0' H σ env A ∧ DqAll K H0' vs ds ∧ Fr H0 H (fun b => A b + B b) H0' H A := fun {ms H0 A B vs ds} s r one e => by
  have ex0 : Ex H0 (shr H0 H B) := fun b o hb => by
    unfold shr
    by_cases q : 0 < B b
    · rw [(r.own b q).1] at hb
      cases hb
    · rw [if_neg q]
      exact hb
  have ex1 : Ex (shr H0 H B) H := fun b o hb => by
    unfold shr at hb
    by_cases q : 0 < B b
    · rw [if_pos q] at hb; exact hb
    · rw [if_neg q] at hb; exact s.ex b o hb
  refine ⟨shr H0 H B, ⟨s.rep.mono ex0 fun b hb => ⟨?_, rfl⟩, s.one, ex1⟩, r.frz ex0 (fun b hb => by unfold shr; rw [if_pos hb]) e, ⟨ex0, fun _ _ _ => rfl, fun _ h => h, fun b hb => .inl (by show 0 < A b + B b; omega), fun b hb => ?_⟩⟩
  · unfold shr
    have := one b
    rw [if_neg (by omega)]
    exact (s.rep.own b hb).1
  · unfold shr at hb
    by_cases q : 0 < B b
    · exact .inr (.inl (by show 0 < A b + B b; omega))
    · rw [if_neg q] at hb
      exact .inl hb
theorem of_ok {g : List PyData → Option (List PyData)} {ua : UA} {R : It → Hp → Prop} (h : iOf K (uiOf g ua) σ H R) : aOf K ua σ H fun vs H' => ∃ (ds : List PyData) (r : List PyData) (H0' : Hp), DqAll K H0' vs ds ∧ Ex H0' H' ∧ g ds = some r ∧ ∀ J, ItOk K H0' J r → R J H' := by
  obtain ⟨env, A, H0, ds, env', s, e, k⟩ := h
  obtain ⟨⟨ops, e1⟩, h1, e⟩ := Option.bind_eq_some_iff.mp e
  obtain ⟨⟨ms, e2⟩, h2, e⟩ := Option.bind_eq_some_iff.mp e
  obtain ⟨dd, h3, e⟩ := Option.bind_eq_some_iff.mp e
  obtain ⟨r, h5, e⟩ := Option.bind_eq_some_iff.mp e
  cases e
  refine ⟨env, A, H0, ops, e1, s, h1, fun vs H1' H1 A1 B1 s1 o1 one1 g1 => ?_⟩
  obtain ⟨H2', A2, B2, s2, r2, a2, b2, g2⟩ := takeL_fr s1 o1 one1 h2
  obtain ⟨H3', s3, r3, g3⟩ := frzL_fr s2 r2 (fun b => by have := one1 b; have := a2 b; have := b2 b; omega) h3
  refine ⟨dd, _, H3', r3, s3.ex, h5, fun J ok => k J H3' H1 A2 s3 ?_ ok⟩
  have g12 := g1.trans g2 (E := fun b => A2 b + B2 b) (fun b hb => by show 0 < A1 b + B1 b; omega) fun b hb => by
    have hb : 0 < A2 b + B2 b := hb
    have := a2 b
    have := b2 b
    exact .inl (by show 0 < A1 b + B1 b; omega)
  exact g12.trans g3 (fun b hb => hb) fun b hb => .inr hb
def gEnumL : List PyData → Option (List PyData)
  | [.list ds] => some (enumD 0 ds)
  | _ => none
theorem enumL_ok {ua : UA} : ∀ σ H R, iOf K (uiOf gEnumL ua) σ H R → iEnum K (aOf K ua) σ H R := fun σ H R t => by
  obtain ⟨env, A, H0, ops, env', s, e, k⟩ := of_ok t
  refine ⟨env, A, H0, ops, env', s, e, fun vs H0' H' A' B s' o one f => ?_⟩
  obtain ⟨ds, r, Hc, hd, ex, hg, hR⟩ := k vs H0' H' A' B s' o one f
  unfold gEnumL at hg
  split at hg
  · cases hg
    cases hd with
    | cons h1 h2 =>
      cases h2
      cases h1 with
      | lst h a => exact ⟨_, _, rfl, ex.sl h, hR _ (it_enum h a)⟩
  · cases hg
end
section
variable {X : Cx} {np : Nat} {a b c e : Expr} {pos p tpos : Pos} {ua ub uc : U} {va : UA} {r : R2} {f : M → M → Option M}
theorem gt_cmp {op : CmpOp} (h : F2 X.K r f) (ho : OpR X (compareOp op) r) (ha : PE X a (tOf X.K ua)) (hb : PE X b (tOf X.K ub)) (hm : behindInMarks op b = false) : PT X (.Compare a [op] [b] pos) (ttOf X.K (uTruB (uBin f ua ub))) :=
  pt_imp (pt_cmpR ho ha hb hm) fun σ H Q t => bin_ok h σ H _ (truB_ok σ H Q t)
theorem gt_lt (ha : PE X a (tOf X.K ua)) (hb : PE X b (tOf X.K ub)) : PT X (.Compare a [.Lt] [b] pos) (ttOf X.K (uTruB (uBin fLt ua ub))) := gt_cmp s_B0.f op_lt ha hb (nomark _)
theorem gt_le (ha : PE X a (tOf X.K ua)) (hb : PE X b (tOf X.K ub)) : PT X (.Compare a [.LtE] [b] pos) (ttOf X.K (uTruB (uBin fLe ua ub))) := gt_cmp s_B0.f op_le ha hb (nomark _)
theorem gt_gt (ha : PE X a (tOf X.K ua)) (hb : PE X b (tOf X.K ub)) : PT X (.Compare a [.Gt] [b] pos) (ttOf X.K (uTruB (uBin fGt ua ub))) := gt_cmp s_B0.f op_gt ha hb (nomark _)
theorem gt_ge (ha : PE X a (tOf X.K ua)) (hb : PE X b (tOf X.K ub)) : PT X (.Compare a [.GtE] [b] pos) (ttOf X.K (uTruB (uBin fGe ua ub))) := gt_cmp s_B0.f op_ge ha hb (nomark _)
theorem gt_eq (hu : X.A.units + 64 < cLine) (ha : PE X a (tOf X.K ua)) (hb : PE X b (tOf X.K ub)) : PT X (.Compare a [.Eq] [b] pos) (ttOf X.K (uTruB (uBin (lift2 dEq) ua ub))) := gt_cmp s_eq.f (op_eqD hu) ha hb (nomark _)
theorem gt_ne (hu : X.A.units + 64 < cLine) (ha : PE X a (tOf X.K ua)) (hb : PE X b (tOf X.K ub)) : PT X (.Compare a [.NotEq] [b] pos) (ttOf X.K (uTruB (uBin (lift2 dNe) ua ub))) := gt_cmp s_ne.f (op_neD hu) ha hb (nomark _)
theorem gt_is (ha : PE X a (tOf X.K ua)) (hb : PE X b (tOf X.K ub)) : PT X (.Compare a [.Is] [b] pos) (ttOf X.K (uTruB (uBin (lift2 dIs) ua ub))) := gt_cmp s_is.f op_isN ha hb (nomark _)
theorem gt_isnot (ha : PE X a (tOf X.K ua)) (hb : PE X b (tOf X.K ub)) : PT X (.Compare a [.IsNot] [b] pos) (ttOf X.K (uTruB (uBin (lift2 dIsNot) ua ub))) := gt_cmp s_isnot.f op_notN ha hb (nomark _)
theorem pt_or {t t' : TT} (h : PT X e t) (h' : PT X e t') : PT X e (fun σ H Q => t σ H Q ∨ t' σ H Q) := ⟨fun pins s σ H Q I q => by
  rcases q with q | q
  · exact h.run pins s σ H Q I q
  · exact h'.run pins s σ H Q I q⟩
theorem gt_in (hu : X.A.units + 65 < cLine) (ha : PE X a (tOf X.K ua)) (hb : PE X b (tOf X.K ub)) (hm : behindInMarks .In b = false := by rfl) : PT X (.Compare a [.In] [b] pos) (ttOf X.K (uTruB (uIn false ua ub))) :=
  pt_imp (pt_or (pt_cmpR ((op_inD hu).or ((op_inT hu).or op_in_str)) ha hb hm) (pt_cmp (pc_din (by omega) ha hb) hm)) fun σ H Q t => in_okG f_in σ H _ (truB_ok σ H Q t)
theorem gt_notin (hu : X.A.units + 65 < cLine) (ha : PE X a (tOf X.K ua)) (hb : PE X b (tOf X.K ub)) (hm : behindInMarks .NotIn b = false := by rfl) : PT X (.Compare a [.NotIn] [b] pos) (ttOf X.K (uTruB (uIn true ua ub))) :=
  pt_imp (pt_or (pt_cmpR ((op_notInD hu).or ((op_notInT hu).or op_notin_str)) ha hb hm) (pt_cmp (pc_dnotin (by omega) ha hb) hm)) fun σ H Q t => in_okG f_notin σ H _ (truB_ok σ H Q t)
theorem g_neg (ha : PE X a (tOf X.K ua)) : PE X (.UnaryOp .USub a pos) (tOf X.K (uNeg ua)) := pe_imp (pe_un un_neg ha) neg_okG
/-- enumerate(list) -/
theorem gi_enumL {elts : List Expr} {kk : Nat} (hm : X.mg "enumerate" = none) (ha : PA X [e] (aOf X.K va)) (hg : Gl X "enumerate" := by rfl) (hs : starEach [e] X.env = [(false, eval e X.env)] := by rfl) :
    PI X (.Tuple elts kk tpos) (.Call (.Name "enumerate" p) [e] [] pos) (iOf X.K (uiOf gEnumL va)) := pi_imp (pi_enum hg hm ha hs) enumL_ok
theorem g_globI {x : Str} {i : Int} (hm : ∃ t, X.mg x = some (.int i t)) (hg : Gl X x := by rfl) (hd : (x == ("__debug__" : Str)) = false := by decide) : PE X (.Name x pos) (tOf X.K (uC (.int i))) := by
  obtain ⟨t, hm⟩ := hm
  exact g_glob (v := .int i) hg hm ⟨t, rfl⟩ (fun _ => .int i) hd
def sRetN : S := fun env => some (.rt (.p .none) env)
theorem retN_ok {K : PySem.W.Frag} : ∀ D σ H, sOf K np sRetN D σ H → tRetN D σ H := fun D σ H h => by
  obtain ⟨env, A, H0, o, s, e, k⟩ := h
  cases e
  exact k .non σ H0 H A (fun _ => 0) s ⟨.non, fun _ => rfl⟩ (fun b => s.one b) (Fr.refl fun _ h => h) .refl
theorem gs_retN : PS X (.Return none pos) (sOf X.K np sRetN) := ps_imp ps_retN retN_ok
/-- a tuple many times over -/
def repT (x y : M) : Option M := match x, y with
  | .p (.tuple xs), .p (.int k) => if decide (xs ≠ []) && decide (2 ≤ k) && decide (k ≤ 1000) && decide (xs.length ≤ 1000) then some (.p (.tuple (List.replicate k.toNat xs).flatten)) else none
  | _, _ => none
theorem dpA_rep {K : PySem.W.Frag} {H : Hp} {vs : List V} {ds : List PyData} (h : DqAll K H vs ds) : ∀ k : Nat, DqAll K H (List.replicate k vs).flatten (List.replicate k ds).flatten
  | 0 => .nil
  | k + 1 => by
    rw [List.replicate_succ, List.replicate_succ, List.flatten_cons, List.flatten_cons]
    exact dpA_append h (dpA_rep h k)
end
theorem room66 {A : Around} {k : Nat} (h : Room k A) : A.units + 66 < cLine := by have := h.un; omega
theorem room65 {A : Around} {k : Nat} (h : Room k A) : A.units + 65 < cLine := by have := h.un; omega
theorem room64 {A : Around} {k : Nat} (h : Room k A) : A.units + 64 < cLine := by have := h.un; omega
theorem room1 {A : Around} {k : Nat} (h : Room k A) : A.units + 1 < cLine := by have := h.un; omega
end G

/-! G13: tuples and lists many times over. -/
namespace G
open PySem PySem.Spec PyProof.Rows L2
theorem tup_same (l : Addr) (items : Array Value) (n : Nat) (dd : Option Addr) (sl : Array (Option Value)) (x : Int) (u : Tok) (c0 : (decide (x < -(2 ^ 63)) || decide (x ≥ 2 ^ 63)) = false) (c1 : (items.isEmpty || x == 1) = true) :
    Meets (Builtin.«tuple.__mul__» ⟨[.ref l, .int x u], []⟩) (fun _ R s => s.heap.get? l = some { cls := .type "tuple", dict := dd, data := .seq items n, slots := sl } ∧ R (.ok (.ret (Value.ref l))) s) :=
  .of_wp fun prog w A R s h => by
    obtain ⟨hp, g, d, tk, os⟩ := s
    obtain ⟨hl, h⟩ := h
    have f1 := AutoSeq1.idx_int
    wp_walk using wpAny_loadPart' hl
    refine wpAny_ite_false (decide_eq_false (by rw [c0]; exact Bool.false_ne_true)) ?_
    wp_walk using wpAny_loadPart' hl
    exact ⟨_, rfl, h⟩
theorem tup_none (l : Addr) (items : Array Value) (n : Nat) (dd : Option Addr) (sl : Array (Option Value)) (x : Int) (u : Tok) (c0 : (decide (x < -(2 ^ 63)) || decide (x ≥ 2 ^ 63)) = false) (c1 : (items.isEmpty || x == 1) = false) (c2 : (decide (x ≤ 0) || items.isEmpty) = true) :
    Meets (Builtin.«tuple.__mul__» ⟨[.ref l, .int x u], []⟩) (fun _ R s => s.heap.get? l = some { cls := .type "tuple", dict := dd, data := .seq items n, slots := sl } ∧
      R (.ok (.ret (Value.ref s.heap.objs.size))) { s with heap := s.heap.push { cls := Value.type "tuple", data := Data.seq #[] } }) :=
  .of_wp fun prog w A R s h => by
    obtain ⟨hp, g, d, tk, os⟩ := s
    obtain ⟨hl, h⟩ := h
    have f1 := AutoSeq1.idx_int
    wp_walk using wpAny_loadPart' hl
    refine wpAny_ite_false (decide_eq_false (by rw [c0]; exact Bool.false_ne_true)) ?_
    wp_walk using wpAny_loadPart' hl
    exact ⟨_, rfl, h⟩
/-- t * 1, t * 0 and less, t bare -/
def rRepS (K : PySem.W.Frag) : R2 := fun x y H Q => ∃ l k xs, x = .ref l ∧ y = .int k ∧ SqT K H l xs ∧ -(2 ^ 63) ≤ k ∧ k < 2 ^ 63 ∧ ((xs = [] ∨ k = 1) ∧ Q (.ref l) H ∨ (xs ≠ [] ∧ k ≤ 0) ∧ ∀ p, H p = none → Q (.ref p) (upd H p (.tup [])))
theorem op_repS {X : Cx} : OpR X (binaryOp .Mult) (rRepS X.K) := by
  intro pins s σ H x y v u Q I rx ry h
  obtain ⟨l, k, xs, rfl, rfl, hT, h1, h2, hq⟩ := h
  cases rx
  obtain ⟨t, rfl⟩ := ry
  obtain ⟨its, r, ⟨⟨cls, dd, data, sl⟩, ho, hc, n, hd⟩, hs⟩ := I.tuple hT
  simp only at hc hd
  subst hc hd
  have hle : its.length = xs.length := r.length.symm
  have c0 : (decide (k < -(2 ^ 63)) || decide (k ≥ 2 ^ 63)) = false := by
    rw [decide_eq_false (by omega), decide_eq_false (by omega)]; rfl
  have emp : its.toArray.isEmpty = xs.isEmpty := by
    cases xs <;> cases its <;> first | rfl | (simp at hle)
  refine wpAny_binaryOp_repeat_ref (T := "tuple") (U := "int") (by decide) ⟨_, ho, rfl⟩ (fun s' => typeIs_int s' k t) noFill_tuple_mul F.fills_int_mul F.slot_int_rmul repeat_tuple F.slot_int_index.lookup ?_
  refine call_meets F.slot_int_rmul (typeIs_int s k t) F.entry_int_rmul (F.args_int_rmul_2 _ _) (int_rmul_tuple k t l its.toArray n dd sl) ⟨ho, rfl, ⟨_, ho, rfl⟩, ?_⟩
  rcases hq with ⟨hz, q⟩ | ⟨⟨hne, hk⟩, q⟩
  · have c1 : (its.toArray.isEmpty || k == 1) = true := by
      rw [emp]
      rcases hz with rfl | rfl
      · rfl
      · simp
    exact call_meets F.slot_tuple_mul ⟨_, ho, rfl⟩ F.entry_tuple_mul (F.args_tuple_mul_2 _ _) (tup_same l its.toArray n dd sl k t c0 c1) ⟨ho, .ref l, H, I, rfl, q⟩
  · have c1 : (its.toArray.isEmpty || k == 1) = false := by
      rw [emp]
      cases xs with
      | nil => exact absurd rfl hne
      | cons a b => show (k == 1) = false; exact beq_eq_false_iff_ne.mpr (by omega)
    have c2 : (decide (k ≤ 0) || its.toArray.isEmpty) = true := by rw [decide_eq_true hk]; rfl
    refine call_meets F.slot_tuple_mul ⟨_, ho, rfl⟩ F.entry_tuple_mul (F.args_tuple_mul_2 _ _) (tup_none l its.toArray n dd sl k t c0 c1 c2) ⟨ho, ?_⟩
    exact ⟨.ref s.heap.objs.size, _, I.laid (t' := s.toks) (o := .tup []) (fun b ob q => Heap.get?_push_of_some _ q) (Nat.le_refl _) ⟨Nat.zero_le _, [], .nil, IsTup.new _ _⟩, rfl, q _ (I.hok.fresh (Nat.le_refl _))⟩
/-- k times over -/
def repD (xs : List PyData) (k : Int) : List PyData := (List.replicate k.toNat xs).flatten
def mulT (x y : M) : Option M := match x, y with
  | .p (.tuple xs), .p (.int k) => if decide (k ≤ 1000) && decide (-1000 ≤ k) && decide (xs.length ≤ 1000) then some (.p (.tuple (repD xs k))) else none
  | _, _ => none
theorem f_mulT {K : PySem.W.Frag} : F2 K (fun x y H Q => rRepT K x y H Q ∨ rRepS K x y H Q) mulT := by
  intro H0 H x y mx my m C D e rx ry q Q k
  unfold mulT at q
  split at q
  · rename_i xs kk
    split at q
    · rename_i hz
      simp only [Bool.and_eq_true, decide_eq_true_eq] at hz
      obtain ⟨⟨h1, h2⟩, h3⟩ := hz
      cases q
      have ry := rep_int ry
      subst ry
      obtain ⟨rx, _⟩ := rx
      cases rx with
      | tup h a =>
        rename_i l vs
        by_cases h4 : vs = []
        · subst h4
          cases a
          have : repD [] kk = [] := by unfold repD; rw [List.flatten_eq_nil_iff]; intro l hl; exact List.eq_of_mem_replicate hl
          rw [this] at k
          exact .inr ⟨l, kk, [], rfl, rfl, SqT.of (e _ _ h), by omega, by omega, .inl ⟨.inl rfl, fresh_p k e (.tup h .nil)⟩⟩
        · by_cases h5 : kk = 1
          · subst h5
            have : repD xs 1 = xs := by unfold repD; simp
            rw [this] at k
            exact .inr ⟨l, 1, vs, rfl, rfl, SqT.of (e _ _ h), by omega, by omega, .inl ⟨.inr rfl, fresh_p k e (.tup h a)⟩⟩
          · by_cases h6 : kk ≤ 0
            · have : repD xs kk = [] := by unfold repD; rw [show kk.toNat = 0 by omega]; rfl
              rw [this] at k
              exact .inr ⟨l, kk, vs, rfl, rfl, SqT.of (e _ _ h), by omega, by omega, .inr ⟨⟨h4, h6⟩, fun p hp => fresh_tp k e hp .nil⟩⟩
            · exact .inl ⟨l, kk, vs, rfl, rfl, SqT.of (e _ _ h), h4, by omega, h1, by rw [dpA_len a]; exact h3, fun p hp => fresh_tp k e hp (dpA_rep a _)⟩
    · cases q
  · cases q
def mulL (x y : M) : Option M := match x, y with
  | .l ms, .p (.int k) => (allP ms).bind fun xs => if decide (k ≤ 1000) && decide (-1000 ≤ k) && decide (xs.length ≤ 1000) then some (.l ((repD xs k).map .p)) else none
  | _, _ => none
theorem f_mulL {K : PySem.W.Frag} : F2 K rRep mulL := by
  intro H0 H x y mx my m C D e rx ry q Q k
  unfold mulL at q
  split at q
  · rename_i ms kk
    obtain ⟨xs, h0, q⟩ := Option.bind_eq_some_iff.mp q
    split at q
    · rename_i hz
      simp only [Bool.and_eq_true, decide_eq_true_eq] at hz
      obtain ⟨⟨h1, h2⟩, h3⟩ := hz
      cases q
      have ry := rep_int ry
      subst ry
      obtain ⟨a, vs, A', rfl, e2, e3, e4, e5⟩ := rx
      rw [allP_eq h0] at e4
      have q1 := (repL_p e4).1
      refine ⟨a, kk, vs, rfl, rfl, e3, by omega, by omega, ?_, fun p hp => fresh_lp k e hp (dpA_rep q1 _)⟩
      rw [dpA_len q1, sizeLine_eq]
      have : xs.length * kk.toNat ≤ 1000 * 1000 := Nat.mul_le_mul h3 (by omega)
      omega
    · cases q
  · cases q
def fMul (x y : M) : Option M := (fMulI x y).or ((mulT x y).or (mulL x y))
theorem g_mul {X : Cx} {a b : Expr} {ua ub : U} {pos : Pos} (ha : PE X a (tOf X.K ua)) (hb : PE X b (tOf X.K ub)) : PE X (.BinOp a .Mult b pos) (tOf X.K (uBin fMul ua ub)) :=
  g_op ((s_Ic c_mul).f.or (f_mulT.or f_mulL)) (op_mul.or ((op_repT.or op_repS).or op_rep)) ha hb
end G

namespace G
open PySem PySem.Spec PyProof.Rows L2
mutual
def eqD : PyData → PyData → Bool
  | .none, .none => true
  | .bool a, .bool b => a == b
  | .int a, .int b => a == b
  | .list a, .list b => eqDs a b
  | .tuple a, .tuple b => eqDs a b
  | _, _ => false
def eqDs : List PyData → List PyData → Bool
  | [], [] => true
  | a :: as, b :: bs => eqD a b && eqDs as bs
  | _, _ => false
end
mutual
theorem eqD_ok : ∀ {a b : PyData}, eqD a b = true → a = b
  | .none, b, h => by cases b <;> simp [eqD] at h ⊢
  | .bool x, b, h => by cases b <;> simp [eqD] at h ⊢; exact h
  | .int x, b, h => by cases b <;> simp [eqD] at h ⊢; exact h
  | .str x, b, h => by cases b <;> simp [eqD] at h
  | .list x, b, h => by cases b <;> simp [eqD] at h ⊢; exact eqDs_ok h
  | .tuple x, b, h => by cases b <;> simp [eqD] at h ⊢; exact eqDs_ok h
  | .dict x, b, h => by cases b <;> simp [eqD] at h
theorem eqDs_ok : ∀ {a b : List PyData}, eqDs a b = true → a = b
  | [], b, h => by cases b <;> simp [eqDs] at h ⊢
  | x :: xs, b, h => by
    cases b with
    | nil => simp [eqDs] at h
    | cons y ys =>
      simp [eqDs] at h
      rw [eqD_ok h.1, eqDs_ok h.2]
end
mutual
def eqM : M → M → Bool
  | .p a, .p b => eqD a b
  | .l a, .l b => eqMs a b
  | .t a, .t b => eqMs a b
  | _, _ => false
def eqMs : List M → List M → Bool
  | [], [] => true
  | a :: as, b :: bs => eqM a b && eqMs as bs
  | _, _ => false
end
mutual
theorem eqM_ok : ∀ {a b : M}, eqM a b = true → a = b
  | .p x, b, h => by cases b <;> simp [eqM] at h ⊢; exact eqD_ok h
  | .l x, b, h => by cases b <;> simp [eqM] at h ⊢; exact eqMs_ok h
  | .t x, b, h => by cases b <;> simp [eqM] at h ⊢; exact eqMs_ok h
  | .dk x _, b, h => by cases b <;> simp [eqM] at h
  | .dt x _, b, h => by cases b <;> simp [eqM] at h
theorem eqMs_ok : ∀ {a b : List M}, eqMs a b = true → a = b
  | [], b, h => by cases b <;> simp [eqMs] at h ⊢
  | x :: xs, b, h => by
    cases b with
    | nil => simp [eqMs] at h
    | cons y ys =>
      simp [eqMs] at h
      rw [eqM_ok h.1, eqMs_ok h.2]
end
def eqO : List (Option M) → List M → Bool
  | [], [] => true
  | some a :: as, b :: bs => eqM a b && eqO as bs
  | _, _ => false
theorem eqO_ok : ∀ {a : List (Option M)} {b : List M}, eqO a b = true → a = b.map some
  | [], b, h => by cases b <;> simp [eqO] at h ⊢
  | none :: xs, b, h => by cases b <;> simp [eqO] at h
  | some x :: xs, b, h => by
    cases b with
    | nil => simp [eqO] at h
    | cons y ys =>
      simp [eqO] at h
      rw [eqM_ok h.1, eqO_ok h.2, List.map_cons]
/-- what a call answers, and what it hands back, looked at by running -/
def isR (o : Option (M × List (Option M))) (m : M) (outs : List M) : Bool := match o with
  | some p => eqM p.1 m && eqO p.2 outs
  | none => false
theorem isR_ok {o : Option (M × List (Option M))} {m : M} {outs : List M} (h : isR o m outs = true) : o = some (m, outs.map some) := by
  unfold isR at h
  split at h
  · rename_i p
    obtain ⟨a, b⟩ := p
    simp at h
    rw [eqM_ok h.1, eqO_ok h.2]
  · cases h
end G

/-! G15: isinstance, reversed lists, what is shared at once, calls by names, defs that call themselves. -/
namespace G
open PySem PySem.Spec PyProof.Rows L2

/-! ### isinstance -/
inductive Ty where
  | non | bl | int | str | lst | tup | dct
def Ty.nm : Ty → String
  | .non => "NoneType"
  | .bl => "bool"
  | .int => "int"
  | .str => "str"
  | .lst => "list"
  | .tup => "tuple"
  | .dct => "dict"
def Ty.isNon : Ty → Bool
  | .non => true
  | _ => false
theorem not_non {cs : List Ty} (h : cs.any Ty.isNon = false) : ∀ c, c ∈ cs → c ≠ .non := fun c hc e => by
  subst e
  have := List.any_eq_false.mp h _ hc
  exact this rfl
/-- of class c, of type t -/
def isT : Ty → Ty → Bool
  | .non, .non => true
  | .bl, .bl => true
  | .int, .int => true
  | .int, .bl => true
  | .str, .str => true
  | .lst, .lst => true
  | .tup, .tup => true
  | .dct, .dct => true
  | _, _ => false
theorem isT_ok : ∀ c t : Ty, c ≠ .non → kitB t.nm c.nm = some (isT c t) := by
  intro c t hc
  cases c <;> first | exact absurd rfl hc | (cases t <;> decide +kernel)
def tyD : PyData → Option Ty
  | .none => some .non
  | .bool _ => some .bl
  | .int _ => some .int
  | .str _ => some .str
  | .list _ => some .lst
  | .tuple _ => some .tup
  | .dict _ => none
def tyM : M → Ty
  | .p d => (tyD d).getD .dct
  | .l _ => .lst
  | .t _ => .tup
  | .dk _ _ => .dct
  | .dt _ _ => .dct
  | .fk _ _ => .dct
section
variable {K : PySem.W.Frag} {H0 H H0' H' : Hp} {σ : L2.St} {env env' : Env} {A A' B C : Fp} {Q : VK}
theorem ty_ok {m : M} {v : V} (e : Ex H0 H) (h : Rep K H0 H m v A) : TyX K H v (.type (tyM m).nm) := by
  cases m with
  | p d =>
    obtain ⟨h, _⟩ := h
    cases h with
    | non => exact .base .non
    | bl b => exact .base (.bl b)
    | int i => exact .base (.int i)
    | str i => exact .base (.str i)
    | lst h a =>
      rcases e.sl h with (h | ⟨o, h⟩) | ⟨o, its, n, h1, h2, _⟩
      · exact .base (.lst h)
      · exact .base (.frz h)
      · exact .kList h1 h2
    | tup h a => exact .base (.tup (e _ _ h))
  | l ms =>
    obtain ⟨a, vs, A', rfl, e2, e3, e4, e5⟩ := h
    exact .base (.lst e3)
  | t ms =>
    obtain ⟨a, vs, rfl, e2, e4⟩ := h
    exact .base (.tup (e _ _ e2))
  | dk ks ms =>
    obtain ⟨a, vs, A', rfl, e2, e3, _⟩ := h
    exact .base (.dK e3)
  | dt ks ms =>
    obtain ⟨a, vs, A', rfl, e2, e3, _⟩ := h
    exact .base (.dT e3)
  | fk ks ds =>
    obtain ⟨a, vs, o, rfl, e2, _⟩ := h
    exact .fDict (e _ _ e2)
def uIsi (cs : List Ty) (u : U) : U := fun env => (u env).bind fun p => (rd p.2 p.1).bind fun m => some (.tmp (.p (.bool (cs.any fun c => isT c (tyM m)))), p.2)
theorem isi1_ok {u : U} {c : Ty} (hc : c ≠ .non) : ∀ σ H Q, tOf K (uIsi [c] u) σ H Q → tCB (rIsi K) (tCons (tOf K u) (tCons (tC (.ty c.nm)) tNil)) σ H Q := fun σ H Q t => by
  obtain ⟨env, A, H0, op, env', s, e, k⟩ := t
  obtain ⟨⟨x, e1⟩, h1, e⟩ := Option.bind_eq_some_iff.mp e
  obtain ⟨m, h2, e⟩ := Option.bind_eq_some_iff.mp e
  cases e
  refine tOf.go s h1 fun v H0' H' A' B s' o one f => ?_
  obtain ⟨C, r, _⟩ := rd_ok s' o h2
  refine ⟨v, .ty c.nm, _, _, isT c (tyM m), rfl, .ty _, ty_ok s'.ex r, kit_ty (isT_ok c _ hc), ?_⟩
  refine k _ H0' H' A' (fun _ => 0) s' ⟨?_, fun _ => rfl⟩ (fun b => s'.one b) (f.weak fun b hb => by have hb : 0 < A' b + 0 := hb; show 0 < A' b + B b; omega)
  rw [List.any_cons, List.any_nil, Bool.or_false]
  exact .bl _
theorem kit_any {K : PySem.W.Frag} (t : Ty) : ∀ cs : List Ty, (∀ c, c ∈ cs → c ≠ .non) → PySem.W.kitAny K (.type t.nm) (cs.map fun c => Value.type c.nm) = some (cs.any fun c => isT c t)
  | [], _ => rfl
  | c :: cs, h => by
    refine kitAny_cons (kit_ty (isT_ok c t (h c (List.mem_cons_self ..)))) (fun hb => ?_) fun hb => ?_
    · rw [List.any_cons, hb, Bool.false_or]
      exact kit_any t cs fun c hc => h c (List.mem_cons_of_mem _ hc)
    · rw [List.any_cons, hb, Bool.true_or]
theorem gro_new {p : Addr} {o : HO} (e : Ex H0 H) (hp : H p = none) : Gro H0 H H0 (upd H p o) := ⟨Ex.refl _, ex_upd e hp, upd_keep hp, fun b hb => .inl hb⟩
theorem paired_ty : ∀ cs : List Ty, Paired ClsV (cs.map fun c => V.ty c.nm) (cs.map fun c => Value.type c.nm)
  | [] => .nil
  | c :: cs => .cons (.ty _) (paired_ty cs)
def tClss : List Ty → TA
  | [] => tNil
  | c :: cs => tCons (tC (.ty c.nm)) (tClss cs)
theorem tClss_go : ∀ (cs : List Ty) {R : List V → Hp → Prop}, R (cs.map fun c => V.ty c.nm) H → tClss cs σ H R
  | [], R, h => h
  | c :: cs, R, h => tClss_go cs (R := fun vs H => R (V.ty c.nm :: vs) H) h
theorem isiT_ok {u : U} {cs : List Ty} (hc : ∀ c, c ∈ cs → c ≠ .non) (hl : cs.length ≤ 1000) : ∀ σ H Q, tOf K (uIsi cs u) σ H Q → tCB (rIsiT K) (tCons (tOf K u) (tCons (tTup (tClss cs)) tNil)) σ H Q := fun σ H Q t => by
  obtain ⟨env, A, H0, op, env', s, e, k⟩ := t
  obtain ⟨⟨x, e1⟩, h1, e⟩ := Option.bind_eq_some_iff.mp e
  obtain ⟨m, h2, e⟩ := Option.bind_eq_some_iff.mp e
  cases e
  refine tOf.go s h1 fun v H0' H' A' B s' o one f => tClss_go cs ⟨by rw [List.length_map, sizeLine_eq]; omega, fun p hp => ?_⟩
  obtain ⟨C, r, _⟩ := rd_ok s' o h2
  have g : Gro H0' H' H0' (upd H' p (.tup (cs.map fun c => V.ty c.nm))) := gro_new s'.ex hp
  have r' : Rep K H0' (upd H' p (.tup (cs.map fun c => V.ty c.nm))) m v C := r.mono (Ex.refl _) fun b hb => ⟨(r.own b hb).1, g.keep b (r.own b hb).2⟩
  refine ⟨v, p, _, _, _, cs.any fun c => isT c (tyM m), rfl, upd_same, paired_ty cs, ty_ok g.ex r', kit_any _ cs hc, ?_⟩
  refine k _ H0' _ A' (fun _ => 0) (gro_stt g s') ⟨.bl _, fun _ => rfl⟩ (fun b => s'.one b) ?_
  exact (f.trans (gro_fr g (A := A')) (fun b hb => by show 0 < A' b + B b; omega) fun b hb => .inr (by have hb : 0 < A' b + 0 := hb; omega))
end

/-! ### xs[::-1] -/
def revM (m : M) : Option M := (lsM m).map fun ds => .l (ds.reverse.map .p)
def uRev (u : U) : U := fun env => (u env).bind fun p => (rd p.2 p.1).bind fun m => (revM m).bind fun r => some (.tmp r, p.2)
/-! ### fresh things shared at once -/
def uFrz (u : U) : U := fun env => (u env).bind fun p => match p.1 with
  | .tmp m => (frz m).bind fun d => some (.tmp (.p d), p.2)
  | .slot i => some (.slot i, p.2)
section
variable {K : PySem.W.Frag} {H0 H H0' H' : Hp} {σ : L2.St} {env env' : Env} {A A' B C : Fp} {Q : VK}
theorem dqA_rev : ∀ {vs : List V} {ds : List PyData}, DqAll K H vs ds → DqAll K H vs.reverse ds.reverse
  | _, _, .nil => .nil
  | _, _, .cons a t => by
    rw [List.reverse_cons, List.reverse_cons]
    exact dpA_append (dqA_rev t) (.cons a .nil)
theorem rev_ok {u : U} : ∀ σ H Q, tOf K (uRev u) σ H Q → tRevL K (tOf K u) σ H Q := fun σ H Q t => by
  obtain ⟨env, A, H0, op, env', s, e, k⟩ := t
  obtain ⟨⟨x, e1⟩, h1, e⟩ := Option.bind_eq_some_iff.mp e
  obtain ⟨m, h2, e⟩ := Option.bind_eq_some_iff.mp e
  obtain ⟨r, h3, e⟩ := Option.bind_eq_some_iff.mp e
  cases e
  refine tOf.go s h1 fun v H0' H' A' B s' o one f => ?_
  obtain ⟨C, rr, _⟩ := rd_ok s' o h2
  obtain ⟨ds, h4, rfl⟩ := Option.map_eq_some_iff.mp h3
  obtain ⟨a, vs, rfl, q, hd⟩ := rep_ls s'.ex rr h4
  have F := post_fresh s' f (fun b hb => by show 0 < A' b + B b; omega) k
  exact ⟨a, vs, rfl, q, fun p hp => fresh_lp F s'.ex hp (dqA_rev hd)⟩
theorem frz_ok {u : U} : ∀ σ H Q, tOf K (uFrz u) σ H Q → tOf K u σ H Q := fun σ H Q t => by
  obtain ⟨env, A, H0, op, env', s, e, k⟩ := t
  obtain ⟨⟨x, e1⟩, h1, e⟩ := Option.bind_eq_some_iff.mp e
  cases x with
  | slot i =>
    cases e
    exact tOf.go s h1 k
  | tmp m =>
    obtain ⟨d, h2, e⟩ := Option.bind_eq_some_iff.mp e
    cases e
    refine tOf.go s h1 fun v H0' H' A' B s' o one f => ?_
    have o : Rep K H0' H' m v B := o
    have ex0 : Ex H0' (shr H0' H' B) := fun b ob hb => by
      unfold shr
      by_cases q : 0 < B b
      · rw [(o.own b q).1] at hb
        cases hb
      · rw [if_neg q]
        exact hb
    have dq : Dq K (shr H0' H' B) v d := o.frz ex0 (fun b hb => by unfold shr; rw [if_pos hb]) h2
    have s2 : Stt K (shr H0' H' B) H' σ e1 A' := ⟨s'.rep.mono ex0 fun b hb => ⟨by
      unfold shr
      have := one b
      rw [if_neg (by omega)]
      exact (s'.rep.own b hb).1, rfl⟩, s'.one, fun b ob hb => by
      unfold shr at hb
      by_cases q : 0 < B b
      · rw [if_pos q] at hb; exact hb
      · rw [if_neg q] at hb; exact s'.ex b ob hb⟩
    refine k v _ H' A' (fun _ => 0) s2 ⟨dq, fun _ => rfl⟩ (fun b => s'.one b) ?_
    refine ⟨f.e0.trans ex0, f.keep, f.dom, fun b hb => f.new b (by have hb : 0 < A' b + 0 := hb; show 0 < A' b + B b; omega), fun b hb => ?_⟩
    unfold shr at hb
    by_cases q : 0 < B b
    · rcases f.new b (by show 0 < A' b + B b; omega) with z | z
      · exact .inr (.inl z)
      · exact .inr (.inr z)
    · rw [if_neg q] at hb
      exact f.fz b hb
end
section
variable {X : Cx} {e : Expr} {u : U} {p p2 pos tpos : Pos}
theorem g_isi1 (c : Ty) {x : Str} {cp : Pos} (hm : X.mg "isinstance" = none) (hmc : X.mg x = none) (he : PE X e (tOf X.K u)) (hg : Gl X "isinstance" := by rfl) (hgc : Gl X x := by rfl) (hv : bootBuiltins x = some (.type c.nm) := by decide +kernel) (hc : c ≠ .non := by exact nofun)
    (hn : x ≠ "__name__" := by decide) (hd : (x == ("__debug__" : Str)) = false := by decide)
    (hs1 : starEach [e, .Name x cp] X.env = (false, eval e X.env) :: starEach [.Name x cp] X.env := by rfl) (hs2 : starEach [.Name x cp] X.env = (false, eval (.Name x cp) X.env) :: starEach [] X.env := by rfl) (hpl : (backTo pos (starEach [.Name x cp] X.env)).any (·.1) = false := by rfl) :
    PE X (.Call (.Name "isinstance" p) [e, .Name x cp] [] pos) (tOf X.K (uIsi [c] u)) :=
  pe_imp (pe_callB call_isi hg hm boot_isinstance (pa_cons he (pa_cons (pe_bltn hgc hmc hv (show L2.RelV (.ty c.nm) (.type c.nm) from rfl) hn hd) pa_nil hs2) hs1) (by decide) (by decide) hs1 hpl) (isi1_ok hc)
theorem gc_nil : PA X [] (tClss []) := pa_nil
theorem gc_cons (c : Ty) {x : Str} {cp : Pos} {cs : List Ty} {es : List Expr} (hmc : X.mg x = none) (h : PA X es (tClss cs)) (hgc : Gl X x := by rfl) (hv : bootBuiltins x = some (.type c.nm) := by decide +kernel)
    (hn : x ≠ "__name__" := by decide) (hd : (x == ("__debug__" : Str)) = false := by decide) (hs : starEach (.Name x cp :: es) X.env = (false, eval (.Name x cp) X.env) :: starEach es X.env := by rfl) : PA X (.Name x cp :: es) (tClss (c :: cs)) :=
  pa_cons (pe_bltn hgc hmc hv (show L2.RelV (.ty c.nm) (.type c.nm) from rfl) hn hd) h hs
theorem g_isiT {cs : List Ty} {es : List Expr} {k : Nat} (hm : X.mg "isinstance" = none) (he : PE X e (tOf X.K u)) (hes : PA X es (tClss cs)) (hg : Gl X "isinstance" := by rfl) (hc : cs.any Ty.isNon = false := by rfl) (hl : cs.length ≤ 1000 := by decide)
    (hs1 : starEach [e, .Tuple es k tpos] X.env = (false, eval e X.env) :: starEach [.Tuple es k tpos] X.env := by rfl) (hs2 : starEach [.Tuple es k tpos] X.env = (false, eval (.Tuple es k tpos) X.env) :: starEach [] X.env := by rfl) (hpl : (backTo pos (starEach [.Tuple es k tpos] X.env)).any (·.1) = false := by rfl) :
    PE X (.Call (.Name "isinstance" p) [e, .Tuple es k tpos] [] pos) (tOf X.K (uIsi cs u)) :=
  pe_imp (pe_callB call_isiT hg hm boot_isinstance (pa_cons he (pa_cons (pe_tup hes) pa_nil hs2) hs1) (by decide) (by decide) hs1 hpl) (isiT_ok (not_non hc) hl)
theorem g_rev {k : Nat} {p1 p3 : Pos} (he : PE X e (tOf X.K u)) : PE X (.Subscript e (.Slice none none (some (.UnaryOp .USub (.Constant (.int 1) k p1) p2)) p3) pos) (tOf X.K (uRev u)) := pe_imp (pe_revL he) rev_ok
theorem g_frz (he : PE X e (tOf X.K u)) : PE X e (tOf X.K (uFrz u)) := pe_imp he frz_ok
end

/-! ### calls by names alone -/
def pick {α : Type} (is : List Nat) (xs : List α) : List α := is.filterMap fun i => xs[i]?
def uaPick (is : List Nat) (ua : UA) : UA := fun env => (ua env).bind fun p => if p.1.length = is.length then some (pick is p.1, p.2) else none
section
variable {K : PySem.W.Frag} {H0 H H0' H' : Hp} {σ : L2.St} {env env' : Env} {A A' B C : Fp} {Q : VK}
theorem pick_all {α : Type} : ∀ xs : List α, pick (List.range xs.length) xs = xs
  | [] => rfl
  | x :: xs => by
    have ih := pick_all xs
    unfold pick at ih ⊢
    rw [List.length_cons, List.range_succ_eq_map, List.filterMap_cons, List.getElem?_cons_zero]
    show x :: _ = _
    rw [List.filterMap_map]
    exact congrArg (x :: ·) ih
theorem pick_perm {α : Type} {is : List Nat} {xs : List α} (h : is.Perm (List.range xs.length)) : (pick is xs).Perm xs := by
  have h1 : (pick is xs).Perm (pick (List.range xs.length) xs) := h.filterMap _
  rw [pick_all] at h1
  exact h1
theorem opVL_zip : ∀ {ops : List Op} {vs : List V} {B : Fp}, OpVL K H0 H σ ops vs B → ops.length = vs.length
  | [], vs, B, h => by obtain ⟨rfl, _⟩ := h; rfl
  | o :: ops, vs, B, h => by
    obtain ⟨v, vr, B1, B2, rfl, _, h2, _⟩ := h
    rw [List.length_cons, List.length_cons, opVL_zip h2]
theorem opVL_perm {l l' : List (Op × V)} (h : l.Perm l') : ∀ {B : Fp}, OpVL K H0 H σ (l.map (·.1)) (l.map (·.2)) B → OpVL K H0 H σ (l'.map (·.1)) (l'.map (·.2)) B := by
  induction h with
  | nil => exact fun h => h
  | cons x _ ih =>
    intro B h
    obtain ⟨v, vr, B1, B2, e, h1, h2, ea⟩ := h
    obtain ⟨e1, e2⟩ := List.cons.inj e
    subst e1 e2
    exact ⟨_, _, B1, B2, rfl, h1, ih h2, ea⟩
  | swap x y l =>
    intro B h
    obtain ⟨v, vr, B1, B2, e, h1, h2, ea⟩ := h
    obtain ⟨e1, e2⟩ := List.cons.inj e
    subst e1 e2
    obtain ⟨v, vr, B3, B4, e, h3, h4, eb⟩ := h2
    obtain ⟨e1, e2⟩ := List.cons.inj e
    subst e1 e2
    exact ⟨_, _, B3, fun b => B1 b + B4 b, rfl, h3, ⟨_, _, B1, B4, rfl, h1, h4, fun _ => rfl⟩, fun b => by rw [ea b, eb b]; show B1 b + (B3 b + B4 b) = B3 b + (B1 b + B4 b); omega⟩
  | trans _ _ ih1 ih2 => exact fun h => ih2 (ih1 h)
theorem pick_map {α β : Type} (f : α → β) : ∀ (is : List Nat) (xs : List α), pick is (xs.map f) = (pick is xs).map f
  | [], xs => rfl
  | i :: is, xs => by
    have ih := pick_map f is xs
    unfold pick at ih ⊢
    rw [List.filterMap_cons, List.filterMap_cons, List.getElem?_map]
    cases xs[i]? with
    | none => exact ih
    | some y => exact congrArg (f y :: ·) ih
theorem pick_ok {is : List Nat} {ops : List Op} {vs : List V} (hp : is.Perm (List.range is.length)) (hl : ops.length = is.length) (h : OpVL K H0 H σ ops vs B) : OpVL K H0 H σ (pick is ops) (pick is vs) B := by
  have hz := opVL_zip h
  have e1 : (ops.zip vs).map (·.1) = ops := List.map_fst_zip (by omega)
  have e2 : (ops.zip vs).map (·.2) = vs := List.map_snd_zip (by omega)
  have h : OpVL K H0 H σ ((ops.zip vs).map (·.1)) ((ops.zip vs).map (·.2)) B := by rw [e1, e2]; exact h
  have hq : is.Perm (List.range (ops.zip vs).length) := by
    rw [List.length_zip, ← hz, Nat.min_self, hl]
    exact hp
  have := opVL_perm (pick_perm hq).symm h
  rw [← pick_map, ← pick_map, e1, e2] at this
  exact this
theorem pick_len {α : Type} {is : List Nat} {xs : List α} (hp : is.Perm (List.range is.length)) (hl : xs.length = is.length) : (pick is xs).length = xs.length := by
  have hq : is.Perm (List.range xs.length) := by rw [hl]; exact hp
  exact (pick_perm hq).length_eq
theorem aOf_mono {ua : UA} {K : PySem.W.Frag} {σ : L2.St} {H : Hp} {Q Q' : List V → Hp → Prop} (h : ∀ vs H', Q vs H' → Q' vs H') (t : aOf K ua σ H Q) : aOf K ua σ H Q' := by
  obtain ⟨env, A, H0, ops, env', s, e, k⟩ := t
  exact ⟨env, A, H0, ops, env', s, e, fun vs H0' H' A' B s' o one f => h _ _ (k vs H0' H' A' B s' o one f)⟩
theorem uaPick_ok {is : List Nat} {ua : UA} (hp : is.Perm (List.range is.length)) : ∀ σ H Q, aOf K (uaPick is ua) σ H Q → aOf K ua σ H fun vs H' => vs.length = is.length ∧ Q (pick is vs) H' := fun σ H Q t => by
  obtain ⟨env, A, H0, ops, env', s, e, k⟩ := t
  obtain ⟨⟨os, e1⟩, h1, e⟩ := Option.bind_eq_some_iff.mp e
  split at e
  · rename_i hl
    cases e
    exact ⟨env, A, H0, os, _, s, h1, fun vs H0' H' A' B s' o one f => ⟨(opVL_zip o).symm.trans hl, k _ H0' H' A' B s' (pick_ok hp hl o) one f⟩⟩
  · cases e
end
section
variable {X : Cx} {k n : Nat} {f : Addr} {fd : FuncData} {ps ks : List Str} {sp : Sp} {x : Str} {p pos : Pos} {t : TA} {ua : UA} {e : Expr} {nm : Option Str} {kpos : Pos} {kws : List Keyword} {u : U}
theorem pk_imp {e : List Keyword} {t t' : TA} (h : PK X e t) (k : ∀ σ H Q, t' σ H Q → t σ H Q) : PK X e t' := ⟨fun pos pins s σ H Q I q => h.run pos pins s σ H Q I (k σ H Q q)⟩
theorem gk_nil : PK X [] (aOf X.K uaNil) := pk_imp pk_nil fun σ H Q h => by
  obtain ⟨env, A, H0, ops, env', s, e, k⟩ := h
  cases e
  exact k [] H0 H A (fun _ => 0) s ⟨rfl, fun _ => rfl⟩ (fun b => s.one b) (Fr.refl fun b hb => hb)
theorem gk_cons (hu : PE X e (tOf X.K u)) (ha : PK X kws (aOf X.K ua)) : PK X (⟨nm, e, kpos⟩ :: kws) (aOf X.K (uaCons u ua)) := pk_imp (pk_cons hu ha) cons_ok
/-- the places of the names -/
structure KwAt (K : PySem.W.Frag) (fd : FuncData) (ps ks : List Str) (is : List Nat) : Prop where
  pm : is.Perm (List.range is.length)
  lk : ks.length = is.length
  to : ∀ (s : Shared) (ws : List Value), K.In s.heap → ws.length = is.length → BindsTo s fd ⟨[], ks.zip ws⟩ (ps.zip (pick is ws))
theorem vals_pick {vs : List V} {us : List Value} (r : Vals vs us) : ∀ is : List Nat, Vals (pick is vs) (pick is us)
  | [] => .nil
  | i :: is => by
    have ih := vals_pick r is
    unfold pick at ih ⊢
    rw [List.filterMap_cons, List.filterMap_cons]
    by_cases hi : i < vs.length
    · have hi2 : i < us.length := by rw [← r.length]; exact hi
      rw [List.getElem?_eq_getElem hi, List.getElem?_eq_getElem hi2]
      obtain ⟨u, e, ru⟩ := r.get (List.getElem?_eq_getElem hi)
      rw [List.getElem?_eq_getElem hi2] at e
      cases e
      exact .cons ru ih
    · rw [List.getElem?_eq_none (by omega), List.getElem?_eq_none (by rw [← r.length]; omega)]
      exact ih
theorem run_gk {is : List Nat} {pins : List (Addr × Obj)} {σ : L2.St} {H : Hp} {s : Shared} {Q : VK} {ws : List Value} {vs : List V} (F : FnG X.prog X.w X.K X.mg X.base k f fd ps sp) (hgd : X.A.guards = some []) (hr : Room k X.A) (hb : KwAt X.K fd ps ks is) (I : L2.Inv X pins σ H s) (r : Vals vs ws) (hl : vs.length = is.length) (h : sp (pick is vs) H Q E0) :
    wpAny (model X.prog X.w) X.A (call (.ref f) [] (ks.zip ws)) (L2.EP X pins σ Q) X.xe s := by
  have bt := hb.to s ws I.kIn (r.length.symm.trans hl)
  refine wpAny_call (codeAny_mono (F.run X.A X.stack s H ⟨[], ks.zip ws⟩ (pick is ws) (pick is vs) Q E0 hgd hr I.env0 bt (vals_pick r is) h) fun res s' hq => ?_)
  match res, hq with
  | .error _, hq => exact hq.elim
  | .ok (.ret _), hq => exact I.after hq
  | .ok .next, hq => exact hq.elim
  | .ok .brk, hq => exact hq.elim
  | .ok .cont, hq => exact hq.elim
def tCallKw (sp : Sp) (is : List Nat) (t : TA) : TE := fun σ H Q => t σ H fun vs H1 => vs.length = is.length ∧ sp (pick is vs) H1 Q E0
theorem pe_callKw {is : List Nat} (F : FnG X.prog X.w X.K X.mg X.base k f fd ps sp) (hgd : X.A.guards = some []) (hr : Room k X.A) (hm : X.mg x = some (.ref f)) (hk : PySem.W.keepIn X.K (.ref f) = true) (hb : KwAt X.K fd ps ks is) (ha : PK X kws t) (hg : Gl X x) (hdb : (x == ("__debug__" : Str)) = false)
    (hall : (backToKw pos (keywordEach kws X.env)).all (·.1.isSome) = true) (hks : (backToKw pos (keywordEach kws X.env)).filterMap (·.1) = ks)
    (hpl : ((backTo pos (starEach [] X.env)).any (·.1) || (backToKw pos (keywordEach kws X.env)).any (·.1.isNone)) = false) : PE X (.Call (.Name x p) [] kws pos) (tCallKw sp is t) := by
  refine ⟨fun pins s σ H Q I h => wpAny_Call_Name_kw (ld_glob I hg hm ?_ hdb)⟩
  refine PySem.W.callWith_KW0 (h₀ := X.base) I.ok.mod.kin hk hall (thn (ha.run pos pins s σ H _ I h) fun ws s1 hv => ?_) hpl
  obtain ⟨vs, H1, I1, r, hl, q⟩ := hv
  refine ⟨I1.kIn, ?_⟩
  rw [hks]
  exact run_gk F hgd hr hb I1 r hl q
theorem callKw_ok {F : Fn} {is : List Nat} (hp : is.Perm (List.range is.length)) (hF : ∀ ms r, F ms = some r → ms.length = n) {K : PySem.W.Frag} : ∀ σ H Q, tOf K (uCall F (uaPick is ua)) σ H Q → tCallKw (spG K n F) is (aOf K ua) σ H Q := fun σ H Q h => by
  have h1 := uaPick_ok hp _ _ _ (call_ok hF σ H Q h)
  refine aOf_mono (fun vs H' h => ?_) h1
  rw [List.append_nil] at h
  exact h
theorem g_callKw {F : Fn} {is : List Nat} (hF : ∀ ms r, F ms = some r → ms.length = n) (GF : FnG X.prog X.w X.K X.mg X.base k f fd ps (spG X.K n F)) (hgd : X.A.guards = some []) (hr : Room k X.A) (hm : X.mg x = some (.ref f)) (hk : PySem.W.keepIn X.K (.ref f) = true) (hb : KwAt X.K fd ps ks is) (ha : PK X kws (aOf X.K ua))
    (hg : Gl X x := by rfl) (hdb : (x == ("__debug__" : Str)) = false := by decide) (hall : (backToKw pos (keywordEach kws X.env)).all (·.1.isSome) = true := by rfl) (hks : (backToKw pos (keywordEach kws X.env)).filterMap (·.1) = ks := by rfl)
    (hpl : ((backTo pos (starEach [] X.env)).any (·.1) || (backToKw pos (keywordEach kws X.env)).any (·.1.isNone)) = false := by rfl) :
    PE X (.Call (.Name x p) [] kws pos) (tOf X.K (uCall F (uaPick is ua))) := pe_imp (pe_callKw GF hgd hr hm hk hb ha hg hdb hall hks hpl) (callKw_ok hb.pm hF)
/-- a def that is not reached any more: the end of an unrolled recursion -/
def fNo : Fn := fun _ => none
theorem fNo_len {n : Nat} : ∀ ms r, fNo ms = some r → ms.length = n := fun _ _ h => by cases h
theorem fNo_ok {P : Program} {w : World} {K : PySem.W.Frag} {mg : Str → Option Value} {base : Heap} {n : Nat} (hl : n = ps.length) : FnG P w K mg base k f fd ps (spG K n fNo) where
  len := fun vs H Q E h => h.1.trans hl
  run := fun A outer s H args us vs Q E _ _ _ _ _ h => by
    obtain ⟨_, ms, H0, A0, r, outs, _, _, _, e, _⟩ := h
    cases e
end
end G

/-! G16: three at once; the places of names. -/
namespace G
open PySem PySem.Spec PyProof.Rows L2
/-- a, b, c = x, y, z -/
def sPar3 (i j l : Nat) (ua : UA) : S := fun env => (ua env).bind fun q => (takeL q.2 q.1).bind fun r => match r.1 with
  | [m, n, o] => if decide (i < r.2.length) && decide (j < r.2.length) && decide (l < r.2.length) then some (.nx (((r.2.set i (some m)).set j (some n)).set l (some o))) else none
  | _ => none
section
variable {K : PySem.W.Frag} {np : Nat} {H0 H H0' H' : Hp} {σ σ' : L2.St} {env env' : Env} {A A' B C : Fp} {D : Ends}
theorem par3_okS {i j l : Nat} {ua : UA} (hi : np ≤ i) (hj : np ≤ j) (hl : np ≤ l) : ∀ D σ H, sOf K np (sPar3 i j l ua) D σ H → tPar3 i j l (aOf K ua) D σ H := fun D σ H h => by
  obtain ⟨env, A, H0, o, s, e, k⟩ := h
  obtain ⟨⟨ops, e1⟩, h1, e⟩ := Option.bind_eq_some_iff.mp e
  obtain ⟨⟨ms, e2⟩, h2, e⟩ := Option.bind_eq_some_iff.mp e
  split at e
  case h_2 => cases e
  rename_i m n q hmn
  have hmn : ms = [m, n, q] := hmn
  subst hmn
  split at e
  case isFalse => cases e
  rename_i hz
  rw [Bool.and_eq_true, Bool.and_eq_true, decide_eq_true_eq, decide_eq_true_eq, decide_eq_true_eq] at hz
  cases e
  refine ⟨env, A, H0, ops, e1, s, h1, fun vs H1' H1 A1 B1 s1 o1 one1 g1 => ?_⟩
  obtain ⟨H2', A2, B2, s2, r2, a2, b2, g2⟩ := takeL_fr s1 o1 one1 h2
  obtain ⟨v, vr, C1, C2, rfl, r3, r4, ea⟩ := r2
  obtain ⟨w, wr, C3, C4, rfl, r5, r7, eb⟩ := r4
  obtain ⟨x, xr, C5, C6, rfl, r8, ⟨rfl, r6⟩, ec⟩ := r7
  have oneB : ∀ b, A2 b + C1 b + C3 b + C5 b ≤ 1 := fun b => by have := one1 b; have := a2 b; have := b2 b; rw [ea b, eb b, ec b] at *; omega
  obtain ⟨A3, s3, l3⟩ := stt_set s2 r3 (fun b => by have := oneB b; omega) hz.1.1
  obtain ⟨A4, s4, l4⟩ := stt_set (i := j) s3 r5 (fun b => by have := oneB b; have := l3 b; omega) (by rw [List.length_set]; exact hz.1.2)
  obtain ⟨A5, s5, l5⟩ := stt_set (i := l) s4 r8 (fun b => by have := oneB b; have := l3 b; have := l4 b; omega) (by rw [List.length_set, List.length_set]; exact hz.2)
  refine ⟨v, w, x, rfl, k _ H2' H1 A5 s5 ?_ fun kk hk => ?_⟩
  · have g12 := g1.trans g2 (E := fun b => A2 b + B2 b) (fun b hb => by show 0 < A1 b + B1 b; omega) fun b hb => by
      have hb : 0 < A2 b + B2 b := hb
      have := a2 b
      have := b2 b
      exact .inl (by show 0 < A1 b + B1 b; omega)
    refine g12.weak fun b hb => ?_
    have := l3 b; have := l4 b; have := l5 b
    show 0 < A2 b + B2 b
    rw [ea b, eb b, ec b]
    omega
  · rw [List.getElem?_set_ne (by omega), List.getElem?_set_ne (by omega), List.getElem?_set_ne (by omega)]
end
section
variable {X : Cx} {np : Nat} {ua : UA}
theorem gs_par3 {i j l : Nat} {x y z : Str} {a b c : Expr} {px py pz pt pos : Pos} {kt k2 pt2} (hc : X.calm = true) (hN : X.N.Nodup) (ha : PA X [a, b, c] (aOf X.K ua)) (hi : X.N[i]? = some x := by rfl) (hj : X.N[j]? = some y := by rfl) (hl : X.N[l]? = some z := by rfl)
    (hij : i ≠ j := by decide) (hil : i ≠ l := by decide) (hjl : j ≠ l := by decide) (npi : np ≤ i := by decide) (npj : np ≤ j := by decide) (npl : np ≤ l := by decide)
    (hx : X.env.scope.names.lookup x = some .local := by rfl) (hy : X.env.scope.names.lookup y = some .local := by rfl) (hz : X.env.scope.names.lookup z = some .local := by rfl)
    (hw : swappedStores [.Tuple [.Name x px, .Name y py, .Name z pz] kt pt] (.Tuple [a, b, c] k2 pt2) X.env = pure (some [x, y, z]) := by rfl)
    (hs : swapsWithSole [.Tuple [.Name x px, .Name y py, .Name z pz] kt pt] (.Tuple [a, b, c] k2 pt2) pos.line X.env = pure false := by rfl) :
    PS X (.Assign [.Tuple [.Name x px, .Name y py, .Name z pz] kt pt] (.Tuple [a, b, c] k2 pt2) pos) (sOf X.K np (sPar3 i j l ua)) :=
  ps_imp (ps_par3 hc hN hi hj hl hij hil hjl hx hy hz ha hw hs) (par3_okS npi npj npl)
end
theorem Fun.kwAt {K : PySem.W.Frag} {x qual : Str} {st : Stmt} {f : Addr} {fd : FuncData} {ps ks : List Str} {is : List Nat} (F : L2.Fun K x qual st f fd) (pm : is.Perm (List.range is.length)) (lk : ks.length = is.length)
    (h : ∀ (kV doc pm : Value) (an : Option Addr) (cdv ct : Value) (ws : List Value), ws.length = is.length → bindArgs (PySem.W.fnOf x qual (defArgs st) (defBody st) (defScope st) .none kV doc pm an cdv ct) ⟨[], ks.zip ws⟩ = pure (ps.zip (pick is ws))) : KwAt K fd ps ks is := by
  obtain ⟨oc, od, kV, doc, pm', an, cdv, ct, osl, rfl, lk', hcd⟩ := F.ex
  exact ⟨pm, lk, fun s ws _ hl => .of_eq (h kV doc pm' an cdv ct ws hl)⟩
end G

/-! G17: data that may be shown and compared. -/
namespace G
open PySem PySem.Spec PyProof.Rows L2
/-- texts that laws hold -/
def known : List Str := ["", "0", "more", "order", "ring", "a", "told", "ringed", "many", "none", "two", "lot", "nothing", "stuck"]
mutual
/-- ints, bools, None, known texts, in lists and tuples -/
def noS : PyData → Bool
  | .none => true
  | .bool _ => true
  | .int i => decide (i.natAbs < 10 ^ 12)
  | .str x => known.contains x
  | .dict _ => false
  | .list xs => noSs xs
  | .tuple xs => noSs xs
def noSs : List PyData → Bool
  | [] => true
  | x :: xs => noS x && noSs xs
end
theorem noSs_iff : ∀ {xs : List PyData}, noSs xs = true ↔ ∀ x, x ∈ xs → noS x = true
  | [] => by simp [noSs]
  | x :: xs => by simp [noSs, noSs_iff (xs := xs)]
theorem mem_app {k : Nat} {a b : Str} : k ∈ (a ++ b).cps.toList ↔ k ∈ a.cps.toList ∨ k ∈ b.cps.toList := mem_cps_append
theorem big_not {k : Nat} (hk : 200 ≤ k) {l : List Nat} (h : l.all (· < 200) = true) : k ∉ l := fun hm => by
  have := List.all_eq_true.mp h k hm
  have := of_decide_eq_true this
  omega
mutual
theorem big_free {k : Nat} (hk : 200 ≤ k) : ∀ d : PyData, noS d = true → k ∉ d.shown.cps.toList
  | .none, h => by rw [PyData.shown_none]; exact big_not hk (by decide)
  | .bool b, h => by rw [PyData.shown_bool]; cases b <;> exact big_not hk (by decide)
  | .int i, h => shown_int_free' ⟨by omega, by omega⟩ i
  | .str x, h => by
    have hx : x ∈ known := by simpa [noS] using h
    have a : ∀ x ∈ known, (PyData.str x).shown.cps.toList.all (· < 200) = true := by decide +kernel
    exact big_not hk (a x hx)
  | .dict x, h => by simp [noS] at h
  | .list xs, h => by
    have h' : noSs xs = true := by simpa [noS] using h
    have a := bigs_free hk xs h'
    rw [PyData.shown_list, mem_app, mem_app, mem_join]
    rintro ((z | z | z) | z)
    · exact big_not hk (by decide) z
    · obtain ⟨t, ht, z⟩ := z
      exact shownAll_free a t ht z
    · exact big_not hk (by decide) z.2
    · exact big_not hk (by decide) z
  | .tuple xs, h => by
    have h' : noSs xs = true := by simpa [noS] using h
    have a := bigs_free hk xs h'
    rw [PyData.shown_tuple, mem_app, mem_app, mem_join]
    rintro ((z | z | z) | z)
    · exact big_not hk (by decide) z
    · obtain ⟨t, ht, z⟩ := z
      exact shownAll_free a t ht z
    · exact big_not hk (by decide) z.2
    · split at z <;> exact big_not hk (by decide) z
theorem bigs_free {k : Nat} (hk : 200 ≤ k) : ∀ xs : List PyData, noSs xs = true → ∀ x, x ∈ xs → k ∉ x.shown.cps.toList
  | [], _, x, hx => absurd hx (by simp)
  | y :: ys, h, x, hx => by
    have h' : noS y = true ∧ noSs ys = true := by simpa [noSs] using h
    rcases List.mem_cons.mp hx with e | hx
    · rw [e]; exact big_free hk y h'.1
    · exact bigs_free hk ys h'.2 x hx
end
theorem ok_shown {d : PyData} (h : noS d = true) : okD (.str d.shown) = true := by
  have e : PyData.strOk d.shown = true := by
    unfold PyData.strOk
    rw [Array.all_eq_true_iff_forall_mem]
    intro x hx
    by_cases z : 200 ≤ x
    · exact absurd (Array.mem_toList_iff.mpr hx) (big_free z d h)
    · exact decide_eq_true (by omega)
  simp [okD, SeqAt.shaped, PyData.canLay0, PyData.depth, e]
mutual
theorem noS_lay : ∀ d : PyData, noS d = true → d.canLay0 = true ∧ d.intsShort 13 = true ∧ d.showable = true ∧ d.hasDict = false
  | .none, h => by simp [PyData.canLay0, PyData.intsShort, PyData.showable, PyData.hasDict]
  | .bool b, h => by simp [PyData.canLay0, PyData.intsShort, PyData.showable, PyData.hasDict]
  | .int i, h => by
    have h' : i.natAbs < 10 ^ 12 := by simpa [noS] using h
    have e1 : (PyData.shown (.int i)).length ≤ 13 := by
      rw [PyData.shown_int]
      have := int_text_length_le10 (a := i) (k := 12) (by decide) h'
      rw [PySem.ofString_length]
      omega
    have e2 : i.natAbs.log2 < 1920 := by
      by_cases z : i.natAbs = 0
      · rw [z]; decide
      · exact (Nat.log2_lt z).mpr (Nat.lt_of_lt_of_le (Nat.lt_trans h' (show 10 ^ 12 < 2 ^ 40 by decide)) (Nat.pow_le_pow_right (by decide) (by decide)))
    simp [PyData.canLay0, PyData.intsShort, PyData.showable, PyData.hasDict, e1, e2]
  | .str x, h => by
    have hx : x ∈ known := by simpa [noS] using h
    have a : ∀ x ∈ known, PyData.canLay0 (.str x) = true ∧ PyData.intsShort 13 (.str x) = true ∧ PyData.showable (.str x) = true ∧ PyData.hasDict (.str x) = false := by decide +kernel
    exact a x hx
  | .dict x, h => by simp [noS] at h
  | .list xs, h => by
    have h' : noSs xs = true := by simpa [noS] using h
    have := noSs_lay xs h'
    simpa [PyData.canLay0, PyData.intsShort, PyData.showable, PyData.hasDict] using this
  | .tuple xs, h => by
    have h' : noSs xs = true := by simpa [noS] using h
    have := noSs_lay xs h'
    simpa [PyData.canLay0, PyData.intsShort, PyData.showable, PyData.hasDict] using this
theorem noSs_lay : ∀ xs : List PyData, noSs xs = true → PyData.canLayAll0 xs = true ∧ PyData.intsShortAll 13 xs = true ∧ PyData.showableAll xs = true ∧ PyData.hasDictAll xs = false
  | [], _ => by simp [PyData.canLayAll0, PyData.intsShortAll, PyData.showableAll, PyData.hasDictAll]
  | y :: ys, h => by
    have h' : noS y = true ∧ noSs ys = true := by simpa [noSs] using h
    have a := noS_lay y h'.1
    have b := noSs_lay ys h'.2
    simp [PyData.canLayAll0, PyData.intsShortAll, PyData.showableAll, PyData.hasDictAll, a, b]
end
/-- of depth n at most, of weight k at most -/
structure Sm (n k : Nat) (d : PyData) : Prop where
  s : noS d = true
  dp : d.depth ≤ n
  wt : d.weight ≤ k
theorem Sm.ok {n k : Nat} {d : PyData} (h : Sm n k d) (hn : n ≤ 64 := by decide) : okD d = true := by
  have := (noS_lay d h.s).1
  have := h.dp
  simp [okD, SeqAt.shaped]
  exact ⟨by assumption, by omega⟩
theorem Sm.shown {n k : Nat} {d : PyData} (h : Sm n k d) (hn : n ≤ 64 := by decide) (hk : k ≤ 1048576 := by decide) : showOk d = true ∧ okD (.str d.shown) = true := by
  refine ⟨?_, ok_shown h.s⟩
  obtain ⟨a, b, c, e⟩ := noS_lay d h.s
  have d1 := h.dp
  have d2 := h.wt
  have lay : PyData.layable0 d = true := by
    have e1 : decide (PyData.depth d ≤ 64) = true := decide_eq_true (by omega)
    have e2 : decide (PyData.weight d ≤ 2 ^ 20) = true := decide_eq_true (by omega)
    unfold PyData.layable0
    rw [a, e1, e2]
    rfl
  have l := shown_le13 lay b
  have l1 : d.depth ≤ 64 := by omega
  have l2 : d.shown.length ≤ sizeLine := by rw [sizeLine_eq]; omega
  unfold showOk
  rw [c, e, decide_eq_true l1, decide_eq_true l2]
  rfl
theorem Sm.int {i : Int} (h : i.natAbs < 10 ^ 12) : Sm 0 40 (.int i) := by
  refine ⟨by simpa [noS] using h, by simp [PyData.depth], ?_⟩
  unfold PyData.weight
  split
  · omega
  · rename_i z
    have z' : i.natAbs ≠ 0 := by simpa using z
    have : i.natAbs.log2 < 40 := (Nat.log2_lt z').mpr (Nat.lt_trans h (by decide))
    omega
theorem Sm.str {x : Str} (h : known.contains x = true) : Sm 0 40 (.str x) := by
  have hx : x ∈ known := by simpa using h
  have a : ∀ x ∈ known, PyData.depth (.str x) ≤ 0 ∧ PyData.weight (.str x) ≤ 40 := by decide +kernel
  exact ⟨by simpa [noS] using hx, (a x hx).1, (a x hx).2⟩
theorem Sm.bl {b : Bool} : Sm 0 40 (.bool b) := by cases b <;> exact ⟨by decide +kernel, by decide +kernel, by decide +kernel⟩
theorem Sm.non : Sm 0 40 .none := ⟨by decide +kernel, by decide +kernel, by decide +kernel⟩
theorem Sm.mono {n k n' k' : Nat} {d : PyData} (h : Sm n k d) (hn : n ≤ n') (hk : k ≤ k') : Sm n' k' d := ⟨h.s, Nat.le_trans h.dp hn, Nat.le_trans h.wt hk⟩
theorem sm_all {n k : Nat} : ∀ {xs : List PyData}, (∀ x, x ∈ xs → Sm n k x) → noSs xs = true ∧ PyData.depthAll xs ≤ n ∧ PyData.weightAll xs ≤ xs.length * (k + 1)
  | [], _ => by simp [noSs, PyData.depthAll, PyData.weightAll]
  | x :: xs, h => by
    obtain ⟨a, b, c⟩ := sm_all fun y hy => h y (List.mem_cons_of_mem _ hy)
    have z := h x (List.mem_cons_self ..)
    have d1 := z.dp
    have d2 := z.wt
    refine ⟨by simp [noSs, z.s, a], by unfold PyData.depthAll; omega, ?_⟩
    unfold PyData.weightAll
    rw [List.length_cons, Nat.add_mul]
    omega
theorem Sm.tup {n k m : Nat} {xs : List PyData} (h : ∀ x, x ∈ xs → Sm n k x) (hl : xs.length ≤ m) : Sm (n + 1) (m * (k + 1)) (.tuple xs) := by
  obtain ⟨a, b, c⟩ := sm_all h
  refine ⟨by simpa [noS] using a, by unfold PyData.depth; omega, ?_⟩
  unfold PyData.weight
  exact Nat.le_trans c (Nat.mul_le_mul_right _ hl)
theorem Sm.lst {n k m : Nat} {xs : List PyData} (h : ∀ x, x ∈ xs → Sm n k x) (hl : xs.length ≤ m) : Sm (n + 1) (m * (k + 1)) (.list xs) := by
  obtain ⟨a, b, c⟩ := sm_all h
  refine ⟨by simpa [noS] using a, by unfold PyData.depth; omega, ?_⟩
  unfold PyData.weight
  exact Nat.le_trans c (Nat.mul_le_mul_right _ hl)
mutual
theorem eqv_self : ∀ d : PyData, noS d = true → PyData.eqv d d = true
  | .none, h => by simp [PyData.eqv]
  | .bool b, h => by simp [PyData.eqv]
  | .int b, h => by simp [PyData.eqv]
  | .str b, h => by simp [PyData.eqv]
  | .dict b, h => by simp [noS] at h
  | .list b, h => by simp only [PyData.eqv]; exact eqvs_self b (by simpa [noS] using h)
  | .tuple b, h => by simp only [PyData.eqv]; exact eqvs_self b (by simpa [noS] using h)
theorem eqvs_self : ∀ d : List PyData, noSs d = true → PyData.eqvAll d d = true
  | [], h => by simp [PyData.eqvAll]
  | x :: xs, h => by
    have h' : noS x = true ∧ noSs xs = true := by simpa [noSs] using h
    simp only [PyData.eqvAll, eqv_self x h'.1, eqvs_self xs h'.2, Bool.and_self]
end
end G

/-! G18: zip over lists and tuples, in any mixture; enumerate over a tuple. -/
namespace G
open PySem PySem.Spec PyProof.Rows L2
/-- a list (true) or a tuple (false) -/
def SqK (k : Bool) (K : PySem.W.Frag) (H : Hp) (a : Addr) (xs : List V) : Prop := match k with
  | true => SqL K H a xs
  | false => SqT K H a xs
def ItAt (k : Bool) (h : Heap) (it l : Addr) (i : Nat) : Prop := match k with
  | true => h.IsListIter it l i
  | false => h.IsTupleIter it l i
def ObAt (k : Bool) (h : Heap) (l : Addr) (its : Array Value) : Prop := match k with
  | true => h.IsList l its
  | false => h.IsTuple l its
theorem ItAt.at {k : Bool} {h h' : Heap} {it l : Addr} {i : Nat} (st : ItAt k h it l i) (e : ∀ o, h.get? it = some o → h'.get? it = some o) : ItAt k h' it l i := by
  cases k
  · exact Heap.IsTupleIter.at st e
  · exact Heap.IsListIter.at st e
theorem ItAt.obj {k : Bool} {h : Heap} {it l : Addr} {i : Nat} (st : ItAt k h it l i) : ∃ o, h.get? it = some o ∧ ∀ v, o.data ≠ .cell v := by
  cases k <;> obtain ⟨o, e, _, d⟩ := st <;> exact ⟨o, e, fun v q => by rw [d] at q; cases q⟩
theorem side {prog : Program} {w : World} {A : Around} {k : Bool} {it l : Addr} (hh : A.handled = none) (hne : l ≠ it) (its : Array Value) :
    ∃ (St : Nat → Heap → Prop), Draws prog w A it [it, l] its.size (fun i v => its[i]? = some v) St ∧ (∀ i h, ItAt k h it l i → ObAt k h l its → St i h) ∧ ∀ i h, St i h → ItAt k h it l i := by
  cases k
  · exact ⟨_, Draws.tuple hh it l hne its, fun i h a b => ⟨a, b⟩, fun i h a => a.1⟩
  · exact ⟨_, Draws.list hh it l hne its, fun i h a b => ⟨a, b⟩, fun i h a => a.1⟩
section
variable {X : Cx} {pins : List (Addr × Obj)} {σ : L2.St} {H : Hp} {s : Shared} {k : Bool} {a : Addr} {xs ys : List V}
theorem inv_sq (I : Inv X pins σ H s) (h : SqK k X.K H a xs) : ∃ its : List Value, Vals xs its ∧ ObAt k s.heap a its.toArray ∧ xs.length ≤ sizeLine ∧ a < s.heap.objs.size := by
  cases k
  · obtain ⟨its, r, p, z⟩ := I.tuple h
    obtain ⟨o, e, _⟩ := id p
    exact ⟨its, r, p, z, Heap.lt_size e⟩
  · obtain ⟨its, r, p, z⟩ := I.list h
    exact ⟨its, r, p.isList, z, p.lt⟩
theorem inv_sq_inj (I : Inv X pins σ H s) (h : SqK k X.K H a xs) (h' : SqK k X.K H a ys) : xs = ys := by
  cases k
  · exact I.tuple_inj h h'
  · exact I.list_inj h h'
end
def ItzK (k1 k2 : Bool) (K : PySem.W.Frag) (a b : Addr) : It :=
  ⟨fun i H => ∃ (xs ys : List V) (x y : V), SqK k1 K H a xs ∧ SqK k2 K H b ys ∧ xs[i]? = some x ∧ ys[i]? = some y,
    fun i H v H' => ∃ T x y, v = .ref T ∧ H T = none ∧ H' = upd H T (.tup [x, y]) ∧ (∀ xs, SqK k1 K H a xs → xs[i]? = some x) ∧ ∀ ys, SqK k2 K H b ys → ys[i]? = some y,
    fun i H => ∃ xs ys : List V, SqK k1 K H a xs ∧ SqK k2 K H b ys ∧ i ≤ xs.length ∧ i ≤ ys.length ∧ (i = xs.length ∨ i = ys.length)⟩
structure Apart (z TI TO i1 i2 l1 l2 : Addr) : Prop extends ZipApart z TI TO i1 i2 l1 l2
theorem sep_of {z TI TO i1 i2 l1 l2 : Addr} (D : ZipApart z TI TO i1 i2 l1 l2) : ZipSep2 z TI TO i1 i2 [i1, l1] [i2, l2] where
  TIz := D.TIz
  TOz := D.TOz
  TITO := D.TITO
  TIi1 := D.TIi1
  mem1 := by simp
  zf1 := by simp; exact ⟨D.i1z.symm, D.l1z.symm⟩
  Tf1 := by simp; exact ⟨D.TOi1, D.l1TO.symm⟩
  TIi2 := D.TIi2
  mem2 := by simp
  zf2 := by simp; exact ⟨D.i2z.symm, D.l2z.symm⟩
  Tf2 := by simp; exact ⟨D.TOi2, D.l2TO.symm⟩
  sep1_2 := by simp; exact ⟨D.i12, D.l2i1.symm⟩
  sep2_1 := by simp; exact ⟨D.i12.symm, D.l1i2.symm⟩
theorem turn_zipK {P : Program} {w : World} {K : PySem.W.Frag} {elts : List Expr} {kk : Nat} {tpos : Pos} {a b z TI TO i1 i2 : Addr} {k1 k2 : Bool} (D : ZipApart z TI TO i1 i2 a b) :
    Turn P w K (.Tuple elts kk tpos) (ItzK k1 k2 K a b) [z, TI, TO, i1, i2] z (fun i h => IsZip h z TI TO .none ∧ IsPair h TI (.ref i1) (.ref i2) ∧ (∃ x y, IsPair h TO x y) ∧ ItAt k1 h i1 a i ∧ ItAt k2 h i2 b i) where
  mem := by simp
  obj := fun i h st c hc => by
    obtain ⟨hz, hTI, ⟨x, y, hTO⟩, h1, h2⟩ := st
    have e' : c = z ∨ c = TI ∨ c = TO ∨ c = i1 ∨ c = i2 := by simpa using hc
    rcases e' with q | q | q | q | q
    · rw [q]; exact ⟨_, hz, fun v q => nomatch q⟩
    · rw [q]; exact ⟨_, hTI, fun v q => nomatch q⟩
    · rw [q]; exact ⟨_, hTO, fun v q => nomatch q⟩
    · rw [q]; exact h1.obj
    · rw [q]; exact h2.obj
  keep := fun i h h' st k => by
    obtain ⟨hz, hTI, ⟨x, y, hTO⟩, h1, h2⟩ := st
    exact ⟨k z (by simp) _ hz, k TI (by simp) _ hTI, ⟨x, y, k TO (by simp) _ hTO⟩, h1.at fun o q => k i1 (by simp) o q, h2.at fun o q => k i2 (by simp) o q⟩
  item := by
    intro X hP hw hK hc i pins s σ H E I hf st hg
    subst hP hw hK
    obtain ⟨hz, hTI, ⟨x0, y0, hTO⟩, h1, h2⟩ := st
    obtain ⟨xs, ys, x, y, hqx, hqy, hx, hy⟩ := hg
    obtain ⟨its, rv, p, _, _⟩ := inv_sq I hqx
    obtain ⟨its2, rv2, p2, _, _⟩ := inv_sq I hqy
    obtain ⟨u, hu, ru⟩ := rv.get hx
    obtain ⟨u2, hu2, ru2⟩ := rv2.get hy
    have hzl : z < s.heap.objs.size := Heap.lt_size hz
    have hd : X.A.in1.handled = none := I.ok.hd hc
    obtain ⟨S1, D1, in1, out1⟩ := side (prog := X.prog) (w := X.w) (k := k1) hd D.l1i1 its.toArray
    obtain ⟨S2, D2, in2, out2⟩ := side (prog := X.prog) (w := X.w) (k := k2) hd D.l2i2 its2.toArray
    have hlt1 : i < its.toArray.size := by
      have := (List.getElem?_eq_some_iff.mp hu).1
      simpa using this
    have hlt2 : i < its2.toArray.size := by
      have := (List.getElem?_eq_some_iff.mp hu2).1
      simpa using this
    refine wpAny_pyNext_zipD2_item (sep_of D) D1 D2 hz hTI hTO (in1 i _ h1 p) (in2 i _ h2 p2) hlt1 hlt2 fun v1 v2 h' tk e1 e2 z' TO' h1' h2' hT hsz hk => ?_
    have e1 : u = v1 := by
      have e1 : its.toArray[i]? = some v1 := e1
      rw [List.getElem?_toArray, hu] at e1
      exact Option.some.inj e1
    have e2 : u2 = v2 := by
      have e2 : its2.toArray[i]? = some v2 := e2
      rw [List.getElem?_toArray, hu2] at e2
      exact Option.some.inj e2
    subst e1 e2
    refine ⟨_, rfl, wpAny_letOwnedTupleGo_zip (s := { s with heap := h', toks := tk }) z' fun h'' z'' sb => ?_⟩
    have hT2 : h''.get? s.heap.objs.size = some { cls := .type "tuple", data := .seq #[u, u2] } := (sb.2 _ (Nat.ne_of_gt hzl)).trans hT
    have new : ObjOk X.prog X.w (upd H s.heap.objs.size (.tup [x, y])) h'' s.heap.objs.size (.tup [x, y]) :=
      ⟨by show 2 ≤ sizeLine; decide, [u, u2], .cons ru (.cons ru2 .nil), ⟨_, hT2, rfl, _, rfl⟩⟩
    have I1 : Inv X pins σ (upd H s.heap.objs.size (.tup [x, y])) { s with heap := h'', toks := tk } :=
      I.turnedNew (t' := tk) (ch := [z, TI, TO, i1, i2]) (fun c o hb q => (sb.2 c (fun q' => hb (by simp [q']))).trans (hk c o (fun q' => hb (by simp [q'])) (fun q' => hb (by simp [q'])) (fun q' => hb (by simp [q'])) (fun q' => hb (by simp [q'])) q)) hf (Nat.le_refl _) new
    refine ⟨.ref s.heap.objs.size, _, I1, rfl, ⟨_, x, y, rfl, I.hok.fresh (Nat.le_refl _), rfl, fun l hl => by rw [inv_sq_inj I hl hqx]; exact hx, fun l hl => by rw [inv_sq_inj I hl hqy]; exact hy⟩, ⟨z'', ?_, ⟨u, u2, ?_⟩, ?_, ?_⟩, fun c hcm => ?_⟩
    · exact (sb.2 _ D.TIz).trans (hk _ _ D.TIz D.TITO D.TIi1 D.TIi2 hTI)
    · exact (sb.2 _ D.TOz).trans TO'
    · exact (out1 _ _ h1').at fun o q => (sb.2 _ D.i1z).trans q
    · exact (out2 _ _ h2').at fun o q => (sb.2 _ D.i2z).trans q
    · have hlt : c < s.heap.objs.size := by
        have e' : c = z ∨ c = TI ∨ c = TO ∨ c = i1 ∨ c = i2 := by simpa using hcm
        rcases e' with q | q | q | q | q
        · rw [q]; exact hzl
        · rw [q]; exact Heap.lt_size hTI
        · rw [q]; exact Heap.lt_size hTO
        · rw [q]; obtain ⟨_, e1, _⟩ := h1.obj; exact Heap.lt_size e1
        · rw [q]; obtain ⟨_, e2, _⟩ := h2.obj; exact Heap.lt_size e2
      rw [upd_ne (Nat.ne_of_lt hlt)]
      exact (hf c hcm).1
  done := by
    intro X hP hw hK hc i pins s σ H E I hf st hg
    subst hP hw hK
    obtain ⟨hz, hTI, ⟨x0, y0, hTO⟩, h1, h2⟩ := st
    obtain ⟨xs, ys, hqx, hqy, le1, le2, hend⟩ := hg
    obtain ⟨its, rv, p, _, _⟩ := inv_sq I hqx
    obtain ⟨its2, rv2, p2, _, _⟩ := inv_sq I hqy
    have l1 := rv.length
    have l2 := rv2.length
    have hd : X.A.in1.handled = none := I.ok.hd hc
    obtain ⟨S1, D1, in1, out1⟩ := side (prog := X.prog) (w := X.w) (k := k1) hd D.l1i1 its.toArray
    obtain ⟨S2, D2, in2, out2⟩ := side (prog := X.prog) (w := X.w) (k := k2) hd D.l2i2 its2.toArray
    have sz1 : its.toArray.size = xs.length := by simp; omega
    have sz2 : its2.toArray.size = ys.length := by simp; omega
    exact wpAny_pyNext_zipD2_end (sep_of D) D1 D2 hz hTI hTO (in1 i _ h1 p) (in2 i _ h2 p2) (by omega) (by omega) (by omega) fun h' tk hk => ⟨rfl, I.turnedL (t' := tk) (ch := [z, TI, TO, i1, i2]) (fun c o hb q =>
      hk c o (fun q' => hb (by simp [q'])) (fun q' => hb (by simp [q'])) (fun q' => hb (by simp [q'])) (fun q' => hb (by simp [q'])) q) hf⟩
  self := fun A i s Q E st h => wpAny_pyIter_zip st.1 h

/-! ### zip made -/
def itN (k : Bool) : String := if k then "list_iterator" else "tuple_iterator"
abbrev zH1 (k1 : Bool) (h : Heap) (l1 : Addr) : Heap := h.push { cls := .type (itN k1), data := .fields #[.ref l1, .int 0 0] }
abbrev zH2 (k1 k2 : Bool) (h : Heap) (l1 l2 : Addr) : Heap := (zH1 k1 h l1).push { cls := .type (itN k2), data := .fields #[.ref l2, .int 0 0] }
abbrev zH3 (k1 k2 : Bool) (h : Heap) (l1 l2 : Addr) : Heap := (zH2 k1 k2 h l1 l2).push { cls := .type "tuple", data := .seq #[.ref h.objs.size, .ref (zH1 k1 h l1).objs.size] }
abbrev zH4 (k1 k2 : Bool) (h : Heap) (l1 l2 : Addr) : Heap := (zH3 k1 k2 h l1 l2).push { cls := .type "tuple", data := .seq #[.none, .none] }
abbrev zH5 (k1 k2 : Bool) (h : Heap) (l1 l2 : Addr) : Heap := (zH4 k1 k2 h l1 l2).push { cls := .type "zip", data := .fields #[.none, .bool false, .bool false, .ref (zH2 k1 k2 h l1 l2).objs.size, .ref (zH3 k1 k2 h l1 l2).objs.size] }
theorem meets_zipK_new (k1 k2 : Bool) (l1 l2 : Addr) (xs ys : Array Value) :
    Meets (Builtin.«zip.__new__» ⟨[.type "zip", .ref l1, .ref l2], []⟩) (fun _ R s => ObAt k1 s.heap l1 xs ∧ ObAt k2 s.heap l2 ys ∧
      R (.ok (.ret (.ref (zH4 k1 k2 s.heap l1 l2).objs.size))) { s with heap := zH5 k1 k2 s.heap l1 l2 }) :=
  .of_wp fun prog w A R s h => by
    obtain ⟨hp, g, d, tk, os⟩ := s
    obtain ⟨hl1, hl2, h⟩ := h
    have hsub := sub_zip
    cases k1 <;> cases k2
    · have hL1 : Heap.IsTuple (Shared.heap ⟨hp, g, d, tk, os⟩) l1 xs := hl1
      have hL2 : Heap.IsTuple (Shared.heap ⟨hp.push { cls := .type "tuple_iterator", data := .fields #[.ref l1, .int 0 0] }, g, d, tk, os⟩) l2 ys := Heap.IsTuple.push hl2 _
      wp_walk using wpAny_pyIter_tuple hL1, wpAny_pyIter_tuple hL2
      exact ⟨_, rfl, h⟩
    · have hL1 : Heap.IsTuple (Shared.heap ⟨hp, g, d, tk, os⟩) l1 xs := hl1
      have hL2 : Heap.IsList (Shared.heap ⟨hp.push { cls := .type "tuple_iterator", data := .fields #[.ref l1, .int 0 0] }, g, d, tk, os⟩) l2 ys := Heap.IsList.push hl2 _
      wp_walk using wpAny_pyIter_tuple hL1, wpAny_pyIter_list hL2
      exact ⟨_, rfl, h⟩
    · have hL1 : Heap.IsList (Shared.heap ⟨hp, g, d, tk, os⟩) l1 xs := hl1
      have hL2 : Heap.IsTuple (Shared.heap ⟨hp.push { cls := .type "list_iterator", data := .fields #[.ref l1, .int 0 0] }, g, d, tk, os⟩) l2 ys := Heap.IsTuple.push hl2 _
      wp_walk using wpAny_pyIter_list hL1, wpAny_pyIter_tuple hL2
      exact ⟨_, rfl, h⟩
    · have hL1 : Heap.IsList (Shared.heap ⟨hp, g, d, tk, os⟩) l1 xs := hl1
      have hL2 : Heap.IsList (Shared.heap ⟨hp.push { cls := .type "list_iterator", data := .fields #[.ref l1, .int 0 0] }, g, d, tk, os⟩) l2 ys := Heap.IsList.push hl2 _
      wp_walk using wpAny_pyIter_list hL1, wpAny_pyIter_list hL2
      exact ⟨_, rfl, h⟩
section
variable {prog : Program} {w : World} {A : Around} {E : Value → Shared → Prop} {s : Shared}
theorem itAt_of {k : Bool} {h : Heap} {it l : Addr} (e : h.get? it = some { cls := .type (itN k), data := .fields #[.ref l, .int 0 0] }) : ItAt k h it l 0 := by
  cases k <;> exact ⟨_, e, rfl, rfl⟩
theorem call_zipK {k1 k2 : Bool} {l1 l2 : Addr} {xs ys : Array Value} {Q : Value → Shared → Prop} (hl1 : ObAt k1 s.heap l1 xs) (hl2 : ObAt k2 s.heap l2 ys)
    (h : ∀ h', IsZip h' (s.heap.objs.size + 4) (s.heap.objs.size + 2) (s.heap.objs.size + 3) .none → IsPair h' (s.heap.objs.size + 2) (.ref s.heap.objs.size) (.ref (s.heap.objs.size + 1)) →
      IsPair h' (s.heap.objs.size + 3) .none .none → ItAt k1 h' s.heap.objs.size l1 0 → ItAt k2 h' (s.heap.objs.size + 1) l2 0 → h'.objs.size = s.heap.objs.size + 5 →
      (∀ c o, s.heap.get? c = some o → h'.get? c = some o) → Q (.ref (s.heap.objs.size + 4)) { s with heap := h' }) :
    wpAny (model prog w) A (call (.type "zip") [.ref l1, .ref l2]) Q E s := by
  refine callType_new F.called_zip (by decide) (F.typeCall_zip_2 _ _) (F.newCall_zip_2 _ _) (fun obj => F.args_object_init_3 obj _ _) F.entry_zip_new
    (meets_zipK_new k1 k2 l1 l2 xs ys) ⟨hl1, hl2, ?_⟩
  have z1 : (zH1 k1 s.heap l1).objs.size = s.heap.objs.size + 1 := Heap.size_push ..
  have z2 : (zH2 k1 k2 s.heap l1 l2).objs.size = s.heap.objs.size + 2 := by rw [Heap.size_push, z1]
  have z3 : (zH3 k1 k2 s.heap l1 l2).objs.size = s.heap.objs.size + 3 := by rw [Heap.size_push, z2]
  have z4 : (zH4 k1 k2 s.heap l1 l2).objs.size = s.heap.objs.size + 4 := by rw [Heap.size_push, z3]
  have z5 : (zH5 k1 k2 s.heap l1 l2).objs.size = s.heap.objs.size + 5 := by rw [Heap.size_push, z4]
  have g5 : (zH5 k1 k2 s.heap l1 l2).get? (zH4 k1 k2 s.heap l1 l2).objs.size = some _ := Heap.get?_push_size _ rfl
  have g4 : (zH5 k1 k2 s.heap l1 l2).get? (zH3 k1 k2 s.heap l1 l2).objs.size = some _ := Heap.get?_push_of_some _ (Heap.get?_push_size _ rfl)
  have g3 : (zH5 k1 k2 s.heap l1 l2).get? (zH2 k1 k2 s.heap l1 l2).objs.size = some _ := Heap.get?_push_of_some _ (Heap.get?_push_of_some _ (Heap.get?_push_size _ rfl))
  have g2 : (zH5 k1 k2 s.heap l1 l2).get? (zH1 k1 s.heap l1).objs.size = some _ := Heap.get?_push_of_some _ (Heap.get?_push_of_some _ (Heap.get?_push_of_some _ (Heap.get?_push_size _ rfl)))
  have g1 : (zH5 k1 k2 s.heap l1 l2).get? s.heap.objs.size = some _ := Heap.get?_push_of_some _ (Heap.get?_push_of_some _ (Heap.get?_push_of_some _ (Heap.get?_push_of_some _ (Heap.get?_push_size _ rfl))))
  show _ ∧ _
  rw [z2, z3, z4] at g5
  rw [z1, z2] at g3
  rw [z3] at g4
  rw [z1] at g2
  rw [z4]
  exact ⟨⟨_, g5, rfl⟩, h _ g5 g3 g4 (itAt_of g1) (itAt_of g2) z5 fun c o x =>
    Heap.get?_push_of_some _ (Heap.get?_push_of_some _ (Heap.get?_push_of_some _ (Heap.get?_push_of_some _ (Heap.get?_push_of_some _ x))))⟩
end
def iZipK (K : PySem.W.Frag) (ta : TA) : TI := fun σ H R => ta σ H fun vs H1 => ∃ (k1 k2 : Bool) (a b : Addr) (xs ys : List V), vs = [.ref a, .ref b] ∧ SqK k1 K H1 a xs ∧ SqK k2 K H1 b ys ∧ R (ItzK k1 k2 K a b) H1
theorem pi_zipK {X : Cx} {e e2 : Expr} {ta : TA} {p pos tpos : Pos} {elts : List Expr} {kk : Nat} (hg : Gl X "zip") (hm : X.mg "zip" = none) (ha : PA X [e, e2] ta)
    (hs : starEach [e, e2] X.env = (false, eval e X.env) :: starEach [e2] X.env := by rfl) (hpl : (backTo pos (starEach [e2] X.env)).any (·.1) = false := by rfl) :
    PI X (.Tuple elts kk tpos) (.Call (.Name "zip" p) [e, e2] [] pos) (iZipK X.K ta) := by
  refine ⟨fun pins s σ H R I h => ?_⟩
  refine Call_ (ld_blt I hg hm PyProof.Rows.boot_zip (PyProof.Rows.callWith_type1 (thn (ha.run pos pins s σ H _ I h) fun us s1 ⟨vs, H1, I1, r1, q1⟩ => ?_) hs hpl))
  obtain ⟨k1, k2, a, b, xs, ys, ex, hqx, hqy, q⟩ := q1
  subst ex
  cases r1 with
  | cons r rr =>
    cases rr with
    | cons r' rr =>
      cases rr
      cases r
      cases r'
      have fresh5 : ∀ c, c ∈ [s1.heap.objs.size + 4, s1.heap.objs.size + 2, s1.heap.objs.size + 3, s1.heap.objs.size, s1.heap.objs.size + 1] → FpOk X pins H1 c := fun c hcm => by
        have e' : c = s1.heap.objs.size + 4 ∨ c = s1.heap.objs.size + 2 ∨ c = s1.heap.objs.size + 3 ∨ c = s1.heap.objs.size ∨ c = s1.heap.objs.size + 1 := by simpa using hcm
        have hle : s1.heap.objs.size ≤ c := by
          rcases e' with z | z | z | z | z
          · rw [z]; exact Nat.le_add_right _ _
          · rw [z]; exact Nat.le_add_right _ _
          · rw [z]; exact Nat.le_add_right _ _
          · rw [z]; exact Nat.le_refl _
          · rw [z]; exact Nat.le_add_right _ _
        exact I1.fpOk hle (I1.hok.fresh hle)
      obtain ⟨its, rv, p1, _, lt1⟩ := inv_sq I1 hqx
      obtain ⟨its2, rv2, p2, _, lt2⟩ := inv_sq I1 hqy
      refine call_zipK (k1 := k1) (k2 := k2) p1 p2 fun h' hz hTI hTO h1 h2 hsz hk => wpAny_pyIter_zip hz ?_
      have I2 : Inv X pins σ H1 { s1 with heap := h' } := I1.kept (t' := s1.toks) hk
      exact ⟨s1.heap.objs.size + 4, [s1.heap.objs.size + 4, s1.heap.objs.size + 2, s1.heap.objs.size + 3, s1.heap.objs.size, s1.heap.objs.size + 1], _, _, H1, rfl, I2, turn_zipK (PySem.W.ktu_apart s1.heap.objs.size a b lt1 lt2), ⟨hz, hTI, ⟨_, _, hTO⟩, h1, h2⟩, fresh5, q⟩

/-! ### the meanings -/
section
variable {K : PySem.W.Frag} {H0 H : Hp} {σ : L2.St}
/-- a shared list or tuple, by the heap -/
theorem dq_seq {v : V} {d : PyData} {ds : List PyData} (h : Dq K H v d) (e : seqD d = some ds) : ∃ (k : Bool) (a : Addr) (vs : List V), v = .ref a ∧ (∀ H', Ex H H' → SqK k K H' a vs) ∧ DqAll K H vs ds := by
  cases h with
  | lst h a => cases e; exact ⟨true, _, _, rfl, fun H' ex => ex.sl h, a⟩
  | tup h a => cases e; exact ⟨false, _, _, rfl, fun H' ex => SqT.of (ex _ _ h), a⟩
  | _ => cases e
theorem it_zipK {k1 k2 : Bool} {a b : Addr} {vs ws : List V} {ds es : List PyData} (h1 : ∀ H', Ex H0 H' → SqK k1 K H' a vs) (h2 : ∀ H', Ex H0 H' → SqK k2 K H' b ws) (hd : DqAll K H0 vs ds) (he : DqAll K H0 ws es) : ItOk K H0 (ItzK k1 k2 K a b) (zipD ds es) where
  go := fun i H hi e => by
    rw [zipD_len] at hi
    have l1 := dpA_len hd
    have l2 := dpA_len he
    exact ⟨vs, ws, vs[i]'(by omega), ws[i]'(by omega), h1 H e, h2 H e, List.getElem?_eq_getElem _, List.getElem?_eq_getElem _⟩
  yld := fun i Hc H x H' e0 e hi y => by
    obtain ⟨T, x1, y1, rfl, hT, rfl, q1, q2⟩ := y
    have hx := q1 vs (h1 H (e0.trans e))
    have hy := q2 ws (h2 H (e0.trans e))
    obtain ⟨d1, g1, g2⟩ := dpA_at hd hx
    obtain ⟨d2, g3, g4⟩ := dpA_at he hy
    obtain ⟨p1, p2⟩ := gro_pair (K := K) e hT (dp_mono e0 g2) (dp_mono e0 g4)
    exact ⟨_, _, p1, zipD_get ds es i d1 d2 g1 g3, p2⟩
  stop := fun H e => by
    have l1 := dpA_len hd
    have l2 := dpA_len he
    have := zipD_len ds es
    exact ⟨vs, ws, h1 H e, h2 H e, by omega, by omega, by omega⟩
def gZip : List PyData → Option (List PyData)
  | [a, b] => (seqD a).bind fun ds => (seqD b).bind fun es => some (zipD ds es)
  | _ => none
theorem zipK_ok {ua : UA} : ∀ σ H R, iOf K (uiOf gZip ua) σ H R → iZipK K (aOf K ua) σ H R := fun σ H R t => by
  obtain ⟨env, A, H0, ops, env', s, e, k⟩ := of_ok t
  refine ⟨env, A, H0, ops, env', s, e, fun vs H0' H' A' B s' o one f => ?_⟩
  obtain ⟨ds, r, Hc, hd, ex, hg, hR⟩ := k vs H0' H' A' B s' o one f
  unfold gZip at hg
  split at hg
  · obtain ⟨d1, q1, hg⟩ := Option.bind_eq_some_iff.mp hg
    obtain ⟨d2, q2, hg⟩ := Option.bind_eq_some_iff.mp hg
    cases hg
    cases hd with
    | cons h1 h2 =>
      cases h2 with
      | cons h2 h3 =>
        cases h3
        obtain ⟨k1, a, vs, rfl, s1, a1⟩ := dq_seq h1 q1
        obtain ⟨k2, b, ws, rfl, s2, a2⟩ := dq_seq h2 q2
        exact ⟨k1, k2, a, b, vs, ws, rfl, s1 _ ex, s2 _ ex, hR _ (it_zipK s1 s2 a1 a2)⟩
  · cases hg
end
section
variable {X : Cx} {e e2 : Expr} {pos p tpos : Pos} {va : UA}
theorem gi_zip {elts : List Expr} {kk : Nat} (hm : X.mg "zip" = none) (ha : PA X [e, e2] (aOf X.K va)) (hg : Gl X "zip" := by rfl)
    (hs : starEach [e, e2] X.env = (false, eval e X.env) :: starEach [e2] X.env := by rfl) (hpl : (backTo pos (starEach [e2] X.env)).any (·.1) = false := by rfl) :
    PI X (.Tuple elts kk tpos) (.Call (.Name "zip" p) [e, e2] [] pos) (iOf X.K (uiOf gZip va)) := pi_imp (pi_zipK hg hm ha hs hpl) zipK_ok
end

/-! ### enumerate over a list or a tuple -/
def IteK (k : Bool) (K : PySem.W.Frag) (a : Addr) : It :=
  ⟨fun i H => ∃ (xs : List V) (x : V), SqK k K H a xs ∧ xs[i]? = some x, fun i H v H' => ∃ T x, v = .ref T ∧ H T = none ∧ H' = upd H T (.tup [.int (i : Nat), x]) ∧ ∀ xs, SqK k K H a xs → xs[i]? = some x, fun i H => ∃ xs : List V, SqK k K H a xs ∧ i = xs.length⟩
theorem turn_enumK {P : Program} {w : World} {K : PySem.W.Frag} {elts : List Expr} {kk : Nat} {tpos : Pos} {k : Bool} (a e it : Addr) (ha : a ≠ it) (hae : a ≠ e) :
    Turn P w K (.Tuple elts kk tpos) (IteK k K a) [e, it] e (fun i h => (∃ old, IsEnum h e it ((i : Nat) : Int) old) ∧ ItAt k h it a i ∧ e ≠ it) where
  mem := by simp
  obj := fun i h st b hb => by
    obtain ⟨⟨old, he⟩, hi, _⟩ := st
    have e' : b = e ∨ b = it := by simpa using hb
    rcases e' with z | z
    · rw [z]; exact ⟨_, he, fun v q => nomatch q⟩
    · rw [z]; exact hi.obj
  keep := fun i h h' st k => let ⟨⟨old, he⟩, hi, hne⟩ := st; ⟨⟨old, k e (by simp) _ he⟩, hi.at fun o q => k it (by simp) o q, hne⟩
  item := by
    intro X hP hw hK hc i pins s σ H E I hf st hg
    subst hP hw hK
    obtain ⟨⟨old, he⟩, hit, hne⟩ := st
    obtain ⟨xs, x, hq, hx⟩ := hg
    obtain ⟨its, rv, p, hz, _⟩ := inv_sq I hq
    obtain ⟨u, hu, ru⟩ := rv.get hx
    have hel : e < s.heap.objs.size := Heap.lt_size he
    have hil : it < s.heap.objs.size := by obtain ⟨_, q, _⟩ := hit.obj; exact Heap.lt_size q
    have hd : X.A.in1.handled = none := I.ok.hd hc
    obtain ⟨S1, D1, in1, out1⟩ := side (prog := X.prog) (w := X.w) (k := k) hd ha its.toArray
    have hlt : i < its.toArray.size := by
      have := (List.getElem?_eq_some_iff.mp hu).1
      simpa using this
    refine wpAny_pyNext_enum_itemD D1 he (in1 i _ hit p) hlt hne (by simp; exact ⟨hne, hae.symm⟩) fun v h' tk ev ho hit' hT hsz hk => ?_
    have ev : u = v := by
      have ev : its.toArray[i]? = some v := ev
      rw [List.getElem?_toArray, hu] at ev
      exact Option.some.inj ev
    subst ev
    refine ⟨_, rfl, wpAny_letOwnedTupleGo_enum (s := { s with heap := h', toks := tk + 1 }) ho fun h'' he' sb => ?_⟩
    have hT2 : h''.get? s.heap.objs.size = some { cls := .type "tuple", data := .seq #[.int i tk, u] } := (sb.2 _ (Nat.ne_of_gt hel)).trans hT
    have new : ObjOk X.prog X.w (upd H s.heap.objs.size (.tup [.int (i : Nat), x])) h'' s.heap.objs.size (.tup [.int (i : Nat), x]) :=
      ⟨by show 2 ≤ sizeLine; decide, [.int i tk, u], .cons ⟨_, rfl⟩ (.cons ru .nil), ⟨_, hT2, rfl, _, rfl⟩⟩
    have I1 : Inv X pins σ (upd H s.heap.objs.size (.tup [.int (i : Nat), x])) { s with heap := h'', toks := tk + 1 } :=
      I.turnedNew (ch := [e, it]) (fun b ob hb q => (sb.2 b (fun z => hb (by simp [z]))).trans (hk b ob (fun z => hb (by simp [z])) (fun z => hb (by simp [z])) q)) hf (Nat.le_refl _) new
    refine ⟨.ref s.heap.objs.size, _, I1, rfl, ⟨_, x, rfl, I.hok.fresh (Nat.le_refl _), rfl, fun ys hy => by rw [inv_sq_inj I hy hq]; exact hx⟩, ⟨⟨u, ?_⟩, (out1 _ _ hit').at fun o q => (sb.2 it (Ne.symm hne)).trans q, hne⟩, fun b hb => ?_⟩
    · have e1 : ((i + 1 : Nat) : Int) = (i : Int) + 1 := by omega
      rw [e1]; exact he'
    · have hb' : b < s.heap.objs.size := by
        have e' : b = e ∨ b = it := by simpa using hb
        rcases e' with z | z
        · rw [z]; exact hel
        · rw [z]; exact hil
      rw [upd_ne (Nat.ne_of_lt hb')]
      exact (hf b hb).1
  done := by
    intro X hP hw hK hc i pins s σ H E I hf st hg
    subst hP hw hK
    obtain ⟨⟨old, he⟩, hit, hne⟩ := st
    obtain ⟨xs, hq, hx⟩ := hg
    obtain ⟨its, rv, p, hz, _⟩ := inv_sq I hq
    obtain ⟨f0, f1, f2, f3, f4, f5⟩ := hf it (by simp)
    have hl := rv.length
    have hd : X.A.in1.handled = none := I.ok.hd hc
    obtain ⟨S1, D1, in1, out1⟩ := side (prog := X.prog) (w := X.w) (k := k) hd ha its.toArray
    have hi : i = its.toArray.size := by simp; omega
    subst hi
    exact wpAny_pyNext_enum_endD D1 he (in1 _ _ hit p) fun h' eb => ⟨rfl, I.turned (t' := s.toks) (fun b o hb q => eb b o hb q) f0 f1 f3 f4 f5⟩
  self := fun A i s Q E st h => let ⟨⟨_, he⟩, _⟩ := st; wpAny_pyIter_enum he h
theorem meets_enumerate_newT (l : Addr) (items : Array Value) :
    Meets (Builtin.«enumerate.__new__» ⟨[.type "enumerate", .ref l], []⟩) (fun _ R s => s.heap.IsTuple l items ∧
      R (.ok (.ret (.ref (s.heap.push { cls := .type "tuple_iterator", data := .fields #[.ref l, .int 0 0] }).objs.size)))
        { s with heap := (s.heap.push { cls := .type "tuple_iterator", data := .fields #[.ref l, .int 0 0] }).push { cls := .type "enumerate", data := .fields #[.none, .bool false, .ref s.heap.objs.size, rawInt 0, .none, .none] } }) :=
  .of_wp fun prog w A R s h => by
    obtain ⟨hp, g, d, tk, os⟩ := s; obtain ⟨hl, h⟩ := h
    have hsub := sub_enumerate
    have hL : Heap.IsTuple (Shared.heap ⟨hp, g, d, tk, os⟩) l items := hl
    obtain ⟨⟨c, dct, dt, sl⟩, hl, hc, n, hd⟩ := hl
    replace hc : c = .type "tuple" := hc
    replace hd : dt = .seq items n := hd
    subst hc hd
    wp_walk using AutoSeq1.wpAny_loadPart' hl
    refine wpAny_stack_any fun st => wpAny_pure ?_
    split
    · rename_i c _ _ _ _ _
      cases (c == Value.type "enumerate")
      · wp_walk using AutoSeq1.wpAny_loadPart' hl, wpAny_pyIter_tuple hL
        exact ⟨_, rfl, h⟩
      · wp_walk using AutoSeq1.wpAny_loadPart' hl, wpAny_pyIter_tuple hL
        exact ⟨_, rfl, h⟩
    · wp_walk using AutoSeq1.wpAny_loadPart' hl, wpAny_pyIter_tuple hL
      exact ⟨_, rfl, h⟩
section
variable {prog : Program} {w : World} {A : Around} {E : Value → Shared → Prop} {s : Shared}
theorem call_enumerateK {k : Bool} {l : Addr} {items : Array Value} {Q : Value → Shared → Prop} (hL : ObAt k s.heap l items)
    (h : ∀ h', IsEnum h' (s.heap.objs.size + 1) s.heap.objs.size 0 .none → ItAt k h' s.heap.objs.size l 0 → h'.objs.size = s.heap.objs.size + 2 →
      (∀ b o, s.heap.get? b = some o → h'.get? b = some o) → Q (.ref (s.heap.objs.size + 1)) { s with heap := h' }) :
    wpAny (model prog w) A (call (.type "enumerate") [.ref l]) Q E s := by
  cases k
  · refine callType_new F.called_enumerate (by decide) (F.typeCall_enumerate_1 _) (F.newCall_enumerate_1 _) (fun obj => F.args_object_init_2 obj _) F.entry_enumerate_new
      (meets_enumerate_newT l items) ⟨hL, ?_⟩
    have hz : (s.heap.push { cls := .type "tuple_iterator", data := .fields #[.ref l, .int 0 0] }).objs.size = s.heap.objs.size + 1 := Heap.size_push ..
    show _ ∧ _
    rw [hz]
    have he : IsEnum ((s.heap.push { cls := .type "tuple_iterator", data := .fields #[.ref l, .int 0 0] }).push
        { cls := .type "enumerate", data := .fields #[.none, .bool false, .ref s.heap.objs.size, rawInt 0, .none, .none] }) (s.heap.objs.size + 1) s.heap.objs.size 0 .none := by
      have := Heap.get?_push_size (s.heap.push { cls := .type "tuple_iterator", data := .fields #[.ref l, .int 0 0] })
        (o := { cls := .type "enumerate", data := .fields #[.none, .bool false, .ref s.heap.objs.size, rawInt 0, .none, .none] }) rfl
      rw [hz] at this; exact this
    refine ⟨⟨_, he, rfl⟩, h _ he ⟨_, Heap.get?_push_of_some _ (Heap.get?_push_size _ rfl), rfl, rfl⟩ (by rw [Heap.size_push, hz]) fun b o x => Heap.get?_push_of_some _ (Heap.get?_push_of_some _ x)⟩
  · exact call_enumerate_list hL h
end
def iEnumK (K : PySem.W.Frag) (ta : TA) : TI := fun σ H R => ta σ H fun vs H1 => ∃ (k : Bool) (a : Addr) (xs : List V), vs = [.ref a] ∧ SqK k K H1 a xs ∧ R (IteK k K a) H1
theorem pi_enumK {X : Cx} {e : Expr} {ta : TA} {p pos tpos : Pos} {elts : List Expr} {kk : Nat} (hg : Gl X "enumerate") (hm : X.mg "enumerate" = none) (ha : PA X [e] ta) (hs : starEach [e] X.env = [(false, eval e X.env)] := by rfl) :
    PI X (.Tuple elts kk tpos) (.Call (.Name "enumerate" p) [e] [] pos) (iEnumK X.K ta) := by
  refine ⟨fun pins s σ H R I h => ?_⟩
  refine Call_ (ld_blt I hg hm boot_enumerate (PyProof.Rows.callWith_type1 (thn (ha.run pos pins s σ H _ I h) fun us s1 ⟨vs, H1, I1, r1, q1⟩ => ?_) hs rfl))
  obtain ⟨k, a, xs, ex, hq, q⟩ := q1
  subst ex
  cases r1 with
  | cons r rr =>
    cases rr
    cases r
    obtain ⟨its, rv, p', hz, lt⟩ := inv_sq I1 hq
    refine call_enumerateK (k := k) p' fun h' he hit hsz hk => wpAny_pyIter_enum he ?_
    have I2 : Inv X pins σ H1 { s1 with heap := h' } := I1.kept (t' := s1.toks) hk
    refine ⟨s1.heap.objs.size + 1, [s1.heap.objs.size + 1, s1.heap.objs.size], _, _, H1, rfl, I2, turn_enumK a (s1.heap.objs.size + 1) s1.heap.objs.size (Nat.ne_of_lt lt) (Nat.ne_of_lt (Nat.lt_succ_of_lt lt)), ⟨⟨.none, he⟩, hit, Nat.succ_ne_self _⟩, fun b hb => ?_, q⟩
    have e' : b = s1.heap.objs.size + 1 ∨ b = s1.heap.objs.size := by simpa using hb
    have hle : s1.heap.objs.size ≤ b := by
      rcases e' with z | z
      · rw [z]; exact Nat.le_add_right _ _
      · rw [z]; exact Nat.le_refl _
    exact I1.fpOk hle (I1.hok.fresh hle)
section
variable {K : PySem.W.Frag} {H0 H : Hp} {σ : L2.St}
theorem it_enumK {k : Bool} {a : Addr} {vs : List V} {ds : List PyData} (h : ∀ H', Ex H0 H' → SqK k K H' a vs) (hd : DqAll K H0 vs ds) : ItOk K H0 (IteK k K a) (enumD 0 ds) where
  go := fun i H hi e => ⟨vs, vs[i]'(by rw [dpA_len hd]; rw [enumD_len] at hi; exact hi), h H e, List.getElem?_eq_getElem _⟩
  yld := fun i Hc H x H' e0 e hi y => by
    obtain ⟨T, z, rfl, hT, rfl, y⟩ := y
    have hx := y vs (h H (e0.trans e))
    obtain ⟨d, h1, h2⟩ := dpA_at hd hx
    obtain ⟨g1, g2⟩ := gro_pair (K := K) e hT (.int (i : Nat)) (dp_mono e0 h2)
    have h3 := enumD_get ds 0 i d h1
    rw [Nat.zero_add] at h3
    exact ⟨_, _, g1, h3, g2⟩
  stop := fun H e => ⟨vs, h H e, by rw [enumD_len, dpA_len hd]⟩
def gEnum : List PyData → Option (List PyData)
  | [d] => (seqD d).map (enumD 0)
  | _ => none
theorem enumK_ok {ua : UA} : ∀ σ H R, iOf K (uiOf gEnum ua) σ H R → iEnumK K (aOf K ua) σ H R := fun σ H R t => by
  obtain ⟨env, A, H0, ops, env', s, e, k⟩ := of_ok t
  refine ⟨env, A, H0, ops, env', s, e, fun vs H0' H' A' B s' o one f => ?_⟩
  obtain ⟨ds, r, Hc, hd, ex, hg, hR⟩ := k vs H0' H' A' B s' o one f
  unfold gEnum at hg
  split at hg
  · obtain ⟨d1, q1, rfl⟩ := Option.map_eq_some_iff.mp hg
    cases hd with
    | cons h1 h2 =>
      cases h2
      obtain ⟨k1, a, vs, rfl, s1, a1⟩ := dq_seq h1 q1
      exact ⟨k1, a, vs, rfl, s1 _ ex, hR _ (it_enumK s1 a1)⟩
  · cases hg
end
section
variable {X : Cx} {e : Expr} {pos p tpos : Pos} {va : UA}
theorem gi_enum {elts : List Expr} {kk : Nat} (hm : X.mg "enumerate" = none) (ha : PA X [e] (aOf X.K va)) (hg : Gl X "enumerate" := by rfl) (hs : starEach [e] X.env = [(false, eval e X.env)] := by rfl) :
    PI X (.Tuple elts kk tpos) (.Call (.Name "enumerate" p) [e] [] pos) (iOf X.K (uiOf gEnum va)) := pi_imp (pi_enumK hg hm ha hs) enumK_ok
end

/-! ### is, of None and of truths -/
def dIsB : PyData → PyData → Option PyData
  | .bool a, .bool b => some (.bool (decide (a = b)))
  | _, _ => none
def dIsNotB : PyData → PyData → Option PyData
  | .bool a, .bool b => some (.bool (!decide (a = b)))
  | _, _ => none
def fIs (x y : M) : Option M := (lift2 dIs x y).or (lift2 dIsB x y)
def fIsNot (x y : M) : Option M := (lift2 dIsNot x y).or (lift2 dIsNotB x y)
theorem s_isB {K : PySem.W.Frag} : S2 K (fun x y H Q => ∃ a b, x = .bl a ∧ y = .bl b ∧ Q (.bl (decide (a = b))) H) dIsB := by
  intro H x y dx dy d hx hy h
  unfold dIsB at h
  split at h
  · cases h
    exact ⟨.bl _, fun _ => .bl _, fun Q z => ⟨_, _, dq_bl hx, dq_bl hy, z⟩⟩
  · cases h
theorem s_isnotB {K : PySem.W.Frag} : S2 K (fun x y H Q => ∃ a b, x = .bl a ∧ y = .bl b ∧ Q (.bl (!decide (a = b))) H) dIsNotB := by
  intro H x y dx dy d hx hy h
  unfold dIsNotB at h
  split at h
  · cases h
    exact ⟨.bl _, fun _ => .bl _, fun Q z => ⟨_, _, dq_bl hx, dq_bl hy, z⟩⟩
  · cases h
section
variable {X : Cx} {a b : Expr} {pos : Pos} {ua ub : U}
theorem g_isA (ha : PE X a (tOf X.K ua)) (hb : PE X b (tOf X.K ub)) : PE X (.Compare a [.Is] [b] pos) (tOf X.K (uBin fIs ua ub)) := g_cmp (s_is.f.or s_isB.f) (op_isN.or op_is_bl) ha hb (nomark _)
theorem g_isnotA (ha : PE X a (tOf X.K ua)) (hb : PE X b (tOf X.K ub)) : PE X (.Compare a [.IsNot] [b] pos) (tOf X.K (uBin fIsNot ua ub)) := g_cmp (s_isnot.f.or s_isnotB.f) (op_notN.or op_isnot_bl) ha hb (nomark _)
theorem gt_isA (ha : PE X a (tOf X.K ua)) (hb : PE X b (tOf X.K ub)) : PT X (.Compare a [.Is] [b] pos) (ttOf X.K (uTruB (uBin fIs ua ub))) := gt_cmp (s_is.f.or s_isB.f) (op_isN.or op_is_bl) ha hb (nomark _)
theorem gt_isnotA (ha : PE X a (tOf X.K ua)) (hb : PE X b (tOf X.K ub)) : PT X (.Compare a [.IsNot] [b] pos) (ttOf X.K (uTruB (uBin fIsNot ua ub))) := gt_cmp (s_isnot.f.or s_isnotB.f) (op_notN.or op_isnot_bl) ha hb (nomark _)
end
end G

/-! G19: dict comprehensions, keys ints or texts. -/
namespace G
open PySem PySem.Spec PyProof.Rows L2
def rdK (env : Env) (op : Op) : Option Key := match rd env op with
  | some (.p d) => keyD d
  | _ => none
def dcL (p : Pat) (t : UT) (uk uv : U) (vs : List Nat) : List PyData → Env → List Key → List M → Option ((List Key × List M) × Env)
  | [], env, ks, ms => some ((ks, ms), env)
  | d :: ds, env, ks, ms => (asg p (.p d) env).bind fun e1 => (t e1).bind fun c => if c.1 = true then
      (uk c.2).bind fun q => (rdK q.2 q.1).bind fun k => (uv q.2).bind fun r => (take r.2 r.1).bind fun w => dcL p t uk uv vs ds (wipeE w.2 vs) (putM ks ms k w.1).1 (putM ks ms k w.1).2
    else dcL p t uk uv vs ds (wipeE c.2 vs) ks ms
def uDc (it : UI) (p : Pat) (t : UT) (uk uv : U) (vs : List Nat) : U := fun env => (it env).bind fun q => if (decide (q.1.length ≤ sizeLine) && plainAt q.2 vs) = true then
  (dcL p t uk uv vs q.1 (wipeE q.2 vs) [] []).bind fun z => some (.tmp (.dk z.1.1 z.1.2), restE q.2 vs z.2) else none
theorem putM_len {κ : Type} [DecidableEq κ] : ∀ (ks : List κ) (ms : List M) (k : κ) (m : M), ks.length = ms.length → (putM ks ms k m).1.length ≤ ks.length + 1
  | [], [], _, _, _ => by simp [putM]
  | [], _ :: _, _, _, h => by simp at h
  | _ :: _, [], _, _, h => by simp at h
  | k' :: ks, m' :: ms, k, m, h => by
    unfold putM
    split
    · simp
    · have := putM_len ks ms k m (by simpa using h)
      simp only [List.length_cons]
      omega
section
variable {K : PySem.W.Frag} {H0 H H0' H' : Hp} {σ : L2.St} {env env' : Env} {A A' B C : Fp} {Q : VK}
structure AccD (K : PySem.W.Frag) (H0 H : Hp) (A : Fp) (D : Addr) (ks : List Key) (ms : List M) (acc : List V) (B : Fp) : Prop where
  at_ : H D = some (.dK (ks.zip acc))
  fr : H0 D = none
  rep : RepL K H0 H ms acc B
  len : ks.length = ms.length
  nd : ks.Nodup
  one : ∀ b, A b + B b + (if b = D then 1 else 0) ≤ 1
theorem AccD.go {ks : List Key} {ms : List M} {acc : List V} {D : Addr} (a : AccD K H0 H A D ks ms acc B) (f : Fr H0 H A H0' H' A') (one : ∀ b, A' b ≤ 1) : AccD K H0' H' A' D ks ms acc B := by
  have od := a.one D
  rw [if_pos rfl] at od
  have hD : H D ≠ none := by rw [a.at_]; exact nofun
  have ap := f.apart (B := fun b => B b + if b = D then 1 else 0) (fun b hb => by
    by_cases q : b = D
    · rw [q]; exact hD
    · have hb : 0 < B b + (if b = D then 1 else 0) := hb
      rw [if_neg q] at hb
      exact (a.rep.own b (by omega)).2) (fun b => by have := a.one b; show A b + (B b + if b = D then 1 else 0) ≤ 1; omega) one
  refine ⟨(f.keep D hD (by omega)).trans a.at_, ?_, f.repL a.rep (fun b => by have := a.one b; omega), a.len, a.nd, fun b => by have := ap b; have this : A' b + (B b + if b = D then 1 else 0) ≤ 1 := this; omega⟩
  cases q : H0' D with
  | none => rfl
  | some o =>
    rcases f.fz D (by rw [q]; exact nofun) with z | z | z
    · exact absurd a.fr z
    · omega
    · exact absurd z hD
/-- one more item -/
theorem AccD.put {ks : List Key} {ms : List M} {m : M} {acc : List V} {v : V} {D : Addr} (k : Key) (a : AccD K H0 H A D ks ms acc B) (s : Stt K H0 H σ env A) (r : Rep K H0 H m v C) (one : ∀ b, A b + C b + (B b + if b = D then 1 else 0) ≤ 1) :
    ∃ (acc' : List V) (B' : Fp), (∀ b, B' b ≤ B b + C b) ∧ Stt K H0 (upd H D (.dK (putK (ks.zip acc) k v))) σ env A ∧ AccD K H0 (upd H D (.dK (putK (ks.zip acc) k v))) A D (putM ks ms k m).1 (putM ks ms k m).2 acc' B' ∧
      Fr H0 H (fun b => A b + C b + (B b + if b = D then 1 else 0)) H0 (upd H D (.dK (putK (ks.zip acc) k v))) (fun b => A b + C b + (B b + if b = D then 1 else 0)) := by
  obtain ⟨vs', B', q1, q2, q3, q4, q5, _⟩ := put_rep k a.rep r a.len a.nd
  generalize hN : putK (ks.zip acc) k v = N at q3
  have nD : ∀ b, 0 < A b + C b + B b → b ≠ D := fun b hb q => by
    have := one b
    rw [if_pos q] at this
    omega
  have kp : ∀ b, b ≠ D → upd H D (.dK N) b = H b := fun b hb => upd_ne hb
  have ex : Ex H0 (upd H D (.dK N)) := fun b o hb => by
    by_cases q : b = D
    · rw [q, a.fr] at hb; cases hb
    · rw [kp b q]; exact s.ex b o hb
  refine ⟨vs', B', q2, ⟨s.rep.mono (Ex.refl _) fun b hb => ⟨(s.rep.own b hb).1, kp b (nD b (by omega))⟩, s.one, ex⟩, ⟨by rw [upd_same, q3], a.fr, q1.mono (Ex.refl _) fun b hb => ⟨(q1.own b hb).1, kp b (nD b (by have := q2 b; omega))⟩, q4, q5, fun b => by have := one b; have := q2 b; omega⟩,
    ⟨Ex.refl _, fun b hb ha => kp b fun q => ?_, fun b hb => ?_, fun b hb => .inl hb, fun b hb => .inl hb⟩⟩
  · have ha : A b + C b + (B b + if b = D then 1 else 0) = 0 := ha
    rw [if_pos q] at ha
    omega
  · by_cases q : b = D
    · rw [q, upd_same]; exact nofun
    · rw [kp b q]; exact hb
theorem dc_okG {it : UI} {p : Pat} {t : UT} {uk uv : U} {vs : List Nat} (hs : ∀ k, k ∈ slots p → k ∈ vs) (nd : vs.Nodup) : ∀ σ H Q, tOf K (uDc it p t uk uv vs) σ H Q → tDc (iOf K it) (gOf K p) (ttOf K t) (tOf K uk) (tOf K uv) vs σ H Q := fun σ H Q h => by
  obtain ⟨env, A, H0, op, env', s, e, k⟩ := h
  obtain ⟨⟨ds, e1⟩, h1, e⟩ := Option.bind_eq_some_iff.mp e
  split at e
  case isFalse => cases e
  rename_i hz
  rw [Bool.and_eq_true, decide_eq_true_eq] at hz
  obtain ⟨hz, hpl⟩ := hz
  have hz : ds.length ≤ sizeLine := hz
  obtain ⟨⟨⟨kf, mf⟩, e2⟩, h2, e⟩ := Option.bind_eq_some_iff.mp e
  cases e
  refine ⟨env, A, H0, ds, e1, s, h1, fun J Hs0 Hs As ss fs ok D hD => ?_⟩
  have pl := plain_rep ss.rep hpl
  obtain ⟨Aw, sw, lw⟩ := wipe_stt vs ss
  refine ⟨fun i m H' => ∃ env' A' H0' ks ms acc B, Stt K H0' H' (wipe σ vs) env' A' ∧ AccD K H0' H' A' D ks ms acc B ∧ Fr Hs0 Hs As H0' H' (fun b => A' b + (B b + if b = D then 1 else 0)) ∧ i + m = ds.length ∧ ks.length ≤ i ∧ dcL p t uk uv vs (ds.drop i) env' ks ms = some ((kf, mf), e2),
    ⟨ds.length, wipeE e1 vs, Aw, Hs0, [], [], [], fun _ => 0, ?_, ?_, ?_, by omega, Nat.le_refl _, by rw [List.drop_zero]; exact h2⟩, ?_⟩
  · exact ⟨sw.rep.mono (Ex.refl _) fun b hb => ⟨(sw.rep.own b hb).1, upd_keep hD b (sw.rep.own b hb).2⟩, sw.one, ex_upd sw.ex hD⟩
  · refine ⟨upd_same, sw.ex.none hD, ⟨rfl, fun _ => rfl⟩, rfl, List.nodup_nil, fun b => ?_⟩
    by_cases q : b = D
    · rw [if_pos q]
      by_cases z : 0 < Aw b
      · exact absurd (q ▸ hD) (sw.rep.own b z).2
      · show Aw b + 0 + 1 ≤ 1; omega
    · rw [if_neg q]; have := sw.one b; show Aw b + 0 + 0 ≤ 1; omega
  · refine (fr_own (A := As) ss.ex hD).weak fun b hb => ?_
    have hb : 0 < Aw b + (0 + if b = D then 1 else 0) := hb
    have := lw b
    show 0 < As b + if b = D then 1 else 0
    omega
  · rintro i m H' ⟨env', A', H0', ks, ms, acc, B, s', ac, f', him, hacc, hrest⟩
    by_cases hi : i < ds.length
    case neg =>
      have ei : i = ds.length := by omega
      subst ei
      rw [List.drop_length] at hrest
      have hrest : some ((ks, ms), env') = some ((kf, mf), e2) := hrest
      cases hrest
      have exs : Ex Hs0 H' := f'.e0.trans s'.ex
      refine .inl ⟨ok.stop H' exs, ?_⟩
      obtain ⟨A2, r2, l2⟩ := rest_rep (K := K) (H0 := H0') (H := H') (σ := σ) (env0 := e1) (vs0 := vs) (fun v hv => by
        obtain ⟨o, ho, hd⟩ := pl v hv
        exact ⟨o, ho, hd.imp id fun ⟨d, x, h1, h2, h3⟩ => ⟨d, x, h1, h2, dp_mono f'.e0 h3⟩⟩) (fun _ h => h) nd s'.rep
      refine k (.ref D) H0' H' A2 (fun b => (if b = D then 1 else 0) + B b) ⟨r2, fun b => Nat.le_trans (l2 b) (s'.one b), s'.ex⟩ ⟨D, acc, B, rfl, ac.fr, ac.at_, ⟨ac.len, ac.nd⟩, ac.rep, fun _ => rfl⟩ (fun b => by have := ac.one b; have := l2 b; show A2 b + ((if b = D then 1 else 0) + B b) ≤ 1; omega) ?_
      exact fs.trans f' (fun b hb => hb) fun b hb => by
        have hb : 0 < A2 b + ((if b = D then 1 else 0) + B b) := hb
        have := l2 b
        refine .inr ?_
        show 0 < A' b + (B b + if b = D then 1 else 0)
        omega
    case pos =>
      have exs : Ex Hs0 H' := f'.e0.trans s'.ex
      have hdrop : ds.drop i = ds[i] :: ds.drop (i + 1) := List.drop_eq_getElem_cons hi
      rw [hdrop] at hrest
      unfold dcL at hrest
      obtain ⟨ea, g1, hrest⟩ := Option.bind_eq_some_iff.mp hrest
      obtain ⟨⟨c, eb⟩, g2, hrest⟩ := Option.bind_eq_some_iff.mp hrest
      refine .inr ⟨ok.go i H' hi exs, fun H2 => ∃ env' A' H0' ks ms acc B, Stt K H0' H2 (wipe σ vs) env' A' ∧ AccD K H0' H2 A' D ks ms acc B ∧ Fr Hs0 Hs As H0' H2 (fun b => A' b + (B b + if b = D then 1 else 0)) ∧ ks.length ≤ i + 1 ∧ dcL p t uk uv vs (ds.drop (i + 1)) env' ks ms = some ((kf, mf), e2), fun H2 hN => ?_, fun x Hx hy => ?_⟩
      · obtain ⟨env2, A2, H02, k2, m2, ac2, B2, q1, q2, q3, q4, q5⟩ := hN
        exact ⟨m - 1, by omega, env2, A2, H02, k2, m2, ac2, B2, q1, q2, q3, by omega, q4, q5⟩
      · obtain ⟨Hc, d, gr, hd, hdq⟩ := ok.yld i H0' H' x Hx f'.e0 s'.ex hi hy
        have hd' : d = ds[i] := by
          rw [List.getElem?_eq_getElem hi] at hd
          exact (Option.some.inj hd).symm
        subst hd'
        have sx := gro_stt gr s'
        have fx : Fr H0' H' A' Hc Hx A' := gro_fr gr
        have ax := ac.go fx sx.one
        refine ⟨env', A', Hc, .p ds[i], fun _ => 0, ea, sx, ⟨hdq, fun _ => rfl⟩, fun b => sx.one b, g1, fun σ2 Ha0 Ha Aa sa fa ba => ⟨wipe_but ba hs, ?_⟩⟩
        have fa' : Fr Hc Hx A' Ha0 Ha Aa := fa.wide fun b hb => hb
        have aa := ax.go fa' sa.one
        refine ttOf.go sa g2 fun Hb0 Hb Ab sb fb => ?_
        have ab := aa.go fb sb.one
        have fxb := (fx.trans fa' (E := Aa) (fun _ h => h) fun b hb => .inr hb).trans fb (E := Ab) (fun _ h => h) fun b hb => .inr hb
        have fD : ∀ {A1 : Fp} {H1' H1 : Hp}, Fr H0' H' A' H1' H1 A1 → Fr Hs0 Hs As H1' H1 (fun b => A1 b + (B b + if b = D then 1 else 0)) := fun {A1 H1' H1} f =>
          f'.trans f (fun b hb => by show 0 < A' b + (B b + if b = D then 1 else 0); omega) fun b hb => by
            have hb : 0 < A1 b + (B b + if b = D then 1 else 0) := hb
            by_cases q : 0 < A1 b
            · exact .inr q
            · exact .inl (by show 0 < A' b + (B b + if b = D then 1 else 0); omega)
        cases c with
        | false =>
          have hrest : dcL p t uk uv vs (ds.drop (i + 1)) (wipeE eb vs) ks ms = some ((kf, mf), e2) := hrest
          show ∃ env' A' H0' ks ms acc B, _
          obtain ⟨A9, s9, l9⟩ := wipe_stt vs sb
          rw [wipe_but ba hs] at s9
          refine ⟨wipeE eb vs, A9, Hb0, ks, ms, acc, B, s9, ⟨ab.at_, ab.fr, ab.rep, ab.len, ab.nd, fun b => by have := ab.one b; have := l9 b; omega⟩, (fD fxb).weak fun b hb => ?_, by omega, hrest⟩
          have hb : 0 < A9 b + (B b + if b = D then 1 else 0) := hb
          have := l9 b
          show 0 < Ab b + (B b + if b = D then 1 else 0)
          omega
        | true =>
          have hrest : ((uk eb).bind fun q => (rdK q.2 q.1).bind fun k => (uv q.2).bind fun r => (take r.2 r.1).bind fun w => dcL p t uk uv vs (ds.drop (i + 1)) (wipeE w.2 vs) (putM ks ms k w.1).1 (putM ks ms k w.1).2) = some ((kf, mf), e2) := hrest
          obtain ⟨⟨xk, ek⟩, g3k, hrest⟩ := Option.bind_eq_some_iff.mp hrest
          obtain ⟨kk, gk, hrest⟩ := Option.bind_eq_some_iff.mp hrest
          obtain ⟨⟨x9, ec⟩, g3, hrest⟩ := Option.bind_eq_some_iff.mp hrest
          obtain ⟨⟨m9, ed⟩, g4, hrest⟩ := Option.bind_eq_some_iff.mp hrest
          show tOf K uk σ2 Hb _
          refine tOf.go sb g3k fun yk Hk0 Hk Ak Bk sk ok' onek fk => ?_
          have hyk : yk = kV kk := by
            have gk : (match rd ek xk with
              | some (.p d) => keyD d
              | _ => none) = some kk := gk
            split at gk
            · rename_i d hr
              obtain ⟨C0, r0, _⟩ := rd_ok sk ok' hr
              exact key_dq r0.1 gk
            · cases gk
          have fk' : Fr Hb0 Hb Ab Hk0 Hk Ak := fk.weak fun b hb => by show 0 < Ak b + Bk b; omega
          have ak := ab.go fk' sk.one
          have fxk := fxb.trans fk' (E := Ak) (fun _ h => h) fun b hb => .inr hb
          refine tOf.go sk g3 fun y Hc0 Hc1 Ac Bc sc oc onec fc => ?_
          have ac3 := ak.go (A' := fun b => Ac b + Bc b) fc onec
          obtain ⟨Hd0, Ad, Bd, sd, rd9, ad, bd, fd⟩ := take_fr sc oc onec g4
          have one4 : ∀ b, Ad b + Bd b + (B b + if b = D then 1 else 0) ≤ 1 := fun b => by
            have h1 := ac3.one b
            have h1 : Ac b + Bc b + B b + (if b = D then 1 else 0) ≤ 1 := h1
            have := ad b
            have := bd b
            omega
          have ac4 : AccD K Hd0 Hc1 Ad D ks ms acc B := by
            have z : AccD K Hc0 Hc1 Ac D ks ms acc B := ⟨ac3.at_, ac3.fr, ac3.rep, ac3.len, ac3.nd, fun b => by have h1 := ac3.one b; have h1 : Ac b + Bc b + B b + (if b = D then 1 else 0) ≤ 1 := h1; omega⟩
            exact z.go fd sd.one
          obtain ⟨acc', B', lB, s5, ac5, f5⟩ := ac4.put kk sd rd9 one4
          refine ⟨ks.zip acc, kk, hyk, ac4.at_, by rw [zip_len ac4.len ac4.rep]; omega, ?_⟩
          obtain ⟨A9, s9, l9⟩ := wipe_stt vs s5
          rw [wipe_but ba hs] at s9
          refine ⟨wipeE ed vs, A9, Hd0, _, _, acc', B', s9, ⟨ac5.at_, ac5.fr, ac5.rep, ac5.len, ac5.nd, fun b => by have := ac5.one b; have := l9 b; omega⟩, ?_, by have := putM_len ks ms kk m9 ac4.len; omega, hrest⟩
          have fcd : Fr H0' H' A' Hd0 Hc1 (fun b => Ad b + Bd b) := (fxk.trans fc (fun _ h => h) (E := fun b => Ac b + Bc b) fun b hb => .inr hb).trans fd (fun b hb => by show 0 < Ac b + Bc b; omega) fun b hb => by
            have hb : 0 < Ad b + Bd b := hb
            have := ad b
            have := bd b
            exact .inl (by show 0 < Ac b + Bc b; omega)
          exact (fD fcd).trans f5 (fun b hb => hb) fun b hb => by
            have hb : 0 < A9 b + (B' b + if b = D then 1 else 0) := hb
            have := l9 b
            have := lB b
            refine .inr ?_
            show 0 < Ad b + Bd b + (B b + if b = D then 1 else 0)
            omega
end
section
variable {X : Cx}
theorem g_dc {kx vx tg iter : Expr} {ifs : List Expr} {scope : Scope} (own : List (Str × Nat)) {pos : Pos} {it : UI} {p : Pat} {t : UT} {uk uv : U} (hc : X.calm = true) (hN : X.N.Nodup) (hi : PI X tg iter (iOf X.K it)) (ok : BlkOk X.N X.env.scope scope own)
    (hg : ∀ (s : Shared) (H : Hp) (C : Addr) (cl : List (Str × Addr)) (fp : List Addr), PG (X.blk s H scope (compEnvC scope cl C X.env) fp) tg (gOf X.K p)) (ht : ∀ (s : Shared) (H : Hp) (C : Addr) (cl : List (Str × Addr)) (fp : List Addr), PTs (X.blk s H scope (compEnvC scope cl C X.env) fp) ifs (ttOf X.K t))
    (hk : ∀ (s : Shared) (H : Hp) (C : Addr) (cl : List (Str × Addr)) (fp : List Addr), PE (X.blk s H scope (compEnvC scope cl C X.env) fp) kx (tOf X.K uk))
    (he : ∀ (s : Shared) (H : Hp) (C : Addr) (cl : List (Str × Addr)) (fp : List Addr), PE (X.blk s H scope (compEnvC scope cl C X.env) fp) vx (tOf X.K uv)) (hsl : ∀ k, k ∈ slots p → k ∈ own.map (·.2) := by decide) (nd : (own.map (·.2)).Nodup := by decide) (hs : ∀ x, foldedSetIterable iter X.env x = pure x := by intro _; rfl) :
    PE X (.DictComp kx vx [⟨tg, iter, ifs, 0⟩] scope pos) (tOf X.K (uDc it p t uk uv (own.map (·.2)))) := pe_imp (pe_dc hc hN hi ok hg ht hk he hs) (dc_okG hsl nd)
end
end G

/-! G20: xs.index(x), xs[:0:-1], min with a default, len(set(..)) of ints, dict(pairs). -/
namespace G
open PySem PySem.Spec PyProof.Rows L2
/-! ### xs.index(x) -/
def findD (d : PyData) : List PyData → Option Nat
  | [] => none
  | z :: zs => if PyData.eqv z d = true then some 0 else (findD d zs).map (· + 1)
theorem findD_ok {d : PyData} : ∀ {ds : List PyData} {j : Nat}, findD d ds = some j → ∃ z, ds[j]? = some z ∧ PyData.eqv z d = true ∧ ∀ (m : Nat) (z' : PyData), m < j → ds[m]? = some z' → PyData.eqv z' d = false
  | [], j, h => by cases h
  | z :: zs, j, h => by
    unfold findD at h
    by_cases q : PyData.eqv z d = true
    · rw [if_pos q] at h
      cases h
      exact ⟨z, rfl, q, fun m z' hm _ => absurd hm (Nat.not_lt_zero m)⟩
    · rw [if_neg q] at h
      obtain ⟨i, hi, rfl⟩ := Option.map_eq_some_iff.mp h
      obtain ⟨y, h1, h2, h3⟩ := findD_ok hi
      refine ⟨y, by simpa using h1, h2, fun m z' hm hz => ?_⟩
      cases m with
      | zero =>
        have hz : some z = some z' := hz
        cases hz
        simpa using q
      | succ m => exact h3 m z' (by omega) (by simpa using hz)
def indexD (x y : PyData) : Option PyData := match x with
  | .list ds => if (okD (.list ds) && okD y) = true then (findD y ds).map fun j => .int (j : Nat) else none
  | _ => none
def isLs : PyData → Bool
  | .list _ => true
  | _ => false
def uIndex (a b : U) : U := fun env => (a env).bind fun p => (rdD p.2 p.1).bind fun d0 => if isLs d0 = true then (b p.2).bind fun q => (rdD q.2 p.1).bind fun dx => (rdD q.2 q.1).bind fun dy => (indexD dx dy).bind fun d => some (.tmp (.p d), q.2) else none
section
variable {K : PySem.W.Frag} {H0 H H0' H' : Hp} {σ : L2.St} {env env' : Env} {A A' B C : Fp} {Q : VK}
theorem dq_ls {v : V} {d : PyData} (h : Dq K H v d) (e : isLs d = true) : ∃ a xs ds, v = .ref a ∧ d = .list ds ∧ SqL K H a xs := by
  cases h with
  | lst h a => exact ⟨_, _, _, rfl, rfl, h⟩
  | _ => cases e
theorem index_ok {ua ub : U} : ∀ σ H Q, tOf K (uIndex ua ub) σ H Q → tBM K "list" (rIndexD K) (tOf K ua) (tCons (tOf K ub) tNil) σ H Q := fun σ H Q h => by
  obtain ⟨env, A, H0, op, env', s, e, k⟩ := h
  obtain ⟨⟨x, e1⟩, h1, e⟩ := Option.bind_eq_some_iff.mp e
  obtain ⟨d0, h0, e⟩ := Option.bind_eq_some_iff.mp e
  split at e
  case isFalse => cases e
  rename_i hl
  obtain ⟨⟨y, e2⟩, h2, e⟩ := Option.bind_eq_some_iff.mp e
  obtain ⟨dx, h3, e⟩ := Option.bind_eq_some_iff.mp e
  obtain ⟨dy, h4, e⟩ := Option.bind_eq_some_iff.mp e
  obtain ⟨d, h5, e⟩ := Option.bind_eq_some_iff.mp e
  cases e
  refine tOf.go s h1 fun v H1' H1 A1 B1 s1 o1 one1 f1 => ?_
  obtain ⟨a, xs, ds0, rfl, rfl, hs⟩ := dq_ls (rdD_ok s1 o1 h0) hl
  refine ⟨.inl ⟨rfl, xs, hs⟩, tOf.go s1 h2 fun w H2' H2 A2 B2 s2 o2 one2 f2 => ?_⟩
  show rIndexD K (.ref a) [w] H2 Q
  have ap := f2.apart (fun b hb => (o1.own b hb).2) one1 one2
  have q1 := rdD_ok s2 (f2.op o1 one1) h3
  have q2 := rdD_ok s2 o2 h4
  cases dx with
  | list ds =>
  have h5 : (if (okD (.list ds) && okD dy) = true then (findD dy ds).map fun j => .int (j : Nat) else none) = some d := h5
  split at h5
  case isFalse => cases h5
  rename_i hok
  rw [Bool.and_eq_true] at hok
  obtain ⟨j, hj, rfl⟩ := Option.map_eq_some_iff.mp h5
  obtain ⟨z, z1, z2, z3⟩ := findD_ok hj
  refine ⟨a, w, dy, ds, j, z, rfl, rfl, q1.dp, q2.dp, hok.1, hok.2, z1, z2, z3, ?_⟩
  refine k _ H2' H2 A2 (fun _ => 0) s2 ⟨.int _, fun _ => rfl⟩ (fun b => s2.one b) ?_
  refine (f1.trans f2 (E := fun b => A2 b + B2 b) (fun b hb => by show 0 < A1 b + B1 b; omega) fun b hb => .inr hb).weak fun b hb => ?_
  have hb : 0 < A2 b + 0 := hb
  show 0 < A2 b + B2 b
  omega
  | _ => cases h5
end
section
variable {X : Cx} {o e : Expr} {apos cpos : Pos} {ua ub : U}
theorem g_index (hu : X.A.units + 65 < cLine) (ho : PE X o (tOf X.K ua)) (he : PE X e (tOf X.K ub)) (hbase : attributeBase o "index" X.env (eval o X.env) = eval o X.env := by rfl)
    (hfew : ((backTo cpos (starEach [e] X.env)).all (fun x => !x.1) && (backToKw cpos (keywordEach [] X.env)).all (fun x => x.1.isSome) && decide ([e].length + ([] : List Keyword).length + (if ([] : List Keyword).isEmpty then 0 else 1) < 30)) = true := by rfl)
    (hline : (apos.endLine == cpos.line) = true := by rfl) (hs : starEach [e] X.env = (false, eval e X.env) :: starEach [] X.env := by rfl) : PE X (.Call (.Attribute o "index" apos) [e] [] cpos) (tOf X.K (uIndex ua ub)) :=
  pe_imp (pe_bm PySem.F.plainAttrs_list PySem.F.slot_list_index PySem.F.type_list_index (mt_indexD hu) ho (pa_cons he pa_nil hs) hbase hfew hline hs (by rfl)) index_ok
end

/-! ### xs[:0:-1] -/
def tRevT (K : PySem.W.Frag) (te : TE) : TE := fun σ H Q => te σ H fun x H1 => ∃ a xs, x = .ref a ∧ SqL K H1 a xs ∧ ∀ p, H1 p = none → Q (.ref p) (upd H1 p (.lst (xs.drop 1).reverse))
theorem pick_tail (items : Array Value) : slicePick items none (some 0) (some (-1)) = (items.toList.drop 1).reverse.toArray := by
  unfold slicePick
  have hb : sliceBounds none (some 0) (some (-1)) items.size = ((items.size : Int) - 1, min 0 ((items.size : Int) - 1), -1) := by
    first
    | rfl
    | (simp [sliceBounds]; omega)
  rw [hb]
  show ((sliceRange ((items.size : Int) - 1) (min 0 ((items.size : Int) - 1)) (-1)).filterMap (items[·]?)).toArray = _
  congr 1
  have hr : sliceRange ((items.size : Int) - 1) (min 0 ((items.size : Int) - 1)) (-1) = ((List.range (items.size - 1)).map fun k => 1 + k).reverse := by
    unfold sliceRange
    have h1 : ¬ ((-1 : Int) > 0) := by decide
    by_cases h : 1 < items.size
    · have e0 : min 0 ((items.size : Int) - 1) = 0 := by omega
      rw [e0]
      have h2 : (items.size : Int) - 1 > 0 := by omega
      have e : ((items.size : Int) - 1 - 0 - -1 - 1) / (- -1) = (items.size : Int) - 1 := by
        rw [show (- -1 : Int) = 1 by decide, Int.ediv_one]
        omega
      simp only [h1, if_false, h2, if_true, e]
      have e3 : ((items.size : Int) - 1).toNat = items.size - 1 := by omega
      rw [e3]
      apply List.ext_getElem
      · simp
      · intro i h1 h2
        simp only [List.length_map, List.length_range] at h1
        rw [List.getElem_map, List.getElem_reverse, List.getElem_map, List.getElem_range, List.getElem_range]
        simp only [List.length_map, List.length_range]
        omega
    · have h2 : ¬ ((items.size : Int) - 1 > min 0 ((items.size : Int) - 1)) := by omega
      have e3 : items.size - 1 = 0 := by omega
      rw [e3]
      simp only [h1, if_false, h2]
      rfl
  rw [hr, List.filterMap_reverse]
  congr 1
  have := pick_run items 1 (items.size - 1)
  rw [this]
  rw [List.take_of_length_le]
  rw [List.length_drop, Array.length_toList]
  exact Nat.le_refl _
theorem pe_revT {X : Cx} {e : Expr} {te : TE} {k k0 : Nat} {p0 p1 p2 p3 pos : Pos} (he : PE X e te) : PE X (.Subscript e (.Slice none (some (.Constant (.int 0) k0 p0)) (some (.UnaryOp .USub (.Constant (.int 1) k p1) p2)) p3) pos) (tRevT X.K te) := by
  refine ⟨fun pins s σ H Q I h => ?_⟩
  refine Subscript_ (thn (he.run pins s σ H _ I h) fun v s1 ⟨x, H1, I1, r1, q1⟩ => ?_)
  obtain ⟨a, xs, ex, hx, q⟩ := q1
  subst ex
  cases r1
  have hup : PO X (some (.Constant (.int 0) k0 p0)) (tPart (tC (.int 0))) := po_some pe_int
  have hst : PO X (some (.UnaryOp .USub (.Constant (.int 1) k p1) p2)) (tPart (tUn (rU fun i => .int (-i)) (tC (.int 1)))) := po_some (pe_un un_neg pe_int)
  refine wpAny_Slice (thn (po_none.run pins s1 σ H1 (fun o H2 => o = none ∧ H2 = H1) I1 ⟨rfl, rfl⟩) fun vl s2 ⟨l, H2, I2, pl, el, e2⟩ => ?_)
  subst el e2
  refine thn (hup.run pins s2 σ H2 (fun o H3 => o = some 0 ∧ H3 = H2) I2 ⟨0, rfl, rfl, rfl⟩) fun vu s3 ⟨u, H3, I3, pu, eu, e3⟩ => ?_
  subst eu e3
  refine thn (hst.run pins s3 σ H3 (fun o H4 => o = some (-1) ∧ H4 = H3) I3 ⟨1, rfl, -1, rfl, rfl, rfl⟩) fun vs s4 ⟨o, H4, I4, ps, eo, e4⟩ => ?_
  subst eo e4
  have I5 : Inv X pins σ H4 { s4 with heap := s4.heap.push { cls := .type "slice", data := .fields #[vl, vu, vs] } } := I4.kept (t' := s4.toks) fun b ob q => Heap.get?_push_of_some _ q
  obtain ⟨its, r, ht, hz⟩ := I5.list hx
  have hlen := r.length
  show wpAny (model X.prog X.w) X.A (subscriptTail e (.Slice none (some (.Constant (.int 0) k0 p0)) (some (.UnaryOp .USub (.Constant (.int 1) k p1) p2)) p3) (.ref a) (.ref s4.heap.objs.size)) (EP X pins σ Q) X.xe { s4 with heap := s4.heap.push { cls := .type "slice", data := .fields #[vl, vu, vs] } }
  refine tail_any (ops := [.ref a, .ref s4.heap.objs.size]) ht.isList.typeIs (PySem.slot_list_getitem.lookup) ?_ (by with_unfolding_all rfl)
  refine wpAny_getItem_list_slice ht.isList (Heap.IsSliceOf.new _ vl vu vs) pl pu ps (by decide) ?_ (by rw [List.size_toArray]; omega)
  rw [pick_tail]
  refine ⟨.ref _, _, I5.laid (t' := s4.toks) (o := .lst (xs.drop 1).reverse) (fun b ob q => Heap.get?_push_of_some _ q) (Nat.le_refl _) ?_, rfl, q _ (I5.hok.fresh (Nat.le_refl _))⟩
  refine ⟨by rw [List.length_reverse, List.length_drop]; omega, _, 0, ?_, Heap.get?_push_size _ rfl⟩
  have := (r.drop 1).reverse
  simpa using this
def revT (m : M) : Option M := (lsM m).map fun ds => .l ((ds.drop 1).reverse.map .p)
def uRevT (u : U) : U := fun env => (u env).bind fun p => (rd p.2 p.1).bind fun m => (revT m).bind fun r => some (.tmp r, p.2)
section
variable {K : PySem.W.Frag} {H0 H H0' H' : Hp} {σ : L2.St} {env env' : Env} {A A' B C : Fp} {Q : VK}
theorem revT_ok {u : U} : ∀ σ H Q, tOf K (uRevT u) σ H Q → tRevT K (tOf K u) σ H Q := fun σ H Q t => by
  obtain ⟨env, A, H0, op, env', s, e, k⟩ := t
  obtain ⟨⟨x, e1⟩, h1, e⟩ := Option.bind_eq_some_iff.mp e
  obtain ⟨m, h2, e⟩ := Option.bind_eq_some_iff.mp e
  obtain ⟨r, h3, e⟩ := Option.bind_eq_some_iff.mp e
  cases e
  refine tOf.go s h1 fun v H0' H' A' B s' o one f => ?_
  obtain ⟨C, rr, _⟩ := rd_ok s' o h2
  obtain ⟨ds, h4, rfl⟩ := Option.map_eq_some_iff.mp h3
  obtain ⟨a, vs, rfl, q, hd⟩ := rep_ls s'.ex rr h4
  have F := post_fresh s' f (fun b hb => by show 0 < A' b + B b; omega) k
  exact ⟨a, vs, rfl, q, fun p hp => fresh_lp F s'.ex hp (dqA_rev (dpA_drop hd 1))⟩
end
theorem g_revT {X : Cx} {e : Expr} {u : U} {k k0 : Nat} {p0 p1 p2 p3 pos : Pos} (he : PE X e (tOf X.K u)) : PE X (.Subscript e (.Slice none (some (.Constant (.int 0) k0 p0)) (some (.UnaryOp .USub (.Constant (.int 1) k p1) p2)) p3) pos) (tOf X.K (uRevT u)) := pe_imp (pe_revT he) revT_ok
end G

/-! G21: min with a default, len(set(..)) of ints, dict(pairs). -/
namespace G
open PySem PySem.Spec PyProof.Rows L2
/-! ### min(xs, default=k) -/
def rMinDef (K : PySem.W.Frag) : List V → List V → Hp → VK → Prop := fun xs zs H Q => ∃ (a : Addr) (ns : List Int) (k : Int), xs = [.ref a] ∧ zs = [.int k] ∧ SqL K H a (ns.map V.int) ∧ Q (.int (match ns with | [] => k | x :: r => least x r)) H
theorem dpAll_ints {K : PySem.W.Frag} {H : Hp} : ∀ ns : List Int, DpAll K H (ns.map V.int) (ns.map .int)
  | [] => .nil
  | n :: ns => .cons (.int n) (dpAll_ints ns)
theorem least_fold : ∀ (r : List Int) (x : Int), r.foldl min x = least x r
  | [], x => rfl
  | y :: r, x => by
    have e : min x y = if y < x then y else x := by
      split <;> omega
    rw [List.foldl_cons, least, ← e]
    exact least_fold r _
theorem alike_intsAll (ns : List Int) : PySem.W.AlikeAll (ns.map PyData.int) := by
  refine ⟨fun x hx y hy => ?_, fun x hx => ?_⟩
  · obtain ⟨i, _, rfl⟩ := List.mem_map.mp hx
    obtain ⟨j, _, rfl⟩ := List.mem_map.mp hy
    simp [PySem.W.alike]
  · obtain ⟨i, _, rfl⟩ := List.mem_map.mp hx
    exact nofun
theorem depth_intsAll : ∀ ns : List Int, PyData.depthAll (ns.map PyData.int) = 0
  | [] => by simp [PyData.depthAll]
  | n :: ns => by simp [PyData.depthAll, PyData.depth, depth_intsAll ns]
theorem cr_minDef {X : Cx} (hcalm : X.calm = true) (hu : X.A.units + 1 < cLine) : CallRK X (.builtin "min") ["default"] (rMinDef X.K) := by
  intro pins s σ H xs zs us ws Q I r1 r2 h
  obtain ⟨a, ns, k, rfl, rfl, hq, q⟩ := h
  obtain ⟨u, rfl, rx⟩ := vals1 r1
  obtain ⟨v, rfl, rz⟩ := vals1 r2
  cases rx
  obtain ⟨t, rfl⟩ := rz
  obtain ⟨its, rv, pl, hz⟩ := I.list hq
  obtain ⟨as, ra⟩ := Dp.readsAll I (ns.map .int) _ its (dpAll_ints ns) rv
  refine PySem.W.min_list_default (vs := its.toArray) (xs := ns.map .int) (as := as) (d := .int k t) (I.ok.hd hcalm) pl.isList ra (alike_intsAll ns) (by rw [depth_intsAll]; exact hu) (fun e h' tk hk => ?_) fun y ys i v h' tk bs e hi rd hk => ?_
  · have : ns = [] := List.map_eq_nil_iff.mp e
    subst this
    exact ⟨.int k, H, I.kept (t' := tk) hk, ⟨t, rfl⟩, q⟩
  · cases ns with
    | nil => cases e
    | cons n r =>
      obtain ⟨e1, e2⟩ := List.cons.inj e
      subst e1 e2
      rw [PySem.W.minD_ints, least_fold] at rd
      cases rd
      exact ⟨.int (least n r), H, I.kept (t' := tk) hk, ⟨_, rfl⟩, q⟩
def uMinD (a b : U) : U := fun env => (a env).bind fun p => (b p.2).bind fun q => (rd q.2 p.1).bind fun mx => (rd q.2 q.1).bind fun my => (lsM mx).bind fun ds => (intsOf ds).bind fun ns => match my with
  | .p (.int k) => some (.tmp (.p (.int (match ns with | [] => k | x :: r => least x r))), q.2)
  | _ => none
section
variable {K : PySem.W.Frag} {H0 H H0' H' : Hp} {σ : L2.St} {env env' : Env} {A A' B C : Fp} {Q : VK}
theorem minD_ok {ua ub : U} : ∀ σ H Q, tOf K (uMinD ua ub) σ H Q → tCKw (rMinDef K) (tCons (tOf K ua) tNil) (tCons (tOf K ub) tNil) σ H Q := fun σ H Q h => by
  obtain ⟨env, A, H0, op, env', s, e, k⟩ := h
  obtain ⟨⟨x, e1⟩, h1, e⟩ := Option.bind_eq_some_iff.mp e
  obtain ⟨⟨y, e2⟩, h2, e⟩ := Option.bind_eq_some_iff.mp e
  obtain ⟨mx, h3, e⟩ := Option.bind_eq_some_iff.mp e
  obtain ⟨my, h4, e⟩ := Option.bind_eq_some_iff.mp e
  obtain ⟨ds, h5, e⟩ := Option.bind_eq_some_iff.mp e
  obtain ⟨ns, h6, e⟩ := Option.bind_eq_some_iff.mp e
  have hk : ∃ kk, my = .p (.int kk) := by
    cases my with
    | p d =>
      cases d with
      | int kk => exact ⟨kk, rfl⟩
      | _ => cases e
    | _ => cases e
  obtain ⟨kk, rfl⟩ := hk
  cases e
  refine go2 s h1 h2 fun v w H0' H' A' B C s' o1 o2 one f => ?_
  obtain ⟨C1, r1, _⟩ := rd_ok s' o1 h3
  obtain ⟨C2, r2, _⟩ := rd_ok s' o2 h4
  obtain ⟨a, vs, rfl, hq, hd⟩ := rep_ls s'.ex r1 h5
  rw [ints_dq h6 hd] at hq
  exact ⟨a, ns, kk, rfl, by rw [rep_int r2], hq, fresh_p (post_fresh s' f (fun b hb => by show 0 < A' b + B b + C b; omega) k) s'.ex (.int _)⟩
end
section
variable {X : Cx} {a b : Expr} {p pos kpos : Pos} {ua ub : U}
theorem g_minD (hc : X.calm = true) (hu : X.A.units + 1 < cLine) (hm : X.mg "min" = none) (ha : PE X a (tOf X.K ua)) (hb : PE X b (tOf X.K ub)) (hg : Gl X "min" := by rfl) (na : starEach [a] X.env = (false, eval a X.env) :: starEach [] X.env := by rfl)
    (he : backTo pos (starEach [a] X.env) = (false, eval a X.env) :: backTo pos (starEach [] X.env) := by rfl) (hpl : (backTo pos (starEach [a] X.env)).any (·.1) = false := by rfl)
    (hall : (backToKw pos (keywordEach [⟨some "default", b, kpos⟩] X.env)).all (·.1.isSome) = true := by rfl) (hnone : (backToKw pos (keywordEach [⟨some "default", b, kpos⟩] X.env)).any (·.1.isNone) = false := by rfl) (hks : (backToKw pos (keywordEach [⟨some "default", b, kpos⟩] X.env)).filterMap (·.1) = ([Str.ofString "default"] : List Str) := by rfl) :
    PE X (.Call (.Name "min" p) [a] [⟨some "default", b, kpos⟩] pos) (tOf X.K (uMinD ua ub)) :=
  pe_imp (pe_callBK (cr_minDef hc hu) hg hm (by decide +kernel) (pa_cons ha pa_nil na) (pk_cons hb pk_nil) (by decide) (by decide) he hpl hall hnone hks) minD_ok
end

/-! ### len(set(xs)) of ints -/
def ddI (ns : List Int) : List Int := ns.foldl step_dedup []
theorem firstMet_all (ns : List Int) : firstMet (fun i => ns.getD i 0) ns.length = ddI ns := by
  unfold firstMet ddI
  congr 1
  apply List.ext_getElem
  · simp
  · intro i h1 h2
    rw [List.getElem_map, List.getElem_range, List.getD_eq_getElem?_getD, List.getElem?_eq_getElem h2]
    rfl
def tLenSetJ (K : PySem.W.Frag) (ta : TE) : TE := fun σ H Q => ta σ H fun x H1 => ∃ (l : Addr) (ns : List Int), x = V.ref l ∧ SqL K H1 l (ns.map V.int) ∧ ns.length < 1000 ∧ Q (.int (ddI ns).length) H1
theorem pe_lenSetJ {X : Cx} {a : Expr} {ta : TE} {p p2 q pos : Pos} (hc : X.calm = true) (hg : Gl X "len") (hm : X.mg "len" = none) (hg2 : Gl X "set") (hm2 : X.mg "set" = none) (ha : PE X a ta)
    (na : starEach [a] X.env = (false, eval a X.env) :: starEach [] X.env := by rfl) : PE X (.Call (.Name "len" p) [.Call (.Name "set" p2) [a] [] q] [] pos) (tLenSetJ X.K ta) := by
  refine ⟨fun pins s σ H Q I h => ?_⟩
  refine Call_ (ld_blt I hg hm PySem.boot_len ?_)
  refine PyProof.Rows.callWith_builtin1 (PyProof.Rows.args_cons ?_ rfl) rfl rfl
  refine Call_ (ld_blt I hg2 hm2 PyProof.Rows.boot_set ?_)
  refine PyProof.Rows.callWith_type1 (PyProof.Rows.args_cons (thn (ha.run pins s σ H _ I h) fun v s1 ⟨x, H1, I1, r1, q1⟩ => PyProof.Rows.args_nil ?_) na) na rfl
  obtain ⟨l, ns, rfl, hq, h1, q1⟩ := q1
  cases r1
  obtain ⟨its, r, pl, hz⟩ := I1.list hq
  have hl : its.toArray.size = ns.length := by rw [List.size_toArray, ← r.length, List.length_map]
  refine call_set_list (I1.ok.hd hc) pl.isList (ns := ns) (by simpa using r.ints) (by unfold scanBound; omega) fun h' tk hS hk => ?_
  rw [hl, firstMet_all] at hS
  refine PyProof.Rows.args_nil ?_
  obtain ⟨o, es, ep, t, ho, hex, hd, _, _, _, hf, hn⟩ := hS
  have I2 : Inv X pins σ H1 { s1 with heap := h', toks := tk } := I1.kept fun b o e => hk b o (Heap.lt_size e) e
  have hle : (ddI ns).length ≤ ns.length := by
    rw [← firstMet_all]
    exact firstMet_length_le _ _
  exact call_len_set ho hex hd hf (by rw [hn]; omega) ⟨.int (ddI ns).length, H1, I2.tok _, ⟨_, by rw [hn]⟩, q1⟩
def uLenSet (a : U) : U := fun env => (a env).bind fun p => (rd p.2 p.1).bind fun m => (lsM m).bind fun ds => (intsOf ds).bind fun ns => if ns.length < 1000 then some (.tmp (.p (.int (ddI ns).length)), p.2) else none
section
variable {K : PySem.W.Frag} {H0 H H0' H' : Hp} {σ : L2.St} {env env' : Env} {A A' B C : Fp} {Q : VK}
theorem lenSet_ok {ua : U} : ∀ σ H Q, tOf K (uLenSet ua) σ H Q → tLenSetJ K (tOf K ua) σ H Q := fun σ H Q h => by
  obtain ⟨env, A, H0, op, env', s, e, k⟩ := h
  obtain ⟨⟨x, e1⟩, h1, e⟩ := Option.bind_eq_some_iff.mp e
  obtain ⟨mx, h3, e⟩ := Option.bind_eq_some_iff.mp e
  obtain ⟨ds, h5, e⟩ := Option.bind_eq_some_iff.mp e
  obtain ⟨ns, h6, e⟩ := Option.bind_eq_some_iff.mp e
  split at e
  case isFalse => cases e
  rename_i hl
  cases e
  refine tOf.go s h1 fun v H0' H' A' B s' o1 one f => ?_
  obtain ⟨C1, r1, _⟩ := rd_ok s' o1 h3
  obtain ⟨a, vs, rfl, hq, hd⟩ := rep_ls s'.ex r1 h5
  rw [ints_dq h6 hd] at hq
  exact ⟨a, ns, rfl, hq, hl, fresh_p (post_fresh s' f (fun b hb => by show 0 < A' b + B b; omega) k) s'.ex (.int _)⟩
end
theorem g_lenSet {X : Cx} {a : Expr} {u : U} {p p2 q pos : Pos} (hc : X.calm = true) (hm : X.mg "len" = none) (hm2 : X.mg "set" = none) (ha : PE X a (tOf X.K u)) (hg : Gl X "len" := by rfl) (hg2 : Gl X "set" := by rfl)
    (na : starEach [a] X.env = (false, eval a X.env) :: starEach [] X.env := by rfl) : PE X (.Call (.Name "len" p) [.Call (.Name "set" p2) [a] [] q] [] pos) (tOf X.K (uLenSet u)) := pe_imp (pe_lenSetJ hc hg hm hg2 hm2 ha na) lenSet_ok

/-! ### dict(pairs) -/
def pairD : PyData → Option (Key × PyData)
  | .tuple [k, d] => (keyD k).map fun j => (j, d)
  | _ => none
def pairsD : List PyData → Option (List (Key × PyData))
  | [] => some []
  | d :: ds => (pairD d).bind fun p => (pairsD ds).map (p :: ·)
/-- later pairs win -/
def mergeD : List Key → List M → List (Key × PyData) → List Key × List M
  | ks, ms, [] => (ks, ms)
  | ks, ms, (k, d) :: r => mergeD (putM ks ms k (.p d)).1 (putM ks ms k (.p d)).2 r
def fDictP : List M → Option M
  | [m] => (lsM m).bind fun ds => (pairsD ds).map fun ps => .dk (mergeD [] [] ps).1 (mergeD [] [] ps).2
  | _ => none
section
variable {K : PySem.W.Frag} {H0 H H0' H' : Hp} {σ : L2.St} {env env' : Env} {A A' B C : Fp} {Q : VK}
theorem pairs_dq (ex : Ex H0 H) : ∀ {ds : List PyData} {ps : List (Key × PyData)} {vs : List V}, pairsD ds = some ps → DqAll K H0 vs ds → ∃ (as : List Addr) (kvs : List (Key × V)), vs = as.map V.ref ∧ Paired (fun p kv => SqT K H p [kV kv.1, kv.2]) as kvs ∧ kvs.map (·.1) = ps.map (·.1) ∧ DqAll K H0 (kvs.map (·.2)) (ps.map (·.2))
  | [], ps, vs, e, h => by
    cases e
    cases h
    exact ⟨[], [], rfl, .nil, rfl, .nil⟩
  | d :: ds, ps, vs, e, h => by
    unfold pairsD at e
    obtain ⟨p, h1, e⟩ := Option.bind_eq_some_iff.mp e
    obtain ⟨r, h2, rfl⟩ := Option.map_eq_some_iff.mp e
    cases h with
    | cons a t =>
      obtain ⟨as, kvs, rfl, g1, g2, g3⟩ := pairs_dq ex h2 t
      unfold pairD at h1
      split at h1
      · obtain ⟨j, hj, rfl⟩ := Option.map_eq_some_iff.mp h1
        cases a with
        | tup hh aa =>
          cases aa with
          | cons a1 aa =>
            cases aa with
            | cons a2 aa =>
              cases aa
              rename_i b v1 v2
              have hk := key_dq a1 hj
              subst hk
              exact ⟨b :: as, (j, v2) :: kvs, rfl, .cons (SqT.of (ex _ _ hh)) g1, by rw [List.map_cons, List.map_cons, g2], .cons a2 g3⟩
      · cases h1
theorem merge_dq : ∀ {kvs : List (Key × V)} {ps : List (Key × PyData)} {ks : List Key} {ms : List M} {acc : List V}, kvs.map (·.1) = ps.map (·.1) → DqAll K H0 (kvs.map (·.2)) (ps.map (·.2)) → RepL K H0 H ms acc (fun _ => 0) → ks.length = ms.length → ks.Nodup →
    ∃ acc', RepL K H0 H (mergeD ks ms ps).2 acc' (fun _ => 0) ∧ (mergeD ks ms ps).1.zip acc' = mergeK (ks.zip acc) kvs ∧ (mergeD ks ms ps).1.length = (mergeD ks ms ps).2.length ∧ (mergeD ks ms ps).1.Nodup
  | [], [], ks, ms, acc, e, h, r, hl, nd => ⟨acc, r, rfl, hl, nd⟩
  | [], _ :: _, ks, ms, acc, e, h, r, hl, nd => by cases e
  | _ :: _, [], ks, ms, acc, e, h, r, hl, nd => by cases e
  | (k, v) :: kvs, (k', d) :: ps, ks, ms, acc, e, h, r, hl, nd => by
    rw [List.map_cons, List.map_cons] at e
    obtain ⟨e1, e2⟩ := List.cons.inj e
    have e1 : k = k' := e1
    subst e1
    cases h with
    | cons a t =>
      have rv : Rep K H0 H (.p d) v (fun _ => 0) := ⟨a, fun _ => rfl⟩
      obtain ⟨vs', B', q1, q2, q3, q4, q5, _⟩ := put_rep k r rv hl nd
      have hB : B' = fun _ => 0 := funext fun b => by have := q2 b; omega
      rw [hB] at q1
      obtain ⟨acc', g1, g2, g3, g4⟩ := merge_dq e2 t q1 q4 q5
      refine ⟨acc', g1, ?_, g3, g4⟩
      show (mergeD (putM ks ms k (.p d)).1 (putM ks ms k (.p d)).2 ps).1.zip acc' = _
      rw [g2, q3]
      rfl
theorem fresh_dk {p : Addr} {ks : List Key} {vs : List V} {ms : List M} {m : M} (hm : m = .dk ks ms) (k : Fresh K H0 H m Q) (e : Ex H0 H) (hp : H p = none) (h : RepL K H0 H ms vs fun _ => 0) (hl : ks.length = ms.length ∧ ks.Nodup) : Q (.ref p) (upd H p (.dK (ks.zip vs))) := by
  subst hm
  refine k (.ref p) H0 (upd H p (.dK (ks.zip vs))) (fun b => if b = p then 1 else 0) ⟨p, vs, fun _ => 0, rfl, e.none hp, upd_same, hl, h.mono (Ex.refl _) (fun b hb => absurd hb (Nat.lt_irrefl _)), fun b => rfl⟩ (fun b => ?_) (Ex.refl _) (ex_upd e hp) (upd_keep hp) (fun b hb => ?_) fun b q => .inl q
  · show (if b = p then 1 else 0) ≤ 1
    split <;> omega
  · by_cases q : b = p
    · rw [q]; exact hp
    · have hb' : 0 < (if b = p then 1 else 0) := hb
      rw [if_neg q] at hb'
      omega
theorem fl_dictP : FL K (fun xs H Q => ∃ (a : Addr) (ps : List Addr) (kvs : List (Key × V)), xs = [.ref a] ∧ SqL K H a (ps.map V.ref) ∧ Paired (fun p kv => SqT K H p [kV kv.1, kv.2]) ps kvs ∧
    ∀ p, H p = none → Q (.ref p) (upd H p (.dK (mergeK [] kvs)))) fDictP := by
  intro H0 H vs ms m e rb q Q k
  unfold fDictP at q
  split at q
  · obtain ⟨ds, h1, q⟩ := Option.bind_eq_some_iff.mp q
    obtain ⟨ps, h2, rfl⟩ := Option.map_eq_some_iff.mp q
    obtain ⟨v, C, rfl, r⟩ := repB1 rb
    obtain ⟨a, xs, rfl, h, hd⟩ := rep_ls e r h1
    obtain ⟨as, kvs, rfl, g1, g2, g3⟩ := pairs_dq e h2 hd
    obtain ⟨acc', m1, m2, m3, m4⟩ := merge_dq (K := K) (H0 := H0) (H := H) (ks := []) (ms := []) (acc := []) g2 g3 ⟨rfl, fun _ => rfl⟩ rfl List.nodup_nil
    refine ⟨a, as, kvs, rfl, h, g1, fun p hp => ?_⟩
    have m2 : (mergeD [] [] ps).1.zip acc' = mergeK [] kvs := m2
    rw [← m2]
    exact fresh_dk rfl k e hp m1 ⟨m3, m4⟩
  · cases q
end
theorem g_dictP {X : Cx} {a : Expr} {p pos : Pos} {ua : UA} (hc : X.calm = true) (hm : X.mg "dict" = none) (ha : PA X [a] (aOf X.K ua)) (hg : Gl X "dict" := by rfl) (he : starEach [a] X.env = (false, eval a X.env) :: starEach [] X.env := by rfl) : PE X (.Call (.Name "dict" p) [a] [] pos) (tOf X.K (uFun fDictP ua)) :=
  g_callTy fl_dictP (call_dictP hc) hg hm (by decide +kernel) ha (he := he)
end G

/-! G22: a op b op' c. -/
namespace G
open PySem PySem.Spec PyProof.Rows L2
abbrev dLt := iB fun i j => decide (i < j)
abbrev dLe := iB fun i j => decide (i ≤ j)
abbrev dGt := iB fun i j => decide (j < i)
abbrev dGe := iB fun i j => decide (j ≤ i)
def uChn (f f' : PyData → PyData → Option PyData) (a b c : U) : U := fun env => (a env).bind fun p => (b p.2).bind fun q => (rdD q.2 p.1).bind fun dx => (rdD q.2 q.1).bind fun dy => match f dx dy with
  | some (.bool k) => if k = true then (c q.2).bind fun r => (rdD r.2 q.1).bind fun ey => (rdD r.2 r.1).bind fun ez => match f' ey ez with
      | some (.bool j) => some (.tmp (.p (.bool j)), r.2)
      | _ => none
    else some (.tmp (.p (.bool false)), q.2)
  | _ => none
section
variable {K : PySem.W.Frag} {H0 H H0' H' : Hp} {σ : L2.St} {env env' : Env} {A A' B C : Fp} {Q : VK}
theorem chn_ok {r r' : R2} {f f' : PyData → PyData → Option PyData} {ua ub uc : U} (h : S2 K r f) (h' : S2 K r' f') : ∀ σ H Q, tOf K (uChn f f' ua ub uc) σ H Q → tChain r r' (tOf K ua) (tOf K ub) (tOf K uc) σ H Q := fun σ H Q t => by
  obtain ⟨env, A, H0, op, env', s, e, k⟩ := t
  obtain ⟨⟨x, e1⟩, h1, e⟩ := Option.bind_eq_some_iff.mp e
  obtain ⟨⟨y, e2⟩, h2, e⟩ := Option.bind_eq_some_iff.mp e
  obtain ⟨dx, h3, e⟩ := Option.bind_eq_some_iff.mp e
  obtain ⟨dy, h4, e⟩ := Option.bind_eq_some_iff.mp e
  refine go2 s h1 h2 fun v w H1' H1 A1 B1 C1 s1 o1 o2 one f1 => ?_
  have q1 := rdD_ok s1 o1 h3
  have q2 := rdD_ok s1 o2 h4
  have hf : ∃ kk, f dx dy = some (.bool kk) := by
    revert e
    cases f dx dy with
    | none => exact nofun
    | some d =>
      cases d with
      | bool kk => exact fun _ => ⟨kk, rfl⟩
      | _ => exact nofun
  obtain ⟨kk, hf⟩ := hf
  rw [hf] at e
  obtain ⟨z, hz, hr⟩ := h H1 v w dx dy _ q1 q2 hf
  refine hr _ ⟨kk, dq_bl (hz H1), ?_⟩
  cases kk with
  | false =>
    rw [if_neg (by decide)]
    have e : some (Op.tmp (.p (.bool false)), e2) = some (op, env') := e
    cases e
    refine k _ H1' H1 A1 (fun _ => 0) s1 ⟨.bl _, fun _ => rfl⟩ (fun b => s1.one b) (f1.weak fun b hb => ?_)
    have hb : 0 < A1 b + 0 := hb
    show 0 < A1 b + B1 b + C1 b
    omega
  | true =>
    rw [if_pos rfl]
    have e : (uc e2).bind (fun r => (rdD r.2 y).bind fun ey => (rdD r.2 r.1).bind fun ez => match f' ey ez with
      | some (.bool j) => some (Op.tmp (.p (.bool j)), r.2)
      | _ => none) = some (op, env') := e
    obtain ⟨⟨z9, e3⟩, h5, e⟩ := Option.bind_eq_some_iff.mp e
    obtain ⟨ey, h6, e⟩ := Option.bind_eq_some_iff.mp e
    obtain ⟨ez, h7, e⟩ := Option.bind_eq_some_iff.mp e
    have hg : ∃ j, f' ey ez = some (.bool j) := by
      revert e
      cases f' ey ez with
      | none => exact nofun
      | some d =>
        cases d with
        | bool j => exact fun _ => ⟨j, rfl⟩
        | _ => exact nofun
    obtain ⟨j, hg⟩ := hg
    simp only [hg] at e
    cases e
    refine tOf.go s1 h5 fun w9 H2' H2 A2 B2 s2 o9 one2 f2 => ?_
    have q3 := rdD_ok s2 (f2.op o2 (fun b => by have := one b; omega)) h6
    have q4 := rdD_ok s2 o9 h7
    obtain ⟨z2, hz2, hr2⟩ := h' H2 w w9 ey ez _ q3 q4 hg
    refine hr2 _ ?_
    rw [dq_bl (hz2 H2)]
    refine k _ H2' H2 A2 (fun _ => 0) s2 ⟨.bl _, fun _ => rfl⟩ (fun b => s2.one b) ?_
    refine (f1.trans f2 (E := fun b => A2 b + B2 b) (fun b hb => by show 0 < A1 b + B1 b + C1 b; omega) fun b hb => .inr hb).weak fun b hb => ?_
    have hb : 0 < A2 b + 0 := hb
    show 0 < A2 b + B2 b
    omega
end
section
variable {X : Cx} {a b c : Expr} {pos : Pos} {ua ub uc : U} {r r' : R2} {f f' : PyData → PyData → Option PyData} {op op' : CmpOp}
theorem g_chain (h : S2 X.K r f) (ho : OpR X (compareOp op) r) (h' : S2 X.K r' f') (ho' : OpR X (compareOp op') r') (ha : PE X a (tOf X.K ua)) (hb : PE X b (tOf X.K ub)) (hc : PE X c (tOf X.K uc)) (hm : lastMarks [op, op'] [b, c] = false := by with_unfolding_all rfl) :
    PE X (.Compare a [op, op'] [b, c] pos) (tOf X.K (uChn f f' ua ub uc)) := pe_imp (pe_chain ho ho' ha hb hc hm) (chn_ok h h')
theorem gt_chain (h : S2 X.K r f) (ho : OpR X (compareOp op) r) (h' : S2 X.K r' f') (ho' : OpR X (compareOp op') r') (ha : PE X a (tOf X.K ua)) (hb : PE X b (tOf X.K ub)) (hc : PE X c (tOf X.K uc)) (hm : lastMarks [op, op'] [b, c] = false := by with_unfolding_all rfl) :
    PT X (.Compare a [op, op'] [b, c] pos) (ttOf X.K (uTruB (uChn f f' ua ub uc))) := pt_imp (pt_chain ho ho' ha hb hc hm) fun σ H Q t => by
  exact chn_ok h h' σ H _ (truB_ok σ H Q t)
end
end G

/-! G23: a dict of one's own walked by its keys: shared from there on. -/
namespace G
open PySem PySem.Spec PyProof.Rows L2
def keyP : Key → PyData
  | .inl i => .int i
  | .inr x => .str x
def uiKeys (i : Nat) : UI := fun env => match env[i]? with
  | some (some (.dk ks ms)) => (allP ms).map fun ds => (ks.map keyP, env.set i (some (.fk ks ds)))
  | some (some (.fk ks ds)) => some (ks.map keyP, env)
  | _ => none
def iLock (t : TI) : TI := fun σ H R => (∃ d u, H d = some u ∧ Mut (some u) ∧ ∀ od, t σ (upd H d (.frz od u)) R) ∨ t σ H R
theorem pi_lock {X : Cx} {tg e : Expr} {t : TI} (h : PI X tg e t) : PI X tg e (iLock t) := ⟨fun pins s σ H R I hw => by
  rcases hw with ⟨d, u, hd, mu, hw⟩ | hw
  · obtain ⟨od, I1⟩ := I.lock hd mu
    exact h.run pins s σ _ R I1 (hw od)
  · exact h.run pins s σ _ R I hw⟩
section
variable {K : PySem.W.Frag} {H0 H H0' H' : Hp} {σ : L2.St} {env env' : Env} {A A' B C : Fp}
theorem it_keys {a : Addr} {o : Obj} {ks : List Key} {vs : List V} (h : H0 a = some (.frz o (.dK (ks.zip vs)))) (hl : vs.length = ks.length) : ItOk K H0 (Itk a o (ks.zip vs)) (ks.map keyP) where
  go := fun i H hi e => ⟨e _ _ h, by rw [List.length_map] at hi; rw [List.length_zip, hl, Nat.min_self]; exact hi⟩
  yld := fun i Hc H x H' e0 e hi y => by
    obtain ⟨rfl, k, v, hk, rfl⟩ := y
    rw [List.length_map] at hi
    refine ⟨Hc, keyP k, Gro.refl e, ?_, ?_⟩
    · have h1 : (ks.zip vs)[i]? = some (ks[i], vs[i]'(by omega)) := by
        rw [List.getElem?_eq_getElem (by rw [List.length_zip, hl, Nat.min_self]; exact hi)]
        simp
      rw [h1] at hk
      cases hk
      rw [List.getElem?_map, List.getElem?_eq_getElem hi]
      rfl
    · cases k with
      | inl i => exact .int i
      | inr x => exact .str x
  stop := fun H e => ⟨e _ _ h, by rw [List.length_map, List.length_zip, hl, Nat.min_self]; exact Nat.le_refl _⟩
theorem keys_okG {i : Nat} : ∀ σ H R, iOf K (uiKeys i) σ H R → iLock (iKeys (tVar i)) σ H R := fun σ H R t => by
  obtain ⟨env, A, H0, ds, env', s, e, k⟩ := t
  unfold uiKeys at e
  split at e
  · rename_i ks ms he
    obtain ⟨dd, hp, e⟩ := Option.map_eq_some_iff.mp e
    cases e
    obtain ⟨t, A1, A2, f1, f2, f3, f4, f5⟩ := s.rep.zoom he
    obtain ⟨v, rfl, a, vs, B, rfl, h1, h2, hl, h3, h4⟩ := f2
    rw [allP_eq hp] at h3
    obtain ⟨hd, hB⟩ := repL_p h3
    have hz : A1 a = 1 := by rw [h4 a, if_pos rfl, hB a]
    have hA2 : A2 a = 0 := by have := s.one a; have := f3 a; omega
    refine .inl ⟨a, _, h2, trivial, fun od => ?_⟩
    have ex0 : Ex H0 (upd H0 a (.frz od (.dK (ks.zip vs)))) := ex_new h1
    have ex1 : Ex (upd H0 a (.frz od (.dK (ks.zip vs)))) (upd H a (.frz od (.dK (ks.zip vs)))) := ex_upd2 s.ex
    have na : ∀ b, 0 < A2 b → b ≠ a := fun b hb q => by rw [q] at hb; omega
    have z := f5 (some (.fk ks dd)) (some (.ref a)) (fun _ => 0) (upd H0 a (.frz od (.dK (ks.zip vs)))) (upd H a (.frz od (.dK (ks.zip vs)))) ex0 (fun b hb => ⟨by rw [upd_ne (na b hb)]; exact (f4 b hb).1, upd_ne (na b hb)⟩)
      ⟨.ref a, rfl, a, vs, od, rfl, upd_same, ⟨by rw [← dpA_len hd, repL_len h3, List.length_map, hl.1, allP_eq hp, List.length_map], hl.2⟩, dpA_mono ex0 hd, fun _ => rfl⟩
    rw [st_set_self f1] at z
    have z2 : RepE K (upd H0 a (.frz od (.dK (ks.zip vs)))) (upd H a (.frz od (.dK (ks.zip vs)))) (env.set i (some (.fk ks dd))) σ A2 := by simpa using z
    have hlen : vs.length = ks.length := by rw [hl.1, allP_eq hp, List.length_map, dpA_len hd]
    refine ⟨.ref a, f1, a, od, rfl, .inl ⟨_, upd_same, k _ _ _ A2 ⟨z2, fun b => by have := s.one b; have := f3 b; omega, ex1⟩ ⟨ex0, fun b hb ha => upd_ne fun q => ?_, fun b hb => ?_, fun b hb => .inl ?_, fun b hb => ?_⟩ (it_keys upd_same hlen)⟩⟩
    · rw [q] at ha; have := f3 a; omega
    · by_cases q : b = a
      · rw [q, upd_same]; exact nofun
      · rw [upd_ne q]; exact hb
    · have := f3 b; omega
    · by_cases q : b = a
      · rw [q]; right; left; have := f3 a; omega
      · rw [upd_ne q] at hb; exact .inl hb
  · rename_i ks dd he
    cases e
    obtain ⟨t, A1, A2, f1, f2, f3, f4, f5⟩ := s.rep.zoom he
    obtain ⟨v, rfl, a, vs, o, rfl, h1, hl, h2, h3⟩ := f2
    exact .inr ⟨.ref a, f1, a, o, rfl, .inl ⟨_, s.ex _ _ h1, k _ H0 H A s (Fr.refl fun _ h => h) (it_keys h1 (by rw [dpA_len h2, hl.1]))⟩⟩
  · cases e
end
theorem gi_keys {X : Cx} {tg e : Expr} {i : Nat} (he : PE X e (tVar i)) : PI X tg e (iOf X.K (uiKeys i)) := pi_imp (pi_lock (pi_keys he)) keys_okG
end G

/-! G24: comprehensions within comprehensions: what the inner one's names are. -/
namespace G
open PySem PySem.Spec PyProof.Rows L2
def relab (scope sc : Scope) : Scope := { scope with names := scope.names.map fun (n, k) => if (k == .free && sc.kind == .function && List.lookup n sc.names == some .cell) then (n, .cell) else (n, k) }
theorem relabel_eq (scope : Scope) (env : PySem.Env) : relabel scope env = relab scope env.scope := rfl
end G

/-! G25: own things lent; own lists walked; t.index(x), t > u; x += e. -/
namespace G
open PySem PySem.Spec PyProof.Rows L2

/-! ### lent: looked at by an expression that tells a number, a truth, a text, None -/
def lendO : Option M → Option M
  | some (.fk ks ds) => some (.fk ks ds)
  | some m => (frz m).map .p
  | none => none
def lendE (e : Env) : Env := e.map lendO
def immD : PyData → Bool
  | .none => true
  | .bool _ => true
  | .int _ => true
  | .str _ => true
  | _ => false
def uLend (u : U) : U := fun env => (u (lendE env)).bind fun q => (rdD q.2 q.1).bind fun d => if immD d = true then some (.tmp (.p d), env) else none
def utLend (t : UT) : UT := fun env => (t (lendE env)).bind fun q => some (q.1, env)
section
variable {K : PySem.W.Frag} {H0 H H0' H' : Hp} {σ : L2.St} {env env' : Env} {A A' B C : Fp} {Q : VK}
theorem lendO_rep {o : Option M} {s : Option V} (h : RepO K H0 H o s A) (e0 : Ex H0 H0') (k : ∀ b, 0 < A b → H0' b = H b) : RepO K H0' H (lendO o) s fun _ => 0 := by
  cases o with
  | none => exact fun _ => rfl
  | some m =>
    obtain ⟨v, rfl, r⟩ := h
    have go : ∀ x : Option PyData, (∀ d, x = some d → frz m = some d) → RepO K H0' H (x.map M.p) (some v) fun _ => 0 := fun x hx => by
      cases x with
      | none => exact fun _ => rfl
      | some d => exact ⟨v, rfl, r.frz e0 k (hx d rfl), fun _ => rfl⟩
    cases m with
    | fk ks ds =>
      obtain ⟨a, vs, o, rfl, h1, hl, hd, h0⟩ := r
      exact ⟨_, rfl, a, vs, o, rfl, e0 _ _ h1, hl, dpA_mono e0 hd, fun _ => rfl⟩
    | p d => exact go (frz (.p d)) fun d h => h
    | l ms => exact go (frz (.l ms)) fun d h => h
    | t ms => exact go (frz (.t ms)) fun d h => h
    | dk ks ms => exact go (frz (.dk ks ms)) fun d h => h
    | dt ks ms => exact go (frz (.dt ks ms)) fun d h => h
theorem lend_rep (e0 : Ex H0 H0') : ∀ {env : Env} {σ : L2.St} {A : Fp}, RepE K H0 H env σ A → (∀ b, 0 < A b → H0' b = H b) → RepE K H0' H (lendE env) σ fun _ => 0
  | [], σ, A, h, k => by obtain ⟨rfl, _⟩ := h; exact ⟨rfl, fun _ => rfl⟩
  | o :: es, σ, A, h, k => by
    obtain ⟨s, σr, A1, A2, rfl, h1, h2, e⟩ := h
    exact ⟨s, σr, fun _ => 0, fun _ => 0, rfl, lendO_rep h1 e0 fun b hb => k b (by rw [e b]; omega), lend_rep e0 h2 fun b hb => k b (by rw [e b]; omega), fun _ => rfl⟩
theorem shr_ex (s : Stt K H0 H σ env A) : Ex H0 (shr H0 H A) ∧ Ex (shr H0 H A) H := ⟨fun b o hb => by
  unfold shr
  by_cases q : 0 < A b
  · rw [(s.rep.own b q).1] at hb
    cases hb
  · rw [if_neg q]
    exact hb, fun b o hb => by
  unfold shr at hb
  by_cases q : 0 < A b
  · rw [if_pos q] at hb; exact hb
  · rw [if_neg q] at hb; exact s.ex b o hb⟩
theorem stt_lend (s : Stt K H0 H σ env A) : Stt K (shr H0 H A) H σ (lendE env) fun _ => 0 :=
  ⟨lend_rep (shr_ex s).1 s.rep fun b hb => by unfold shr; rw [if_pos hb], fun _ => Nat.zero_le _, (shr_ex s).2⟩
theorem lend_back (s : Stt K H0 H σ env A) (f : Fr (shr H0 H A) H (fun _ => 0) H0' H' C) (e : Ex H0' H') : Stt K H0 H' σ env A ∧ Fr H0 H A H0 H' A := by
  refine ⟨⟨s.rep.mono (Ex.refl _) fun b hb => ?_, s.one, (shr_ex s).1.trans (f.e0.trans e)⟩, ⟨Ex.refl _, fun b hb _ => f.keep b hb rfl, f.dom, fun b hb => .inl hb, fun b hb => .inl hb⟩⟩
  obtain ⟨o1, o2⟩ := s.rep.own b hb
  exact ⟨o1, f.keep b o2 rfl⟩
theorem tlend_ok {t : UT} : ∀ σ H Q, ttOf K (utLend t) σ H Q → ttOf K t σ H Q := fun σ H Q h => by
  obtain ⟨env, A, H0, c, env', s, e, k⟩ := h
  obtain ⟨⟨c1, e1⟩, h1, e⟩ := Option.bind_eq_some_iff.mp e
  cases e
  refine ⟨lendE env, fun _ => 0, shr H0 H A, _, e1, stt_lend s, h1, fun H0' H' A' s' f => ?_⟩
  obtain ⟨s2, f2⟩ := lend_back s f s'.ex
  exact k H0 H' A s2 f2
theorem lend_ok {u : U} : ∀ σ H Q, tOf K (uLend u) σ H Q → tOf K u σ H Q := fun σ H Q h => by
  obtain ⟨env, A, H0, op, env', s, e, k⟩ := h
  obtain ⟨⟨x, e1⟩, h1, e⟩ := Option.bind_eq_some_iff.mp e
  obtain ⟨d, h2, e⟩ := Option.bind_eq_some_iff.mp e
  split at e
  case isFalse => cases e
  rename_i hd
  cases e
  refine ⟨lendE env, fun _ => 0, shr H0 H A, x, e1, stt_lend s, h1, fun v H0' H' A' B s' o one f => ?_⟩
  obtain ⟨s2, f2⟩ := lend_back s f s'.ex
  have q := rdD_ok s' o h2
  have q' : Dq K H0 v d := by
    cases q with
    | non => exact .non
    | bl b => exact .bl b
    | int i => exact .int i
    | str x => exact .str x
    | lst h a => cases hd
    | tup h a => cases hd
  exact k v H0 H' A (fun _ => 0) s2 ⟨q', fun _ => rfl⟩ (fun b => s2.one b) (f2.weak fun b hb => by have hb : 0 < A b + 0 := hb; omega)
end
section
variable {X : Cx} {e : Expr} {u : U} {t : UT}
theorem g_lend (h : PE X e (tOf X.K u)) : PE X e (tOf X.K (uLend u)) := pe_imp h lend_ok
theorem gt_lend (h : PT X e (ttOf X.K t)) : PT X e (ttOf X.K (utLend t)) := pt_imp h tlend_ok
end

/-! ### an own list walked, out of sight meanwhile -/
def sForO (i : Nat) (p : Pat) (body : S) : S := fun env => match env[i]? with
  | some (some (.l ms)) => (allP ms).bind fun ds => (forL p body ds (env.set i none)).bind fun o => match o with
    | .nx e => some (.nx (e.set i (some (.l ms))))
    | .rt m e => some (.rt m e)
    | _ => none
  | _ => none
section
variable {K : PySem.W.Frag} {np np' : Nat} {H0 H H0' H' : Hp} {σ σ' : L2.St} {env env' : Env} {A A' B C : Fp} {D : Ends} {Q : VK}
theorem Pin.less (h : Pin np' σ σ') (k : np ≤ np') : Pin np σ σ' := fun j hj => h j (by omega)
theorem forO_okS {i : Nat} {p : Pat} {body : S} (hi : i < np') (hnp : np ≤ np') (hp : ∀ k, k ∈ slots p → np' ≤ k) : ∀ D σ H, sOf K np (sForO i p body) D σ H → tFor (iList K (tVar i)) (gOf K p) (sOf K np' body) D σ H := fun D σ H h => by
  obtain ⟨env, A, H0, out, s, e, k⟩ := h
  unfold sForO at e
  split at e
  case h_2 => cases e
  rename_i ms e0
  obtain ⟨ds, hds, e⟩ := Option.bind_eq_some_iff.mp e
  obtain ⟨o1, ho, e⟩ := Option.bind_eq_some_iff.mp e
  obtain ⟨t, A1, A2, f1, f2, f3, f4, f5⟩ := s.rep.zoom e0
  obtain ⟨v, rfl, a, vs, A', rfl, g1, g2, g3, g4⟩ := f2
  rw [allP_eq hds] at g3
  obtain ⟨hdq, hA'⟩ := repL_p g3
  have na : A2 a = 0 := by
    have := s.one a
    have := f3 a
    have := g4 a
    rw [if_pos rfl] at this
    omega
  have s0 : Stt K H0 H σ (env.set i none) A2 := by
    have z := f5 none (some (.ref a)) (fun _ => 0) H0 H (Ex.refl _) (fun b hb => ⟨(f4 b hb).1, rfl⟩) (fun _ => rfl)
    rw [st_set_self f1] at z
    exact ⟨by simpa using z, fun b => by have := s.one b; have := f3 b; omega, s.ex⟩
  have hne : H a ≠ none := by rw [g2]; exact nofun
  have sl : ∀ {Hx H0x : Hp} {Ax : Fp}, Fr H0 H A2 H0x Hx Ax → SqL K Hx a vs := fun f => SqL.of ((f.keep a hne na).trans g2)
  have hlen : vs.length = ds.length := dpA_len hdq
  refine ⟨.ref a, f1, a, rfl, ⟨vs, SqL.of g2⟩, fun i m σ' H' => ∃ env' A' H0', Stt K H0' H' σ' env' A' ∧ Fr H0 H A2 H0' H' A' ∧ Pin np' σ σ' ∧ i + m = ds.length ∧ forL p body (ds.drop i) env' = some o1, ⟨ds.length, _, A2, H0, s0, Fr.refl fun _ h => h, .refl, by omega, by rw [List.drop_zero]; exact ho⟩, ?_⟩
  -- the end: the slot has its list again
  have fin : ∀ e9, o1 = .nx e9 → ∀ σ' H0' H' A', Stt K H0' H' σ' e9 A' → Fr H0 H A2 H0' H' A' → Pin np' σ σ' → D.nx σ' H' := by
    intro e9 he σ' H0' H' A' s' f' p'
    subst he
    cases e
    have hs : σ'[i]? = some (some (.ref a)) := (p' i hi).trans f1
    have hn' : H0' a = none := by
      cases q : H0' a with
      | none => rfl
      | some o =>
        rcases f'.fz a (by rw [q]; exact nofun) with r | r | r
        · exact absurd g1 r
        · omega
        · exact absurd r hne
    have nA : A' a = 0 := by
      by_cases q : 0 < A' a
      · rcases f'.new a q with r | r
        · omega
        · exact absurd r hne
      · omega
    have r9 : Rep K H0' H' (.l ms) (.ref a) fun b => if b = a then 1 else 0 := by
      rw [allP_eq hds]
      exact ⟨a, vs, fun _ => 0, rfl, hn', (f'.keep a hne na).trans g2, repL_of_p (dpA_mono f'.e0 hdq), fun b => rfl⟩
    obtain ⟨A9, h9, l9⟩ := s'.rep.slot (i := i) (o := some (.l ms)) (s := some (.ref a)) ⟨_, rfl, r9⟩
    rw [st_set_self hs] at h9
    refine k σ' H0' H' A9 ⟨h9, fun b => ?_, s'.ex⟩ ⟨f'.e0, fun b hb ha => f'.keep b hb (by have := f3 b; omega), f'.dom, fun b hb => ?_, fun b hb => (f'.fz b hb).imp id fun z => z.imp (fun z => by have := f3 b; omega) id⟩ (p'.less hnp)
    · have l : A9 b ≤ A' b + (if b = a then 1 else 0) := l9 b
      have := s'.one b
      by_cases q : b = a
      · rw [if_pos q] at l; rw [q] at l ⊢; omega
      · rw [if_neg q] at l; omega
    · have l : A9 b ≤ A' b + (if b = a then 1 else 0) := l9 b
      by_cases q : b = a
      · have g := g4 b
        have := f3 b
        rw [if_pos q] at g
        exact .inl (by omega)
      · rw [if_neg q] at l
        exact (f'.new b (by omega)).imp (fun z => by have := f3 b; omega) id
  have finR : ∀ m9 e9, o1 = .rt m9 e9 → ∀ v σ' H0' H' A' B, Stt K H0' H' σ' e9 A' → Rep K H0' H' m9 v B → (∀ b, A' b + B b ≤ 1) → Fr H0 H A2 H0' H' (fun b => A' b + B b) → Pin np' σ σ' → D.rt v H' := by
    intro m9 e9 he v σ' H0' H' A' B s' r' one' f' p'
    subst he
    cases e
    exact k v σ' H0' H' A' B s' r' one' (f'.wide fun b hb => by have := f3 b; omega) (p'.less hnp)
  rintro j m σ' H' ⟨env', A', H0', s', f', p', him, hr⟩
  by_cases hj : j < ds.length
  case neg =>
    have ej : j = ds.length := by omega
    subst ej
    rw [List.drop_length] at hr
    have hr : some (Out.nx env') = some o1 := hr
    exact .inl ⟨⟨vs, sl f', by rw [hlen]; exact Nat.le_refl _⟩, fin env' (Option.some.inj hr).symm σ' H0' H' A' s' f' p'⟩
  case pos =>
    rw [List.drop_eq_getElem_cons hj] at hr
    unfold forL at hr
    obtain ⟨ea, q1, hr⟩ := Option.bind_eq_some_iff.mp hr
    obtain ⟨ob, q2, hr⟩ := Option.bind_eq_some_iff.mp hr
    refine .inr ⟨⟨vs, vs[j]'(by omega), sl f', List.getElem?_eq_getElem _⟩, fun σ2 H2 => ∃ env' A' H0', Stt K H0' H2 σ2 env' A' ∧ Fr H0 H A2 H0' H2 A' ∧ Pin np' σ σ2 ∧ forL p body (ds.drop (j + 1)) env' = some o1, fun σ2 H2 hN => ?_, fun x Hx hy => ?_⟩
    · obtain ⟨en, An, Hn0, w1, w2, w3, w4⟩ := hN
      exact ⟨m - 1, by omega, en, An, Hn0, w1, w2, w3, by omega, w4⟩
    · obtain ⟨rfl, hy⟩ := hy
      have hx := hy vs (sl f')
      obtain ⟨d, hd, hdx⟩ := dpA_at hdq hx
      have hd' : d = ds[j] := by
        rw [List.getElem?_eq_getElem hj] at hd
        exact (Option.some.inj hd).symm
      subst hd'
      refine ⟨env', A', H0', .p ds[j], fun _ => 0, ea, s', ⟨dp_mono f'.e0 hdx, fun _ => rfl⟩, fun b => s'.one b, q1, fun σ2 Ha0 Ha Aa sa fa ba => ?_⟩
      have fa' : Fr H0' Hx A' Ha0 Ha Aa := fa.wide fun b hb => hb
      have fxa := f'.trans fa' (E := Aa) (fun _ h => h) fun b hb => .inr hb
      have pa : Pin np' σ σ2 := p'.trans (ba.pin hp)
      refine sOf.go sa q2 ?_
      cases ob with
      | nx e9 => exact fun σ3 H03 H3 A3 s3 f3 p3 => ⟨e9, A3, H03, s3, fxa.trans f3 (fun _ h => h) (fun b hb => .inr hb), pa.trans p3, (stE_eq _ _).symm.trans hr⟩
      | ct e9 => exact fun σ3 H03 H3 A3 s3 f3 p3 => ⟨e9, A3, H03, s3, fxa.trans f3 (fun _ h => h) (fun b hb => .inr hb), pa.trans p3, (stE_eq _ _).symm.trans hr⟩
      | bk e9 =>
        have hr : some (Out.nx e9) = some o1 := hr
        exact fun σ3 H03 H3 A3 s3 f3 p3 => fin e9 (Option.some.inj hr).symm σ3 H03 H3 A3 s3 (fxa.trans f3 (fun _ h => h) fun b hb => .inr hb) (pa.trans p3)
      | rt m9 e9 =>
        have hr : some (Out.rt m9 e9) = some o1 := hr
        exact fun v σ3 H03 H3 A3 B3 s3 r3 one3 f3 p3 => finR m9 e9 (Option.some.inj hr).symm v σ3 H03 H3 A3 B3 s3 r3 one3 (fxa.trans f3 (fun _ h => h) fun b hb => .inr hb) (pa.trans p3)
end
section
variable {X : Cx} {np : Nat} {p : Pat} {a : S} {pos : Pos}
theorem gs_forO (np' i : Nat) {tg iter : Expr} {body : List Stmt} (hP : PassesOwn (model X.prog X.w) X.A X.env X.xe) (hc : X.calm = true) (hi : PE X iter (tVar i)) (hg : PG X tg (gOf X.K p)) (hb : PSs X body (sOf X.K np' a)) (hin : i < np' := by decide) (hnp : np ≤ np' := by decide) (hp : ∀ k, k ∈ slots p → np' ≤ k := by decide)
    (hs : ∀ x, foldedSetIterable iter X.env x = pure x := by intro _; rfl) : PS X (.For tg iter body [] pos) (sOf X.K np (sForO i p a)) := ps_imp (ps_for hP hc (pi_list hi) hg hb hs) (forO_okS hin hnp hp)
end

/-! ### a tuple in the hand walked, its parts handed on -/
def forM (p : Pat) (body : S) : List M → Env → Option Out
  | [], env => some (.nx env)
  | m :: ms, env => (asg p m env).bind fun e1 => (body e1).bind fun o => match o with
    | .nx e => stE e fun e => forM p body ms e
    | .ct e => stE e fun e => forM p body ms e
    | .bk e => some (.nx e)
    | .rt m e => some (.rt m e)
def sForT (u : U) (p : Pat) (body : S) : S := fun env => (u env).bind fun q => match q.1 with
  | .tmp (.t ms) => forM p body ms q.2
  | _ => none
section
variable {K : PySem.W.Frag} {np np' : Nat} {H0 H H0' H' : Hp} {σ σ' : L2.St} {env env' : Env} {A A' B C : Fp} {D : Ends} {Q : VK}
theorem repL_dropk : ∀ {ms : List M} {vs : List V} {A : Fp} (n : Nat) (h : n < ms.length), RepL K H0 H (ms.drop n) (vs.drop n) A → ∃ v A1 A2, vs[n]? = some v ∧ Rep K H0 H (ms[n]'h) v A1 ∧ RepL K H0 H (ms.drop (n + 1)) (vs.drop (n + 1)) A2 ∧ ∀ b, A b = A1 b + A2 b := by
  intro ms vs A n h r
  rw [List.drop_eq_getElem_cons h] at r
  obtain ⟨v, vr, A1, A2, e, r1, r2, ea⟩ := r
  have hn : n < vs.length := by
    by_cases q : n < vs.length
    · exact q
    · rw [List.drop_of_length_le (by omega)] at e; cases e
  rw [List.drop_eq_getElem_cons hn] at e
  injection e with e1 e2
  subst e1 e2
  exact ⟨_, A1, A2, List.getElem?_eq_getElem hn, r1, r2, ea⟩
theorem forT_okS {u : U} {p : Pat} {body : S} (hp : ∀ k, k ∈ slots p → np ≤ k) : ∀ D σ H, sOf K np (sForT u p body) D σ H → tFor (iTup K (tOf K u)) (gOf K p) (sOf K np body) D σ H := fun D σ H h => by
  obtain ⟨env, A, H0, out, s, e, k⟩ := h
  obtain ⟨⟨x, e1⟩, h1, e⟩ := Option.bind_eq_some_iff.mp e
  have hx : ∃ ms, x = .tmp (.t ms) := by
    cases x with
    | slot i => cases e
    | tmp m => cases m with
      | t ms => exact ⟨ms, rfl⟩
      | _ => cases e
  obtain ⟨ms, rfl⟩ := hx
  have e : forM p body ms e1 = some out := e
  refine tOf.go s h1 fun v Hs0 Hs As Bs ss oo one fs => ?_
  obtain ⟨a, vs, rfl, h2, h3⟩ : ∃ a vs, v = .ref a ∧ Hs0 a = some (.tup vs) ∧ RepL K Hs0 Hs ms vs Bs := oo
  have k := k.go fs .refl
  have hlen : vs.length = ms.length := repL_len h3
  have sq : ∀ {Hx H0x : Hp} {Ax : Fp}, Fr Hs0 Hs (fun b => As b + Bs b) H0x Hx Ax → Ex H0x Hx → SqT K Hx a vs := fun f ex => SqT.of (ex _ _ (f.e0 _ _ h2))
  refine ⟨a, rfl, ⟨vs, SqT.of (ss.ex _ _ h2)⟩, fun i m σ' H' => ∃ env' A' H0' Ar, Stt K H0' H' σ' env' A' ∧ RepL K H0' H' (ms.drop i) (vs.drop i) Ar ∧ (∀ b, A' b + Ar b ≤ 1) ∧ Fr Hs0 Hs (fun b => As b + Bs b) H0' H' (fun b => A' b + Ar b) ∧ Pin np σ σ' ∧ i + m = ms.length ∧ forM p body (ms.drop i) env' = some out,
    ⟨ms.length, e1, As, Hs0, Bs, ss, by rw [List.drop_zero, List.drop_zero]; exact h3, one, Fr.refl fun _ h => h, .refl, by omega, by rw [List.drop_zero]; exact e⟩, ?_⟩
  rintro i m σ' H' ⟨env', A', H0', Ar, s', r', one', f', p', him, hr⟩
  by_cases hi : i < ms.length
  case neg =>
    have ei : i = ms.length := by omega
    subst ei
    rw [List.drop_length] at hr
    have hr : some (Out.nx env') = some out := hr
    cases hr
    exact .inl ⟨⟨vs, sq f' s'.ex, by omega⟩, k σ' H0' H' A' s' (f'.weak fun b hb => by show 0 < A' b + Ar b; omega) p'⟩
  case pos =>
    rw [List.drop_eq_getElem_cons hi] at hr
    unfold forM at hr
    obtain ⟨ea, g1, hr⟩ := Option.bind_eq_some_iff.mp hr
    obtain ⟨ob, g2, hr⟩ := Option.bind_eq_some_iff.mp hr
    obtain ⟨v, R1, R2, hv, rv, rr, er⟩ := repL_dropk i hi r'
    refine .inr ⟨⟨vs, v, sq f' s'.ex, hv⟩, fun σ2 H2 => ∃ env' A' H0' Ar, Stt K H0' H2 σ2 env' A' ∧ RepL K H0' H2 (ms.drop (i + 1)) (vs.drop (i + 1)) Ar ∧ (∀ b, A' b + Ar b ≤ 1) ∧ Fr Hs0 Hs (fun b => As b + Bs b) H0' H2 (fun b => A' b + Ar b) ∧ Pin np σ σ2 ∧ forM p body (ms.drop (i + 1)) env' = some out, fun σ2 H2 hN => ?_, fun x Hx hy => ?_⟩
    · obtain ⟨en, An, Hn0, Anr, q1, q2, q3, q4, q5, q6⟩ := hN
      exact ⟨m - 1, by omega, en, An, Hn0, Anr, q1, q2, q3, q4, q5, by omega, q6⟩
    · obtain ⟨rfl, hy⟩ := hy
      have hx := hy vs (sq f' s'.ex)
      rw [hv] at hx
      cases hx
      refine ⟨env', A', H0', ms[i], R1, ea, s', rv, fun b => by have := one' b; have := er b; omega, g1, fun σ2 Ha0 Ha Aa sa fa ba => ?_⟩
      have apa : ∀ b, Aa b + R2 b ≤ 1 := fa.apart (fun b hb => (rr.own b hb).2) (fun b => by have := one' b; have := er b; show A' b + R1 b + R2 b ≤ 1; omega) sa.one
      have rra : RepL K Ha0 Ha (ms.drop (i + 1)) (vs.drop (i + 1)) R2 := fa.repL rr fun b => by have := one' b; have := er b; show A' b + R1 b + R2 b ≤ 1; omega
      have fxa : Fr Hs0 Hs (fun b => As b + Bs b) Ha0 Ha (fun b => Aa b + R2 b) := f'.trans fa (fun b hb => by have hb : 0 < A' b + R1 b := hb; have := er b; show 0 < A' b + Ar b; omega) fun b hb => by
        have hb : 0 < Aa b + R2 b := hb
        have := er b
        by_cases q : 0 < Aa b
        · exact .inr q
        · exact .inl (by show 0 < A' b + Ar b; omega)
      have pa : Pin np σ σ2 := p'.trans (ba.pin hp)
      refine sOf.go sa g2 ?_
      have nxt : ∀ e9, forM p body (ms.drop (i + 1)) e9 = some out → ∀ σ3 H03 H3 A3, Stt K H03 H3 σ3 e9 A3 → Fr Ha0 Ha Aa H03 H3 A3 → Pin np σ2 σ3 → ∃ env' A' H0' Ar, Stt K H0' H3 σ3 env' A' ∧ RepL K H0' H3 (ms.drop (i + 1)) (vs.drop (i + 1)) Ar ∧ (∀ b, A' b + Ar b ≤ 1) ∧ Fr Hs0 Hs (fun b => As b + Bs b) H0' H3 (fun b => A' b + Ar b) ∧ Pin np σ σ3 ∧ forM p body (ms.drop (i + 1)) env' = some out := by
        intro e9 he σ3 H03 H3 A3 s3 f3 p3
        have ap3 : ∀ b, A3 b + R2 b ≤ 1 := f3.apart (fun b hb => (rra.own b hb).2) apa s3.one
        refine ⟨e9, A3, H03, R2, s3, f3.repL rra apa, ap3, fxa.trans f3 (fun b hb => by show 0 < Aa b + R2 b; omega) (fun b hb => ?_), pa.trans p3, he⟩
        have hb : 0 < A3 b + R2 b := hb
        by_cases q : 0 < A3 b
        · exact .inr q
        · exact .inl (by show 0 < Aa b + R2 b; omega)
      cases ob with
      | nx e9 => exact nxt e9 ((stE_eq _ _).symm.trans hr)
      | ct e9 => exact nxt e9 ((stE_eq _ _).symm.trans hr)
      | bk e9 =>
        have hr : some (Out.nx e9) = some out := hr
        cases hr
        exact fun σ3 H03 H3 A3 s3 f3 p3 => k σ3 H03 H3 A3 s3 (fxa.trans f3 (fun b hb => by show 0 < Aa b + R2 b; omega) fun b hb => .inr hb) (pa.trans p3)
      | rt m9 e9 =>
        have hr : some (Out.rt m9 e9) = some out := hr
        cases hr
        exact fun v σ3 H03 H3 A3 B3 s3 r3 o3 f3 p3 => k v σ3 H03 H3 A3 B3 s3 r3 o3 (fxa.trans f3 (fun b hb => by show 0 < Aa b + R2 b; omega) fun b hb => .inr hb) (pa.trans p3)
end
section
variable {X : Cx} {np : Nat} {p : Pat} {a : S} {u : U} {pos : Pos}
theorem gs_forT {tg iter : Expr} {body : List Stmt} (hP : PassesOwn (model X.prog X.w) X.A X.env X.xe) (hc : X.calm = true) (hi : PE X iter (tOf X.K u)) (hg : PG X tg (gOf X.K p)) (hb : PSs X body (sOf X.K np a)) (hp : ∀ k, k ∈ slots p → np ≤ k := by decide)
    (hs : ∀ x, foldedSetIterable iter X.env x = pure x := by intro _; rfl) : PS X (.For tg iter body [] pos) (sOf X.K np (sForT u p a)) := ps_imp (ps_for hP hc (pi_tup hi) hg hb hs) (forT_okS hp)
end
end G

/-! G26: t > u of tuples of ints; min, max of two; x += e. -/
namespace G
open PySem PySem.Spec PyProof.Rows L2
/-! ### t > u -/
def gtI : List Int → List Int → Bool
  | [], _ => false
  | _ :: _, [] => true
  | x :: xs, y :: ys => if x = y then gtI xs ys else decide (y < x)
def rGtT (K : PySem.W.Frag) : R2 := fun x y H Q => ∃ (a b : Addr) (ns ms : List Int), x = .ref a ∧ y = .ref b ∧ SqT K H a (ns.map V.int) ∧ SqT K H b (ms.map V.int) ∧ Q (.bl (gtI ns ms)) H
theorem lexAt_gt (ns ms : List Int) : ∀ (k i : Nat), i + k = min ns.length ms.length →
    Ob.lexAt (fun j => decide (ns.getD j 0 = ms.getD j 0)) (fun j => decide (ms.getD j 0 < ns.getD j 0)) (decide (ns.length > ms.length)) i k = gtI (ns.drop i) (ms.drop i)
  | 0, i, h => by
    rw [Ob.lexAt_zero]
    by_cases q : ns.length ≤ i
    · rw [List.drop_of_length_le q, gtI]
      exact decide_eq_false (by omega)
    · have h2 : ms.length ≤ i := by omega
      rw [List.drop_of_length_le h2, List.drop_eq_getElem_cons (by omega : i < ns.length), gtI]
      exact decide_eq_true (by omega)
  | k + 1, i, h => by
    rw [Ob.lexAt_succ, lexAt_gt ns ms k (i + 1) (by omega)]
    have h1 : i < ns.length := by omega
    have h2 : i < ms.length := by omega
    rw [List.drop_eq_getElem_cons h1, List.drop_eq_getElem_cons h2, gtI]
    have e1 : ns.getD i 0 = ns[i] := by simp [h1]
    have e2 : ms.getD i 0 = ms[i] := by simp [h2]
    rw [e1, e2]
    by_cases q : ns[i] = ms[i]
    · rw [if_pos (decide_eq_true q), if_pos q]
    · rw [if_neg (by rw [decide_eq_false q]; exact Bool.false_ne_true), if_neg q]
theorem op_gtT {X : Cx} (hu : X.A.units < cLine) : OpR X (compareOp .Gt) (rGtT X.K) := by
  intro pins s σ H x y v u Q I rx ry h
  obtain ⟨a, b, ns, ms, rfl, rfl, ha, hb, q⟩ := h
  cases rx
  cases ry
  obtain ⟨its, r1, p1, _⟩ := I.tuple ha
  obtain ⟨its2, r2, p2, _⟩ := I.tuple hb
  have i1 : IntsAre its ns := Vals.ints r1
  have i2 : IntsAre its2 ms := Vals.ints r2
  have e1 : its.toArray.size = ns.length := by rw [List.size_toArray]; exact i1.length
  have e2 : its2.toArray.size = ms.length := by rw [List.size_toArray]; exact i2.length
  have at1 : ∀ j (h1 : j < its.toArray.size), ∃ t, its.toArray[j] = .int (ns.getD j 0) t := fun j h1 => PyProof.Rows.IntsAre.int_at i1 _ _ (by simp at h1; simp [h1])
  have at2 : ∀ j (h1 : j < its2.toArray.size), ∃ t, its2.toArray[j] = .int (ms.getD j 0) t := fun j h1 => PyProof.Rows.IntsAre.int_at i2 _ _ (by simp at h1; simp [h1])
  have R := Ob.RcOp.tuples_gt (A := X.A) (s := s) (e := fun j => decide (ns.getD j 0 = ms.getD j 0)) (r := fun j => decide (ms.getD j 0 < ns.getD j 0)) p1 p2 hu (fun j h1 h2 => by
    obtain ⟨t, et⟩ := at1 j h1
    obtain ⟨t', et'⟩ := at2 j h2
    rw [et, et']
    have z : (ns.getD j 0 == ms.getD j 0) = decide (ns.getD j 0 = ms.getD j 0) := by
      by_cases q : ns.getD j 0 = ms.getD j 0
      · rw [decide_eq_true q]; exact beq_iff_eq.mpr q
      · rw [decide_eq_false q]; exact beq_eq_false_iff_ne.mpr q
    rw [← z]
    exact SeqAt.EqAt.int_int _ _ _ _) (fun j h1 h2 _ => by
    obtain ⟨t, et⟩ := at1 j h1
    obtain ⟨t', et'⟩ := at2 j h2
    rw [et, et']
    exact Ob.RcOp.gt_int _ _ _ _)
  rw [e1, e2, lexAt_gt ns ms _ 0 (by omega), List.drop_zero, List.drop_zero] at R
  have z : wpAny (model X.prog X.w) X.A (compareOp .Gt (.ref a) (.ref b)) (EP X pins σ Q) X.xe s := R X.prog X.w X.xe (EP X pins σ Q) ⟨.bl _, H, I, rfl, q⟩
  exact z
def intsD : List PyData → Option (List Int)
  | [] => some []
  | .int i :: ds => (intsD ds).map (i :: ·)
  | _ => none
theorem intsD_eq : ∀ {ds : List PyData} {ns : List Int}, intsD ds = some ns → ds = ns.map PyData.int
  | [], ns, h => by cases h; rfl
  | .int i :: ds, ns, h => by
    obtain ⟨r, h1, rfl⟩ := Option.map_eq_some_iff.mp (show (intsD ds).map (i :: ·) = some ns from h)
    rw [intsD_eq h1]; rfl
  | .none :: ds, ns, h => by cases h
  | .bool _ :: ds, ns, h => by cases h
  | .str _ :: ds, ns, h => by cases h
  | .list _ :: ds, ns, h => by cases h
  | .tuple _ :: ds, ns, h => by cases h
  | .dict _ :: ds, ns, h => by cases h
theorem intsD_map (ns : List Int) : intsD (ns.map PyData.int) = some ns := by
  induction ns with
  | nil => rfl
  | cons n ns ih => simp only [List.map_cons, intsD, ih, Option.map_some]
def tGt : PyData → PyData → Option PyData
  | .tuple xs, .tuple ys => (intsD xs).bind fun ns => (intsD ys).map fun ms => .bool (gtI ns ms)
  | _, _ => none
abbrev fGtT := lift2 tGt
theorem dqA_ints {K : PySem.W.Frag} {H : Hp} : ∀ {vs : List V} {ns : List Int}, DqAll K H vs (ns.map PyData.int) → vs = ns.map V.int
  | vs, [], h => by cases h; rfl
  | vs, n :: ns, h => by
    cases h with
    | cons a t =>
      rw [dqA_ints t, dq_int a]; rfl
theorem s_gtT {K : PySem.W.Frag} : S2 K (rGtT K) tGt := by
  intro H x y dx dy d hx hy h
  unfold tGt at h
  split at h
  · rename_i xs ys
    obtain ⟨ns, h1, h⟩ := Option.bind_eq_some_iff.mp h
    obtain ⟨ms, h2, rfl⟩ := Option.map_eq_some_iff.mp h
    have e1 := intsD_eq h1
    have e2 := intsD_eq h2
    subst e1 e2
    cases hx with
    | tup a1 b1 =>
      cases hy with
      | tup a2 b2 =>
        have z1 := dqA_ints b1
        have z2 := dqA_ints b2
        subst z1 z2
        exact ⟨.bl _, fun _ => .bl _, fun Q z => ⟨_, _, ns, ms, rfl, rfl, SqT.of a1, SqT.of a2, z⟩⟩
  · cases h
section
variable {X : Cx} {a b : Expr} {ua ub : U} {pos : Pos}
theorem gt_gtT (hu : X.A.units + 1 < cLine) (ha : PE X a (tOf X.K ua)) (hb : PE X b (tOf X.K ub)) : PT X (.Compare a [.Gt] [b] pos) (ttOf X.K (uTruB (uBin fGtT ua ub))) := gt_cmp s_gtT.f (op_gtT (by omega)) ha hb (nomark _)
end
/-! ### min, max of two -/
def fMin2 : List M → Option M
  | [.p (.int i), .p (.int j)] => some (.p (.int (if j < i then j else i)))
  | _ => none
def fMax2 : List M → Option M
  | [.p (.int i), .p (.int j)] => some (.p (.int (if j > i then j else i)))
  | _ => none
section
variable {K : PySem.W.Frag}
theorem fl_min2 : FL K (fun xs H Q => ∃ i j, xs = [.int i, .int j] ∧ Q (.int (if j < i then j else i)) H) fMin2 := by
  intro H0 H vs ms m e rb q Q k
  unfold fMin2 at q
  split at q
  · cases q
    obtain ⟨v, w, C, D, rfl, r, r2⟩ := repB2 rb
    rw [rep_int r, rep_int r2]
    exact ⟨_, _, rfl, fresh_p k e (.int _)⟩
  · cases q
theorem fl_max2 : FL K (fun xs H Q => ∃ i j, xs = [.int i, .int j] ∧ Q (.int (if j > i then j else i)) H) fMax2 := by
  intro H0 H vs ms m e rb q Q k
  unfold fMax2 at q
  split at q
  · cases q
    obtain ⟨v, w, C, D, rfl, r, r2⟩ := repB2 rb
    rw [rep_int r, rep_int r2]
    exact ⟨_, _, rfl, fresh_p k e (.int _)⟩
  · cases q
end
section
variable {X : Cx} {np : Nat} {a b e : Expr} {pos p : Pos} {ua : UA} {u : U}
theorem g_min2 (hc : X.calm = true) (hm : X.mg "min" = none) (ha : PA X [a, b] (aOf X.K ua)) (hg : Gl X "min" := by rfl) (he : starEach [a, b] X.env = (false, eval a X.env) :: starEach [b] X.env := by rfl) (hpl : (backTo pos (starEach [b] X.env)).any (·.1) = false := by rfl) : PE X (.Call (.Name "min" p) [a, b] [] pos) (tOf X.K (uFun fMin2 ua)) :=
  g_callB fl_min2 (call_min2 hc) hg hm (by decide +kernel) ha (he := he) (hpl := hpl)
theorem g_max2 (hc : X.calm = true) (hm : X.mg "max" = none) (ha : PA X [a, b] (aOf X.K ua)) (hg : Gl X "max" := by rfl) (he : starEach [a, b] X.env = (false, eval a X.env) :: starEach [b] X.env := by rfl) (hpl : (backTo pos (starEach [b] X.env)).any (·.1) = false := by rfl) : PE X (.Call (.Name "max" p) [a, b] [] pos) (tOf X.K (uFun fMax2 ua)) :=
  g_callB fl_max2 (call_max2 hc) hg hm (by decide +kernel) ha (he := he) (hpl := hpl)
end
/-! ### x += e, x -= e of ints -/
def sAug (i : Nat) (f : Int → Int → Int) (u : U) : S := fun env => match env[i]? with
  | some (some (.p (.int x))) => (u env).bind fun q => match rd q.2 q.1 with
    | some (.p (.int y)) => some (.nx (q.2.set i (some (.p (.int (f x y))))))
    | _ => none
  | _ => none
section
variable {K : PySem.W.Frag} {np : Nat} {H0 H : Hp} {σ : L2.St} {env : Env} {A : Fp} {D : Ends}
theorem aug_okS {i : Nat} {f : Int → Int → Int} {u : U} (hi : np ≤ i) : ∀ D σ H, sOf K np (sAug i f u) D σ H → tAug i (tOf K u) (ipI f) D σ H := fun D σ H h => by
  obtain ⟨env, A, H0, o, s, e, k⟩ := h
  unfold sAug at e
  split at e
  case h_2 => cases e
  rename_i x h3
  obtain ⟨⟨op, e1⟩, h1, e⟩ := Option.bind_eq_some_iff.mp e
  split at e
  case h_2 => cases e
  rename_i y h2
  cases e
  obtain ⟨t, A1, A2, f1, f2, f3, f4, f5⟩ := s.rep.zoom h3
  obtain ⟨v, rfl, r⟩ := f2
  refine ⟨v, f1, tOf.go s h1 fun w H0' H' A' B s' oo one fr => ?_⟩
  obtain ⟨C, r2, _⟩ := rd_ok s' oo h2
  have hl : i < e1.length := by
    have h6 := (List.getElem?_eq_some_iff.mp f1).1
    have := s'.rep.len
    omega
  have r3 : Rep K H0' H' (.p (.int (f x y))) (.int (f x y)) fun _ => 0 := ⟨.int _, fun _ => rfl⟩
  obtain ⟨A3, s3, l3⟩ := stt_set (i := i) s' r3 (fun b => s'.one b) hl
  refine ⟨x, y, rep_int r, rep_int r2, k _ H0' H' A3 s3 (fr.weak fun b hb => ?_) fun kk hk => ?_⟩
  · have := l3 b
    show 0 < A' b + B b
    omega
  · rw [List.getElem?_set_ne (by omega)]
end
section
variable {X : Cx} {np : Nat} {e : Expr} {pos p : Pos} {u : U}
theorem gs_augA (i : Nat) {x : Str} (hN : X.N.Nodup) (he : PE X e (tOf X.K u)) (hi : X.N[i]? = some x := by rfl) (hx : Loc X.env.scope x := by first | exact Or.inl rfl | exact Or.inr rfl) (hp : np ≤ i := by decide)
    (hf : X.fn x = true ∨ X.env.scope.names.lookup x = some .local := by first | exact .inl rfl | exact .inr rfl) : PS X (.AugAssign (.Name x p) .Add e pos) (sOf X.K np (sAug i (fun a b => a + b) u)) := ps_imp (ps_aug hN hi hx he ip_add hf) (aug_okS hp)
theorem gs_augS (i : Nat) {x : Str} (hN : X.N.Nodup) (he : PE X e (tOf X.K u)) (hi : X.N[i]? = some x := by rfl) (hx : Loc X.env.scope x := by first | exact Or.inl rfl | exact Or.inr rfl) (hp : np ≤ i := by decide)
    (hf : X.fn x = true ∨ X.env.scope.names.lookup x = some .local := by first | exact .inl rfl | exact .inr rfl) : PS X (.AugAssign (.Name x p) .Sub e pos) (sOf X.K np (sAug i (fun a b => a - b) u)) := ps_imp (ps_aug hN hi hx he ip_sub hf) (aug_okS hp)
end
end G

/-! G27: f(). -/
namespace G
open PySem PySem.Spec PyProof.Rows L2
theorem nil_ok {K : PySem.W.Frag} : ∀ σ H Q, aOf K uaNil σ H Q → tNil σ H Q := fun σ H Q h => by
  obtain ⟨env, A, H0, ops, env', s, e, k⟩ := h
  cases e
  exact k [] H0 H A (fun _ => 0) s ⟨rfl, fun _ => rfl⟩ (fun b => s.one b) (Fr.refl fun b hb => hb)
section
variable {X : Cx} {k n : Nat} {f : Addr} {fd : FuncData} {ps : List Str} {sp : Sp} {x : Str} {p pos : Pos}
theorem pe_call0G (F : FnG X.prog X.w X.K X.mg X.base k f fd ps sp) (hgd : X.A.guards = some []) (hr : Room k X.A) (hm : X.mg x = some (.ref f)) (hk : PySem.W.keepIn X.K (.ref f) = true) (hb : Binds X.K fd ps []) (hg : Gl X x) (hdb : (x == ("__debug__" : Str)) = false) : PE X (.Call (.Name x p) [] [] pos) (tCall sp [] E0 tNil) := by
  refine ⟨fun pins s σ H Q I h => ?_⟩
  refine wpAny_Call_Name_kw (ld_glob I hg hm ?_ hdb)
  exact PySem.W.callWith_K0 I.kIn hk (run_g (us := []) F hgd hr hb I .nil h)
theorem g_call0 {F : Fn} (hF : ∀ ms r, F ms = some r → ms.length = n) (GF : FnG X.prog X.w X.K X.mg X.base k f fd ps (spG X.K n F)) (hgd : X.A.guards = some []) (hr : Room k X.A) (hm : X.mg x = some (.ref f)) (hk : PySem.W.keepIn X.K (.ref f) = true) (hb : Binds X.K fd ps [])
    (hg : Gl X x := by rfl) (hdb : (x == ("__debug__" : Str)) = false := by decide) : PE X (.Call (.Name x p) [] [] pos) (tOf X.K (uCall F uaNil)) :=
  pe_imp (pe_call0G GF hgd hr hm hk hb hg hdb) fun σ H Q h => nil_ok σ H _ (call_ok hF σ H Q h)
end
end G

namespace Hc
open PySem PySem.Spec PyProof.Rows L2 G
def m_other_of : S := (sSeq (sAsg (.tp [(.sl 3), (.sl 4)]) (uItem (uItem (uVar 0) (uC (.int 0))) (uVar 1)))
    (sRet (uIf (uTruB (uBin (lift2 dEq) (uVar 2) (uVar 3))) (uVar 4) (uVar 3))))
def D_other_of : Fn := fnOf 5 3 3 m_other_of
def m_had : S := (sRet (uLc (uiSeq (uItem (uItem (uVar 0) (uC (.int 1))) (uVar 2))) (.sl 3) (uTruB (uBin (lift2 dEq) (uItem (uVar 1) (uVar 3)) (uVar 2))) (uVar 3) [3]))
def D_had : Fn := fnOf 4 3 3 m_had
def m_next_of : S := (sSeq (sAsg (.sl 3) (uCall D_had (uaCons (uVar 0) (uaCons (uVar 1) (uaCons (uVar 2) uaNil)))))
    (sRet (uIf (uTruB (uBin fGt (uFun fLen (uaCons (uVar 3) uaNil)) (uC (.int 0)))) (uItem (uVar 3) (uC (.int 0))) (uC .none))))
def D_next_of : Fn := fnOf 4 3 3 m_next_of
def m_handed : S := (sSeq (sAsg (.sl 3) (uCall D_other_of (uaCons (uVar 0) (uaCons (uVar 2) (uaCons (uItem (uVar 1) (uVar 2)) uaNil)))))
    (sRet (uBin fAdd (uBin fAdd (uFun fTuple (uaCons (uSl (uVar 1) uNo (uPart (uVar 2))) uaNil)) (uTup (uaCons (uVar 3) uaNil))) (uFun fTuple (uaCons (uSl (uVar 1) (uPart (uBin fAdd (uVar 2) (uC (.int 1)))) uNo) uaNil)))))
def D_handed : Fn := fnOf 4 3 3 m_handed
def m_law_box : S := (sSeq (sAsg (.sl 2) (uItem (uVar 0) (uVar 1)))
    (sRet (uLst (uaCons (uBin fMul (uFun fAbs (uaCons (uVar 2) uaNil)) (uFun fInt (uaCons (uBin fGe (uFun fAbs (uaCons (uVar 2) uaNil)) (uBin fPow (uC (.int 10)) (uC (.int 18)))) uaNil))) (uaCons (uBin fAdd (uBin fAdd (uBin fMod (uVar 2) (uC (.int 2305843009213693951))) (uBin fMul (uC (.int 15485863)) (uVar 1))) (uC (.int 11))) (uaCons (uC (.int 0)) uaNil))))))
def D_law_box : Fn := fnOf 3 2 2 m_law_box
def m_law_take : S := (sSeq (sIf (uTruB (uBin fGt (uItem (uVar 0) (uC (.int 0))) (uC (.int 0)))) (sSeq (sAsg (.sl 2) (uBin fMod (uItem (uVar 0) (uC (.int 0))) (uVar 1)))
    (sSeq (sSet 0 (uC (.int 0)) (uBin fDiv (uItem (uVar 0) (uC (.int 0))) (uVar 1)))
    (sRet (uVar 2)))) sPass)
    (sSeq (sSet 0 (uC (.int 2)) (uBin fAdd (uItem (uVar 0) (uC (.int 2))) (uC (.int 1))))
    (sSeq (sAsg (.sl 3) (uBin fMod (uBin fAdd (uItem (uVar 0) (uC (.int 1))) (uBin fMul (uC (.int 1442695040888963407)) (uItem (uVar 0) (uC (.int 2))))) (uC (.int 2305843009213693951))))
    (sSeq (sAsg (.sl 3) (uBin fMod (uBin fAdd (uBin fAdd (uBin fMul (uVar 3) (uVar 3)) (uBin fMul (uC (.int 39373)) (uItem (uVar 0) (uC (.int 2))))) (uC (.int 7))) (uC (.int 2305843009213693921))))
    (sSeq (sAsg (.sl 3) (uBin fMod (uBin fAdd (uBin fMul (uVar 3) (uBin fAdd (uBin fDiv (uVar 3) (uC (.int 65536))) (uC (.int 3)))) (uItem (uVar 0) (uC (.int 2)))) (uC (.int 2305843009213693907))))
    (sRet (uBin fMod (uBin fDiv (uVar 3) (uC (.int 1048576))) (uVar 1))))))))
def D_law_take : Fn := fnOf 4 2 2 m_law_take
def m_law_cells_b1 : S := (sSet 2 (uBin fMod (uVar 3) (uVar 1)) (uBin fAdd (uItem (uVar 2) (uBin fMod (uVar 3) (uVar 1))) (uBin fMul (uVar 4) (uBin fAdd (uVar 3) (uC (.int 2))))))
def m_law_cells : S := (sSeq (sAsg (.sl 2) (uOrV (uFun fList (uaCons (uSl (uVar 0) uNo (uPart (uVar 1))) uaNil)) (uLst (uaCons (uC (.int 0)) uaNil))))
    (sSeq (sFor (uiOf gEnumL (uaCons (uSl (uVar 0) (uPart (uVar 1)) (uPart (uC (.int 63)))) uaNil)) (.tp [(.sl 3), (.sl 4)]) m_law_cells_b1)
    (sRet (uVar 2))))
def D_law_cells : Fn := fnOf 5 2 2 m_law_cells
def m_law_of : S := (sRet (uItem (uVar 1) (uCall D_law_take (uaCons (uVar 0) (uaCons (uFun fLen (uaCons (uVar 1) uaNil)) uaNil)))))
def D_law_of : Fn := fnOf 2 2 2 m_law_of
def m_law_strewn_b1 : S := (sExpr (uApp 3 (uPopAt 2 (uCall D_law_take (uaCons (uVar 0) (uaCons (uFun fLen (uaCons (uVar 2) uaNil)) uaNil))))))
def m_law_strewn : S := (sSeq (sPar 2 3 (uaCons (uFun fList (uaCons (uVar 1) uaNil)) (uaCons (uLst uaNil) uaNil)))
    (sSeq (sFor (uiR1 (uaCons (uFun fLen (uaCons (uVar 2) uaNil)) uaNil)) (.sl 4) m_law_strewn_b1)
    (sRet (uVar 3))))
def D_law_strewn : Fn := fnOf 5 2 2 m_law_strewn
def m_law_same : S := (sRet (uBin (lift2 dEq) (uFun fRepr (uaCons (uVar 0) uaNil)) (uFun fRepr (uaCons (uVar 1) uaNil))))
def D_law_same : Fn := fnOf 2 2 2 m_law_same
def m_law_listed (F : Fn) : S := (sRet (uIf (uTru (uIsi [.lst, .tup] (uVar 0))) (uLc (uiSeq (uVar 0)) (.sl 1) uYes (uCall F (uaCons (uVar 1) uaNil)) [1]) (uVar 0)))
def D_law_listed_n : Nat → Fn
  | 0 => fNo
  | k + 1 => fnOf 2 1 1 (m_law_listed (D_law_listed_n k))
abbrev D_law_listed : Fn := D_law_listed_n 5
def m_law_field_b1 : S := (sSeq (sAsg (.sl 12) (uLc (uiSeq (uVar 8)) (.sl 15) (uTruB (uIn false (uVar 11) (uItem (uVar 7) (uVar 15)))) (uVar 15) [15]))
    (sSeq (sAsg (.sl 12) (uIf (uAnd (uTruB (uBin (lift2 dEq) (uVar 9) (uC (.int 1)))) (uTruB (uBin (lift2 dEq) (uBin fMod (uVar 11) (uC (.int 2))) (uC (.int 1))))) (uRev (uVar 12)) (uIf (uTruB (uBin fGt (uVar 9) (uC (.int 1)))) (uCall D_law_strewn (uaCons (uVar 0) (uaCons (uVar 12) uaNil))) (uVar 12))))
    (sExpr (uApp 10 (uFun fTuple (uaCons (uVar 12) uaNil))))))
def m_law_field_b2 : S := (sAsg (.sl 4) (uBin fAdd (uVar 4) (uLc (uiR1 (uaCons (uVar 5) uaNil)) (.sl 13) uYes (uTup (uaCons (uVar 13) (uaCons (uVar 5) uaNil))) [13])))
def m_law_field : S := (sSeq (sPar 3 4 (uaCons (uBin fAdd (uC (.int 1)) (uCall D_law_take (uaCons (uVar 0) (uaCons (uVar 1) uaNil)))) (uaCons (uLst uaNil) uaNil)))
    (sSeq (sFor (uiR1 (uaCons (uVar 3) uaNil)) (.sl 5) m_law_field_b2)
    (sSeq (sAsg (.sl 6) (uSl (uCall D_law_strewn (uaCons (uVar 0) (uaCons (uVar 4) uaNil))) uNo (uPart (uBin fAdd (uC (.int 1)) (uCall D_law_take (uaCons (uVar 0) (uaCons (uBin fAdd (uFun fLen (uaCons (uVar 4) uaNil)) (uC (.int 1))) uaNil)))))))
    (sSeq (sAsg (.sl 7) (uLc (uiR1 (uaCons (uBin fMul (uCall D_law_take (uaCons (uVar 0) (uaCons (uBin fAdd (uVar 2) (uC (.int 1))) uaNil))) (uFun fInt (uaCons (uBin (lift2 dNe) (uVar 6) (uLst uaNil)) uaNil))) uaNil)) (.sl 14) uYes (uCall D_law_of (uaCons (uVar 0) (uaCons (uVar 6) uaNil))) [14]))
    (sSeq (sPar3 8 9 10 (uaCons (uCall D_law_strewn (uaCons (uVar 0) (uaCons (uLR (uR1 (uFun fLen (uaCons (uVar 7) uaNil)))) uaNil))) (uaCons (uCall D_law_take (uaCons (uVar 0) (uaCons (uC (.int 4)) uaNil))) (uaCons (uLst uaNil) uaNil))))
    (sSeq (sFor (uiR1 (uaCons (uVar 3) uaNil)) (.sl 11) m_law_field_b1)
    (sRet (uTup (uaCons (uFun fTuple (uaCons (uVar 7) uaNil)) (uaCons (uFun fTuple (uaCons (uVar 10) uaNil)) uaNil))))))))))
def D_law_field : Fn := fnOf 16 3 3 m_law_field
def m_law_lies : S := (sRet (uFun fTuple (uaCons (uLc (uiSeq (uItem (uVar 1) (uC (.int 0)))) (.sl 2) uYes (uItem (uVar 2) (uCall D_law_take (uaCons (uVar 0) (uaCons (uC (.int 2)) uaNil)))) [2]) uaNil)))
def D_law_lies : Fn := fnOf 3 2 2 m_law_lies
def m_law_lacker : S := (sRet (uItem (uLc (uiSeq (uItem (uItem (uVar 0) (uC (.int 0))) (uVar 2))) (.sl 3) (uTruB (uBin (lift2 dNe) (uVar 3) (uItem (uVar 1) (uVar 2)))) (uVar 3) [3]) (uC (.int 0))))
def D_law_lacker : Fn := fnOf 4 3 3 m_law_lacker
def m_law_gave : S := (sSeq (sAsg (.sl 3) (uItem (uCall D_had (uaCons (uVar 0) (uaCons (uVar 1) (uaCons (uVar 2) uaNil)))) (uC (.int 0))))
    (sRet (uBin fAdd (uBin fAdd (uSl (uVar 1) uNo (uPart (uVar 3))) (uTup (uaCons (uCall D_law_lacker (uaCons (uVar 0) (uaCons (uVar 1) (uaCons (uVar 3) uaNil)))) uaNil))) (uSl (uVar 1) (uPart (uBin fAdd (uVar 3) (uC (.int 1)))) uNo))))
def D_law_gave : Fn := fnOf 4 3 3 m_law_gave
def m_is_number : S := (sRet (uAndV (uIsi [.int] (uVar 0)) (uNotV (uIsi [.bl] (uVar 0)))))
def D_is_number : Fn := fnOf 1 1 1 m_is_number
def m_nexts : S := (sSeq (sIf (uTruB (uBin fIs (uItem (uVar 1) (uVar 2)) (uC .none))) (sRet (uLst uaNil)) sPass)
    (sSeq (sAsg (.sl 3) (uCall D_other_of (uaCons (uVar 0) (uaCons (uVar 2) (uaCons (uItem (uVar 1) (uVar 2)) uaNil)))))
    (sSeq (sAsg (.sl 4) (uFun fList (uaCons (uItem (uItem (uVar 0) (uC (.int 1))) (uVar 3)) uaNil)))
    (sRet (uLc (uiSeq (uSl (uVar 4) uNo (uPart (uIndex (uVar 4) (uVar 2))))) (.sl 5) (uTruB (uBin (lift2 dEq) (uItem (uVar 1) (uVar 5)) (uVar 3))) (uVar 5) [5])))))
def D_nexts : Fn := fnOf 6 3 3 m_nexts
def m_shows_ring : S := (sSeq (sIf (uOr (uNot (uTru (uIsi [.lst] (uVar 2)))) (uOr (uTruB (uBin fLt (uFun fLen (uaCons (uVar 2) uaNil)) (uC (.int 2)))) (uNot (uTru (uFun fAll (uaCons (uLc (uiSeq (uVar 2)) (.sl 3) uYes (uCall D_is_number (uaCons (uVar 3) uaNil)) [3]) uaNil)))))) (sRet (uC (.bool false))) sPass)
    (sSeq (sIf (uOr (uNot (uTru (uFun fAll (uaCons (uLc (uiSeq (uVar 2)) (.sl 3) uYes (uChn dLe dLt (uC (.int 0)) (uVar 3) (uFun fLen (uaCons (uItem (uVar 0) (uC (.int 0))) uaNil))) [3]) uaNil)))) (uTruB (uBin (lift2 dNe) (uLenSet (uVar 2)) (uFun fLen (uaCons (uVar 2) uaNil))))) (sRet (uC (.bool false))) sPass)
    (sRet (uFun fAll (uaCons (uLc (uiOf gZip (uaCons (uVar 2) (uaCons (uBin fAdd (uSl (uVar 2) (uPart (uC (.int 1))) uNo) (uSl (uVar 2) uNo (uPart (uC (.int 1))))) uaNil))) (.tp [(.sl 3), (.sl 4)]) uYes (uIn false (uVar 4) (uFrz (uCall D_nexts (uaCons (uVar 0) (uaCons (uVar 1) (uaCons (uVar 3) uaNil)))))) [3, 4]) uaNil)))))
def D_shows_ring : Fn := fnOf 5 3 3 m_shows_ring
def m_law_after : S := (sSeq (sIf (uTruB (uBin fIs (uItem (uVar 1) (uVar 2)) (uC .none))) (sRet (uLst uaNil)) sPass)
    (sSeq (sAsg (.sl 3) (uCall D_law_lacker (uaCons (uVar 0) (uaCons (uVar 1) (uaCons (uVar 2) uaNil)))))
    (sSeq (sAsg (.sl 4) (uFun fList (uaCons (uItem (uItem (uVar 0) (uC (.int 1))) (uVar 3)) uaNil)))
    (sRet (uLc (uiSeq (uSl (uVar 4) uNo (uPart (uIndex (uVar 4) (uVar 2))))) (.sl 5) (uTruB (uBin (lift2 dEq) (uItem (uVar 1) (uVar 5)) (uVar 3))) (uVar 5) [5])))))
def D_law_after : Fn := fnOf 6 3 3 m_law_after
def m_law_is_ring : S := (sSeq (sIf (uOr (uTruB (uBin fLt (uFun fLen (uaCons (uVar 2) uaNil)) (uC (.int 2)))) (uTruB (uBin (lift2 dNe) (uLenSet (uVar 2)) (uFun fLen (uaCons (uVar 2) uaNil))))) (sRet (uC (.bool false))) sPass)
    (sRet (uFun fAll (uaCons (uLc (uiOf gZip (uaCons (uVar 2) (uaCons (uBin fAdd (uSl (uVar 2) (uPart (uC (.int 1))) uNo) (uSl (uVar 2) uNo (uPart (uC (.int 1))))) uaNil))) (.tp [(.sl 3), (.sl 4)]) uYes (uIn false (uVar 4) (uFrz (uCall D_law_after (uaCons (uVar 0) (uaCons (uVar 1) (uaCons (uVar 3) uaNil)))))) [3, 4]) uaNil))))
def D_law_is_ring : Fn := fnOf 5 3 3 m_law_is_ring
def m_law_due : S := (sSeq (sIf (uNot (uTru (uIsi [.lst] (uVar 2)))) (sRet (uC (.bool false))) sPass)
    (sSeq (sIf (uTru (uFun fAny (uaCons (uLc (uiSeq (uVar 2)) (.sl 3) uYes (uOrV (uNotV (uIsi [.int] (uVar 3))) (uOrV (uIsi [.bl] (uVar 3)) (uNotV (uChn dLe dLt (uC (.int 0)) (uVar 3) (uFun fLen (uaCons (uVar 1) uaNil)))))) [3]) uaNil))) (sRet (uC (.bool false))) sPass)
    (sRet (uCall D_law_is_ring (uaCons (uVar 0) (uaCons (uVar 1) (uaCons (uVar 2) uaNil)))))))
def D_law_due : Fn := fnOf 4 3 3 m_law_due
def m_law_stroll_b1 : S := (sSeq (sAsg (.sl 5) (uFrz (uCall D_law_after (uaCons (uVar 1) (uaCons (uVar 2) (uaCons (uItem (uVar 3) (uNeg (uC (.int 1)))) uaNil))))))
    (sSeq (sIf (uTruB (uBin (lift2 dEq) (uVar 5) (uLst uaNil))) (sRet (uVar 3)) sPass)
    (sSeq (sAsg (.sl 6) (uCall D_law_of (uaCons (uVar 0) (uaCons (uVar 5) uaNil))))
    (sSeq (sIf (uTruB (uIn false (uVar 6) (uVar 3))) (sRet (uSl (uVar 3) (uPart (uIndex (uVar 3) (uVar 6))) uNo)) sPass)
    (sExpr (uApp 3 (uVar 6)))))))
def m_law_stroll : S := (sSeq (sAsg (.sl 3) (uLst (uaCons (uFrz (uCall D_law_take (uaCons (uVar 0) (uaCons (uFun fLen (uaCons (uVar 2) uaNil)) uaNil)))) uaNil)))
    (sSeq (sFor (uiR1 (uaCons (uFun fLen (uaCons (uVar 2) uaNil)) uaNil)) (.sl 4) m_law_stroll_b1)
    (sRet (uVar 3))))
def D_law_stroll : Fn := fnOf 7 3 3 m_law_stroll
def m_law_bent_v2 : S := (sSeq (sPar 3 4 (uaCons (uCall D_law_take (uaCons (uVar 0) (uaCons (uBin fAdd (uFun fLen (uaCons (uVar 2) uaNil)) (uC (.int 1))) uaNil))) (uaCons (uCall D_law_take (uaCons (uVar 0) (uaCons (uC (.int 7)) uaNil))) uaNil)))
    (sSeq (sAsg (.sl 5) (uLst (uaCons (uFrz (uBin fAdd (uSl (uVar 2) uNo (uPart (uVar 3))) (uSl (uVar 2) (uPart (uBin fAdd (uVar 3) (uC (.int 1)))) uNo))) (uaCons (uFrz (uBin fAdd (uSl (uVar 2) uNo (uPart (uBin fAdd (uVar 3) (uC (.int 1))))) (uSl (uVar 2) (uPart (uVar 3)) uNo))) (uaCons (uFrz (uRev (uVar 2))) (uaCons (uFun fTuple (uaCons (uVar 2) uaNil)) (uaCons (uFrz (uBin fAdd (uSl (uVar 2) (uPart (uVar 3)) uNo) (uSl (uVar 2) uNo (uPart (uVar 3))))) uaNil)))))))
    (sSeq (sExpr (uApp 5 (uFrz (uBin fAdd (uBin fAdd (uSl (uVar 2) uNo (uPart (uVar 3))) (uRev (uSl (uVar 2) (uPart (uVar 3)) (uPart (uBin fAdd (uVar 3) (uC (.int 2))))))) (uSl (uVar 2) (uPart (uBin fAdd (uVar 3) (uC (.int 2)))) uNo)))))
    (sSeq (sAsg (.sl 6) (uCall D_law_of (uaCons (uVar 0) (uaCons (uLst (uaCons (uC .none) (uaCons (uC (.bool true)) (uaCons (uC (.bool false)) (uaCons (uNeg (uC (.int 1))) (uaCons (uFun fLen (uaCons (uVar 1) uaNil)) (uaCons (uC (.str "0")) (uaCons (uFrz (uLst (uaCons (uC (.int 0)) uaNil))) (uaCons (uFrz (uCall D_law_take (uaCons (uVar 0) (uaCons (uFun fLen (uaCons (uVar 1) uaNil)) uaNil)))) uaNil))))))))) uaNil))))
    (sRet (uItem (uBin fAdd (uVar 5) (uLst (uaCons (uFrz (uBin fAdd (uBin fAdd (uSl (uVar 2) uNo (uPart (uVar 3))) (uLst (uaCons (uVar 6) uaNil))) (uSl (uVar 2) (uPart (uBin fAdd (uVar 3) (uC (.int 1)))) uNo))) uaNil))) (uVar 4)))))))
def D_law_bent_v2 : Fn := fnOf 7 3 3 m_law_bent_v2
def m_law_right_k06_b1 : S := (sSeq (sPar 9 10 (uaCons (uFun fRepr (uaCons (uVar 8) uaNil)) (uaCons (uCall D_law_due (uaCons (uVar 1) (uaCons (uVar 4) (uaCons (uVar 8) uaNil)))) uaNil)))
    (sSeq (sAsg (.sl 11) (uLst (uaCons (uFrz (uCall D_shows_ring (uaCons (uVar 1) (uaCons (uVar 4) (uaCons (uVar 8) uaNil))))) (uaCons (uFrz (uCall D_shows_ring (uaPick [2, 1, 0] (uaCons (uVar 8) (uaCons (uFun fList (uaCons (uVar 4) uaNil)) (uaCons (uVar 2) uaNil)))))) uaNil))))
    (sIf (uOr (uNot (uTru (uCall D_law_same (uaCons (uVar 11) (uaCons (uLst (uaCons (uVar 10) (uaCons (uVar 10) uaNil))) uaNil))))) (uTruB (uBin (lift2 dNe) (uFun fRepr (uaCons (uVar 8) uaNil)) (uVar 9)))) (sRet (uC (.bool false))) sPass)))
def m_law_right_k06_b2 : S := (sSeq (sAsg (.sl 7) (uCall D_law_stroll (uaCons (uVar 0) (uaCons (uVar 1) (uaCons (uVar 4) uaNil)))))
    (sAsg (.sl 5) (uBin fAdd (uBin fAdd (uVar 5) (uLst (uaCons (uVar 7) (uaCons (uFrz (uBin fAdd (uVar 7) (uVar 7))) (uaCons (uFrz (uBin fAdd (uSl (uVar 7) uNo (uPart (uC (.int 2)))) (uVar 7))) uaNil))))) (uLc (uiR1 (uaCons (uC (.int 4)) uaNil)) (.sl 12) uYes (uFrz (uCall D_law_bent_v2 (uaCons (uVar 0) (uaCons (uVar 4) (uaCons (uVar 7) uaNil))))) [12]))))
def m_law_right_k06_b3 : S := (sSeq (sAsg (.tp [(.sl 4), (.sl 5)]) (uTup (uaCons (uCall D_law_lies (uaCons (uVar 0) (uaCons (uVar 1) uaNil))) (uaCons (uLst (uaCons (uC .none) (uaCons (uTup uaNil) (uaCons (uFrz (uLst uaNil)) (uaCons (uC (.int 0)) (uaCons (uC (.bool true)) (uaCons (uC (.str "")) (uaCons (uFrz (uLst (uaCons (uC (.int 0)) uaNil))) (uaCons (uFrz (uLst (uaCons (uC (.int 0)) (uaCons (uC (.int 0)) uaNil)))) (uaCons (uFrz (uLst (uaCons (uFrz (uLst (uaCons (uC (.int 0)) (uaCons (uC (.int 1)) uaNil)))) uaNil))) uaNil)))))))))) uaNil))))
    (sSeq (sFor (uiR1 (uaCons (uC (.int 4)) uaNil)) (.sl 6) m_law_right_k06_b2)
    (sFor (uiSeq (uVar 5)) (.sl 8) m_law_right_k06_b1)))
def m_law_right_k06 : S := (sSeq (sAsg (.sl 1) (uCall D_law_field (uaCons (uVar 0) (uaCons (uC (.int 6)) (uaCons (uC (.int 12)) uaNil)))))
    (sSeq (sAsg (.sl 2) (uFrz (uCall D_law_listed (uaCons (uVar 1) uaNil))))
    (sSeq (sFor (uiR1 (uaCons (uBin fMul (uC (.int 2)) (uFun fInt (uaCons (uBin (lift2 dNe) (uItem (uVar 1) (uC (.int 0))) (uTup uaNil)) uaNil))) uaNil)) (.sl 3) m_law_right_k06_b3)
    (sRet (uC (.bool true))))))
def D_law_right_k06 : Fn := fnOf 13 1 1 m_law_right_k06
def m_law_k06 : S := (sSeq (sAsg (.sl 1) (uCall D_law_cells (uaCons (uVar 0) (uaCons (uC (.int 3)) uaNil))))
    (sRet (uFun fAll (uaCons (uLc (uiR1 (uaCons (uFun fLen (uaCons (uVar 1) uaNil)) uaNil)) (.sl 2) uYes (uCall D_law_right_k06 (uaCons (uCall D_law_box (uaCons (uVar 1) (uaCons (uVar 2) uaNil))) uaNil)) [2]) uaNil))))
def D_law_k06 : Fn := fnOf 3 1 1 m_law_k06
def m_all_nexts : S := (sRet (uDc (uiR1 (uaCons (uFun fLen (uaCons (uItem (uVar 0) (uC (.int 0))) uaNil)) uaNil)) (.sl 2) uYes (uVar 2) (uFrz (uCall D_nexts (uaCons (uVar 0) (uaCons (uVar 1) (uaCons (uVar 2) uaNil))))) [2]))
def D_all_nexts : Fn := fnOf 3 2 2 m_all_nexts
def m_round_from_b1 : S := (sSeq (sExpr (uApp 7 (uVar 5)))
    (sAsg (.sl 5) (uItem (uVar 2) (uVar 5))))
def m_round_from_b2 : S := (sIf (uTruB (uIn true (uVar 6) (uVar 2))) (sSeq (sSet 2 (uVar 6) (uVar 5))
    (sExpr (uApp 4 (uVar 6)))) sPass)
def m_round_from_b3 : S := (sFor (uiSeq (uItem (uVar 0) (uVar 5))) (.sl 6) m_round_from_b2)
def m_round_from_b4 : S := (sSeq (sAsg (.sl 4) (uLst uaNil))
    (sSeq (sFor (uiSeq (uVar 3)) (.sl 5) m_round_from_b3)
    (sAsg (.sl 3) (uVar 4))))
def m_round_from : S := (sSeq (sPar 2 3 (uaCons uDk (uaCons (uLst (uaCons (uVar 1) uaNil)) uaNil)))
    (sSeq (sWhile (uTruB (uBin fGt (uFun fLen (uaCons (uVar 3) uaNil)) (uC (.int 0)))) m_round_from_b4)
    (sSeq (sIf (uTruB (uIn true (uVar 1) (uVar 2))) (sRet (uC .none)) sPass)
    (sSeq (sPar 7 5 (uaCons (uLst (uaCons (uVar 1) uaNil)) (uaCons (uItem (uVar 2) (uVar 1)) uaNil)))
    (sSeq (sWhile (uTruB (uBin (lift2 dNe) (uVar 5) (uVar 1))) m_round_from_b1)
    (sRet (uBin fAdd (uLst (uaCons (uVar 1) uaNil)) (uRevT (uVar 7)))))))))
def D_round_from : Fn := fnOf 8 2 2 m_round_from
def m_all_rounds : S := (sSeq (sAsg (.sl 2) (uCall D_all_nexts (uaCons (uVar 0) (uaCons (uVar 1) uaNil))))
    (sSeq (sAsg (.sl 3) (uLc (uiKeys 2) (.sl 4) uYes (uCall D_round_from (uaCons (uVar 2) (uaCons (uVar 4) uaNil))) [4]))
    (sRet (uLc (uiSeq (uVar 3)) (.sl 5) (uTruB (uBin fIsNot (uVar 5) (uC .none))) (uVar 5) [5]))))
def D_all_rounds : Fn := fnOf 6 2 2 m_all_rounds
def m_ring_in : S := (sSeq (sAsg (.sl 2) (uCall D_all_rounds (uaCons (uVar 0) (uaCons (uVar 1) uaNil))))
    (sSeq (sAsg (.sl 3) (uMinD (uLc (uiSeq (uVar 2)) (.sl 4) uYes (uFun fLen (uaCons (uVar 4) uaNil)) [4]) (uC (.int 0))))
    (sRet (uIf (uTruB (uBin fGt (uVar 3) (uC (.int 0)))) (uItem (uLc (uiSeq (uVar 2)) (.sl 4) (uTruB (uBin (lift2 dEq) (uFun fLen (uaCons (uVar 4) uaNil)) (uVar 3))) (uVar 4) [4]) (uC (.int 0))) (uC .none)))))
def D_ring_in : Fn := fnOf 5 2 2 m_ring_in
def m_is_free : S := (sRet (uBin fIs (uCall D_ring_in (uaCons (uVar 0) (uaCons (uVar 1) uaNil))) (uC .none)))
def D_is_free : Fn := fnOf 2 2 2 m_is_free
def m_ringed : S := (sRet (uFun fSorted (uaCons (uLc (uiSeq (uCall D_all_rounds (uaCons (uVar 0) (uaCons (uVar 1) uaNil)))) (.sl 2) uYes (uItem (uVar 2) (uC (.int 0))) [2]) uaNil)))
def D_ringed : Fn := fnOf 3 2 2 m_ringed
def m_moved : S := (sSeq (sAsg (.sl 3) (uCall D_next_of (uaCons (uVar 0) (uaCons (uVar 1) (uaCons (uVar 2) uaNil)))))
    (sSeq (sIf (uTruB (uBin fIs (uVar 3) (uC .none))) sNever sPass)
    (sRet (uCall D_handed (uaCons (uVar 0) (uaCons (uVar 1) (uaCons (uVar 3) uaNil)))))))
def D_moved : Fn := fnOf 4 3 3 m_moved
def m_walked_b1 : S := (sSeq (sAsg (.sl 7) (uCall D_next_of (uaCons (uVar 0) (uaCons (uVar 3) (uaCons (uVar 6) uaNil)))))
    (sSeq (sIf (uTruB (uBin fIs (uVar 7) (uC .none))) sNever sPass)
    (sSeq (sExpr (uApp 4 (uVar 7)))
    (sAsg (.sl 3) (uCall D_handed (uaCons (uVar 0) (uaCons (uVar 3) (uaCons (uVar 7) uaNil))))))))
def m_walked : S := (sSeq (sPar 3 4 (uaCons (uFun fTuple (uaCons (uVar 1) uaNil)) (uaCons (uLst uaNil) uaNil)))
    (sSeq (sFor (uiOf gEnum (uaCons (uVar 2) uaNil)) (.tp [(.sl 5), (.sl 6)]) m_walked_b1)
    (sRet (uTup (uaCons (uVar 3) (uaCons (uVar 4) uaNil))))))
def D_walked : Fn := fnOf 8 3 3 m_walked
def m_gone : S := (sRet (uItem (uCall D_walked (uaCons (uVar 0) (uaCons (uVar 1) (uaCons (uVar 2) uaNil)))) (uC (.int 0))))
def D_gone : Fn := fnOf 3 3 3 m_gone
def m_movers : S := (sRet (uItem (uCall D_walked (uaCons (uVar 0) (uaCons (uVar 1) (uaCons (uVar 2) uaNil)))) (uC (.int 1))))
def D_movers : Fn := fnOf 3 3 3 m_movers
def m_look_free : S := (sSeq (sAsg (.sl 2) (uCall D_ring_in (uaCons (uVar 0) (uaCons (uVar 1) uaNil))))
    (sIf (uTruB (uBin fIsNot (uVar 2) (uC .none))) sNever sPass))
def D_look_free : Fn := fnOf 3 2 2 m_look_free
def m_at_rest : S := (sSeq (sAsg (.sl 3) (uCall D_movers (uaCons (uVar 0) (uaCons (uVar 1) (uaCons (uVar 2) uaNil)))))
    (sRet (uLc (uiR1 (uaCons (uFun fLen (uaCons (uItem (uVar 0) (uC (.int 0))) uaNil)) uaNil)) (.sl 4) (uTruB (uIn true (uVar 4) (uVar 3))) (uVar 4) [4])))
def D_at_rest : Fn := fnOf 5 3 3 m_at_rest
def m_wish_ring : S := (sRet (uCall D_ring_in (uaCons (uVar 0) (uaCons (uVar 1) uaNil))))
def D_wish_ring : Fn := fnOf 2 2 2 m_wish_ring
def m_wished : S := (sRet (uBin fAdd (uBin fAdd (uFun fList (uaCons (uSl (uVar 0) uNo (uPart (uVar 1))) uaNil)) (uLst (uaCons (uVar 2) uaNil))) (uFun fList (uaCons (uSl (uVar 0) (uPart (uBin fAdd (uVar 1) (uC (.int 1)))) uNo) uaNil))))
def D_wished : Fn := fnOf 3 3 3 m_wished
def m_sides_of : S := (sRet (uLc (uiSeq (uItem (uItem (uVar 0) (uC (.int 0))) (uVar 2))) (.sl 3) (uTruB (uBin fIs (uCall D_ring_in (uaCons (uVar 0) (uaCons (uCall D_wished (uaCons (uVar 1) (uaCons (uVar 2) (uaCons (uVar 3) uaNil)))) uaNil))) (uC .none))) (uVar 3) [3]))
def D_sides_of : Fn := fnOf 4 3 3 m_sides_of
def m_granted_b1 : S := (sIf (uTruB (uBin fIs (uVar 4) (uC .none))) (sAsg (.sl 2) (uCall D_wished (uaCons (uVar 2) (uaCons (uVar 3) (uaCons (uItem (uCall D_sides_of (uaCons (uVar 0) (uaCons (uVar 2) (uaCons (uVar 3) uaNil)))) (uC (.int 0))) uaNil))))) sPass)
def m_granted : S := (sSeq (sExpr (uCall D_look_free (uaCons (uVar 0) (uaCons (uVar 1) uaNil))))
    (sSeq (sAsg (.sl 2) (uFun fList (uaCons (uVar 1) uaNil)))
    (sSeq (sFor (uiOf gEnum (uaCons (uVar 1) uaNil)) (.tp [(.sl 3), (.sl 4)]) m_granted_b1)
    (sRet (uFun fTuple (uaCons (uVar 2) uaNil))))))
def D_granted : Fn := fnOf 5 2 2 m_granted
def m_law_core_b1 : S := (sAsg (.sl 2) (uLc (uiSeq (uVar 2)) (.sl 5) (uTru (uFun fAny (uaCons (uLc (uiSeq (uItem (uVar 3) (uVar 5))) (.sl 6) uYes (uIn false (uVar 6) (uVar 2)) [6]) uaNil))) (uVar 5) [5]))
def m_law_core : S := (sSeq (sAsg (.sl 2) (uLc (uiR1 (uaCons (uFun fLen (uaCons (uVar 1) uaNil)) uaNil)) (.sl 5) (uTruB (uBin fIsNot (uItem (uVar 1) (uVar 5)) (uC .none))) (uVar 5) [5]))
    (sSeq (sAsg (.sl 3) (uFun fDictP (uaCons (uLc (uiSeq (uVar 2)) (.sl 5) uYes (uTup (uaCons (uVar 5) (uaCons (uFrz (uCall D_law_after (uaCons (uVar 0) (uaCons (uVar 1) (uaCons (uVar 5) uaNil))))) uaNil))) [5]) uaNil)))
    (sSeq (sFor (uiR1 (uaCons (uFun fLen (uaCons (uVar 2) uaNil)) uaNil)) (.sl 4) m_law_core_b1)
    (sRet (uVar 2)))))
def D_law_core : Fn := fnOf 7 2 2 m_law_core
def m_law_is_free : S := (sRet (uBin (lift2 dEq) (uCall D_law_core (uaCons (uVar 0) (uaCons (uVar 1) uaNil))) (uLst uaNil)))
def D_law_is_free : Fn := fnOf 2 2 2 m_law_is_free
def m_law_right_k71_b1 : S := (sSeq (sAsg (.sl 8) (uLc (uiR1 (uaCons (uVar 2) uaNil)) (.sl 13) (uTruB (uBin (lift2 dNe) (uCall D_had (uaCons (uVar 1) (uaCons (uVar 3) (uaCons (uVar 13) uaNil)))) (uLst uaNil))) (uVar 13) [13]))
    (sSeq (sExpr (uApp 6 (uCall D_law_of (uaCons (uVar 0) (uaCons (uVar 8) uaNil)))))
    (sAsg (.sl 3) (uCall D_law_gave (uaCons (uVar 1) (uaCons (uVar 3) (uaCons (uItem (uVar 6) (uNeg (uC (.int 1)))) uaNil)))))))
def m_law_right_k71_b2 : S := (sAsg (.sl 3) (uIf (uTru (uCall D_law_is_free (uaCons (uVar 1) (uaCons (uVar 3) uaNil)))) (uCall D_law_lies (uaCons (uVar 0) (uaCons (uVar 1) uaNil))) (uVar 3)))
def m_law_right_k71 : S := (sSeq (sAsg (.sl 1) (uCall D_law_field (uaCons (uVar 0) (uaCons (uC (.int 8)) (uaCons (uC (.int 16)) uaNil)))))
    (sSeq (sAsg (.tp [(.sl 2), (.sl 3)]) (uTup (uaCons (uFun fLen (uaCons (uItem (uVar 1) (uC (.int 1))) uaNil)) (uaCons (uCall D_law_lies (uaCons (uVar 0) (uaCons (uVar 1) uaNil))) uaNil))))
    (sSeq (sFor (uiR1 (uaCons (uC (.int 20)) uaNil)) (.sl 4) m_law_right_k71_b2)
    (sSeq (sAsg (.tp [(.sl 5), (.sl 6)]) (uTup (uaCons (uVar 3) (uaCons (uLst uaNil) uaNil))))
    (sSeq (sFor (uiR1 (uaCons (uBin fMul (uCall D_law_take (uaCons (uVar 0) (uaCons (uC (.int 61)) uaNil))) (uFun fInt (uaCons (uBin (lift2 dNe) (uItem (uVar 1) (uC (.int 0))) (uTup uaNil)) uaNil))) uaNil)) (.sl 7) m_law_right_k71_b1)
    (sSeq (sAsg (.sl 9) (uCall D_at_rest (uaCons (uVar 1) (uaCons (uVar 5) (uaCons (uVar 6) uaNil)))))
    (sSeq (sIf (uOr (uTruB (uBin (lift2 dNe) (uCall D_gone (uaCons (uVar 1) (uaCons (uVar 5) (uaCons (uVar 6) uaNil)))) (uVar 3))) (uTru (uFun fAny (uaCons (uLc (uiSeq (uVar 9)) (.sl 14) uYes (uBin (lift2 dNe) (uItem (uVar 3) (uVar 14)) (uItem (uVar 5) (uVar 14))) [14]) uaNil)))) (sRet (uC (.bool false))) sPass)
    (sSeq (sAsg (.sl 10) (uFun fTuple (uaCons (uLc (uiOf gEnum (uaCons (uVar 3) uaNil)) (.tp [(.sl 14), (.sl 15)]) uYes (uIf (uTruB (uIn false (uVar 14) (uVar 9))) (uC .none) (uVar 15)) [14, 15]) uaNil)))
    (sSeq (sIf (uOr (uNot (uTru (uCall D_law_is_free (uaCons (uVar 1) (uaCons (uVar 10) uaNil))))) (uTruB (uBin fIsNot (uCall D_wish_ring (uaCons (uVar 1) (uaCons (uVar 10) uaNil))) (uC .none)))) (sRet (uC (.bool false))) sPass)
    (sSeq (sAsg (.sl 11) (uCall D_ring_in (uaCons (uVar 1) (uaCons (uVar 3) uaNil))))
    (sSeq (sIf (uOr (uAnd (uTruB (uBin fIsNot (uVar 11) (uC .none))) (uNot (uTru (uFun fAny (uaCons (uLc (uiSeq (uVar 11)) (.sl 14) uYes (uIn false (uVar 14) (uVar 9)) [14]) uaNil))))) (uAnd (uTruB (uBin (lift2 dEq) (uVar 9) (uLst uaNil))) (uNot (uTru (uCall D_is_free (uaCons (uVar 1) (uaCons (uVar 3) uaNil))))))) (sRet (uC (.bool false))) sPass)
    (sSeq (sAsg (.sl 12) (uCall D_granted (uaCons (uVar 1) (uaCons (uVar 10) uaNil))))
    (sRet (uAndV (uFun fAll (uaCons (uLc (uiOf gZip (uaCons (uVar 10) (uaCons (uVar 12) uaNil))) (.tp [(.sl 15), (.sl 16)]) uYes (uOrV (uBin fIs (uVar 15) (uC .none)) (uBin (lift2 dEq) (uVar 15) (uVar 16))) [15, 16]) uaNil)) (uCall D_law_is_free (uaCons (uVar 1) (uaCons (uVar 12) uaNil)))))))))))))))))
def D_law_right_k71 : Fn := fnOf 17 1 1 m_law_right_k71
def m_law_right_k70_v2_b1 : S := (sIf (uTruB (uBin (lift2 dNe) (uCall D_shows_ring (uaCons (uVar 1) (uaCons (uVar 2) (uaCons (uVar 13) uaNil)))) (uCall D_law_is_ring (uaCons (uVar 1) (uaCons (uVar 2) (uaCons (uVar 13) uaNil)))))) (sRet (uC (.bool false))) sPass)
def m_law_right_k70_v2_b2 : S := (sSeq (sAsg (.sl 8) (uCall D_ring_in (uaCons (uVar 1) (uaCons (uVar 2) uaNil))))
    (sSeq (sIf (uAnd (uTruB (uBin fIsNot (uVar 8) (uC .none))) (uTruB (uIn true (uVar 8) (uVar 6)))) (sExpr (uApp 6 (uVar 8))) sPass)
    (sSeq (sAsg (.sl 9) (uLc (uiR1 (uaCons (uVar 3) uaNil)) (.sl 10) (uTruB (uBin (lift2 dNe) (uCall D_had (uaCons (uVar 1) (uaCons (uVar 2) (uaCons (uVar 10) uaNil)))) (uLst uaNil))) (uVar 10) [10]))
    (sSeq (sAsg (.sl 10) (uCall D_law_of (uaCons (uVar 0) (uaCons (uVar 9) uaNil))))
    (sSeq (sAsg (.tp [(.sl 11), (.sl 2)]) (uTup (uaCons (uCall D_next_of (uaCons (uVar 1) (uaCons (uVar 2) (uaCons (uVar 10) uaNil)))) (uaCons (uCall D_moved (uaCons (uVar 1) (uaCons (uVar 2) (uaCons (uVar 10) uaNil)))) uaNil))))
    (sSeq (sAsg (.sl 12) (uCall D_ringed (uaCons (uVar 1) (uaCons (uVar 2) uaNil))))
    (sSeq (sIf (uOr (uTruB (uIn false (uVar 11) (uVar 12))) (uOr (uTru (uFun fAny (uaCons (uLc (uiSeq (uVar 12)) (.sl 14) uYes (uIn true (uVar 14) (uVar 4)) [14]) uaNil))) (uAnd (uTru (uVar 5)) (uTruB (uBin (lift2 dNe) (uVar 12) (uLst uaNil)))))) (sRet (uC (.bool false))) sPass)
    (sSeq (sForO 6 (.sl 13) m_law_right_k70_v2_b1)
    (sSeq (sAsg (.tp [(.sl 4), (.sl 5)]) (uTup (uaCons (uVar 12) (uaCons (uBin (lift2 dEq) (uVar 12) (uLst uaNil)) uaNil))))
    (sIf (uTruB (uBin (lift2 dNe) (uCall D_is_free (uaCons (uVar 1) (uaCons (uVar 2) uaNil))) (uVar 5))) (sRet (uC (.bool false))) sPass))))))))))
def m_law_right_k70_v2 : S := (sSeq (sAsg (.sl 1) (uCall D_law_field (uaCons (uVar 0) (uaCons (uC (.int 8)) (uaCons (uC (.int 16)) uaNil)))))
    (sSeq (sAsg (.tp [(.sl 2), (.sl 3)]) (uTup (uaCons (uCall D_law_lies (uaCons (uVar 0) (uaCons (uVar 1) uaNil))) (uaCons (uFun fLen (uaCons (uItem (uVar 1) (uC (.int 1))) uaNil)) uaNil))))
    (sSeq (sAsg (.tp [(.sl 4), (.sl 5), (.sl 6)]) (uTup (uaCons (uCall D_ringed (uaCons (uVar 1) (uaCons (uVar 2) uaNil))) (uaCons (uCall D_is_free (uaCons (uVar 1) (uaCons (uVar 2) uaNil))) (uaCons (uLst uaNil) uaNil)))))
    (sSeq (sFor (uiR1 (uaCons (uBin fMul (uC (.int 40)) (uFun fInt (uaCons (uBin (lift2 dNe) (uItem (uVar 1) (uC (.int 0))) (uTup uaNil)) uaNil))) uaNil)) (.sl 7) m_law_right_k70_v2_b2)
    (sRet (uC (.bool true)))))))
def D_law_right_k70_v2 : Fn := fnOf 15 1 1 m_law_right_k70_v2
def m_law_k70_v2 : S := (sSeq (sAsg (.sl 1) (uCall D_law_cells (uaCons (uVar 0) (uaCons (uC (.int 3)) uaNil))))
    (sRet (uFun fAll (uaCons (uLc (uiR1 (uaCons (uFun fLen (uaCons (uVar 1) uaNil)) uaNil)) (.sl 2) uYes (uCall D_law_right_k70_v2 (uaCons (uCall D_law_box (uaCons (uVar 1) (uaCons (uVar 2) uaNil))) uaNil)) [2]) uaNil))))
def D_law_k70_v2 : Fn := fnOf 3 1 1 m_law_k70_v2
end Hc
namespace Hc
open PySem PySem.Spec PyProof.Rows L2 G
theorem same_ok (x y : M) (d : PyData) (hx : frz x = some d) (hy : frz y = some d) (hs : showOk d = true) (ok : okD (.str d.shown) = true) :
    D_law_same [x, y] = some (.p (.bool true), [some x, some y]) := by
  have e : PyData.eqv (.str d.shown) (.str d.shown) = true := by simp [PyData.eqv]
  simp [D_law_same, fnOf, m_law_same, padE, outsOf, sRet, uBin, uFun, uaCons, uaNil, uVar, rdL, rd, fRepr, hx, hy, hs, stE_eq, lift2, frz, dEq, ok, e, mv]
theorem cMul_l {i : Int} (j : Int) (h : 0 ≤ i) (k : i < 2305843009213693952) : cMul i j = true := by
  have a : -P64 < i := by show -18446744073709551616 < i; omega
  have b : i < P64 := by show i < 18446744073709551616; omega
  simp [cMul, a, b]
theorem take_ok (a b c n : Int) (h0 : 0 < n) (hn : n < 1073741824) : ∃ r a' b' c' : Int, 0 ≤ r ∧ r < n ∧
    D_law_take [.l [.p (.int a), .p (.int b), .p (.int c)], .p (.int n)] = some (.p (.int r), [some (.l [.p (.int a'), .p (.int b'), .p (.int c')]), some (.p (.int n))]) := by
  by_cases h : 0 < a
  · refine ⟨a % n, a / n, b, c, Int.emod_nonneg _ (by omega), Int.emod_lt_of_pos _ h0, ?_⟩
    simp [D_law_take, fnOf, m_law_take, padE, outsOf, sSeq, sIf, uTruB, uBin, uItem, uVar, uC, rd, isD, itemI, itemM, atI, ixN, giveM, lift2, frz, iB, h, sAsg, G.take, asg, sSet, sSetL, sRet, mv, iIc, cMod, cDiv, h0, hn, takeS, stE_eq]
  · have q : ∀ x : Int, 0 ≤ x / 1048576 % n ∧ x / 1048576 % n < n := fun x => ⟨Int.emod_nonneg _ (by omega), Int.emod_lt_of_pos _ h0⟩
    let c' := c + 1
    let f1 := (b + 1442695040888963407 * c') % 2305843009213693951
    let f2 := (f1 * f1 + 39373 * c' + 7) % 2305843009213693921
    let f3 := (f2 * (f2 / 65536 + 3) + c') % 2305843009213693907
    have b1 : 0 ≤ f1 ∧ f1 < 2305843009213693951 := ⟨Int.emod_nonneg _ (by decide), Int.emod_lt_of_pos _ (by decide)⟩
    have b2 : 0 ≤ f2 ∧ f2 < 2305843009213693921 := ⟨Int.emod_nonneg _ (by decide), Int.emod_lt_of_pos _ (by decide)⟩
    have g1 : cMul f1 f1 = true := cMul_l _ b1.1 (Int.lt_trans b1.2 (by decide))
    have g2 : cMul f2 (f2 / 65536 + 3) = true := cMul_l _ b2.1 (Int.lt_trans b2.2 (by decide))
    have g3 : cMul 1442695040888963407 c' = true := cMul_l _ (by decide) (by decide)
    have g4 : cMul 39373 c' = true := cMul_l _ (by decide) (by decide)
    refine ⟨f3 / 1048576 % n, a, b, c', (q _).1, (q _).2, ?_⟩
    simp [D_law_take, fnOf, m_law_take, padE, outsOf, sSeq, sIf, uTruB, uBin, uItem, uVar, uC, rd, isD, itemI, itemM, atI, ixN, giveM, lift2, frz, iB, h, sAsg, G.take, asg, sSet, sSetL, sRet, mv, iIc, cMod, cDiv, h0, hn, takeS, sPass, fAdd, fMul, fMulI, iI, g1, g2, g3, g4, c', f1, f2, f3, stE_eq]
abbrev nI (n : Nat) : PyData := .int (n : Nat)
abbrev iN (n : Nat) : M := .p (.int (n : Nat))
def sD (s : List Nat) : PyData := .tuple (s.map nI)
def sq : Bool → List PyData → PyData
  | true, ds => .tuple ds
  | false, ds => .list ds
def wD (b : Bool) (lots : List (Nat × Nat)) (ranks : List (List Nat)) : PyData :=
  sq b [sq b (lots.map fun p => sq b [nI p.1, nI p.2]), sq b (ranks.map fun r => sq b (r.map nI))]
/-- whose things -/
def own (lots : List (Nat × Nat)) (w : Nat) : List Nat := (List.range lots.length).filter fun i => decide ((lots.getD i (0, 0)).1 = w ∨ (lots.getD i (0, 0)).2 = w)
structure Ok (n : Nat) (lots : List (Nat × Nat)) (ranks : List (List Nat)) : Prop where
  rl : ranks.length = n
  n0 : 0 < n
  n8 : n ≤ 8
  ll : lots.length ≤ 40
  lt : ∀ p, p ∈ lots → p.1 < p.2 ∧ p.2 < n
  pm : ∀ w, w < n → (ranks.getD w []).Perm (own lots w)
theorem own_lt {lots : List (Nat × Nat)} {w i : Nat} (h : i ∈ own lots w) : i < lots.length := List.mem_range.mp (List.mem_filter.mp h).1
theorem own_len (lots : List (Nat × Nat)) (w : Nat) : (own lots w).length ≤ lots.length := by
  unfold own
  exact Nat.le_trans (List.length_filter_le ..) (by rw [List.length_range]; exact Nat.le_refl _)
theorem Ok.rk {n : Nat} {lots : List (Nat × Nat)} {ranks : List (List Nat)} (O : Ok n lots ranks) : ∀ r, r ∈ ranks → (∀ i, i ∈ r → i < lots.length) ∧ r.length ≤ 40 := fun r hr => by
  obtain ⟨w, hw, rfl⟩ := List.mem_iff_getElem.mp hr
  have p := O.pm w (by rw [← O.rl]; exact hw)
  rw [List.getD_eq_getElem?_getD, List.getElem?_eq_getElem hw] at p
  have p : ranks[w].Perm (own lots w) := p
  exact ⟨fun i hi => own_lt (p.mem_iff.mp hi), by have := p.length_eq; have := own_len lots w; have := O.ll; omega⟩
structure Sd (lots : List (Nat × Nat)) (s : List Nat) : Prop where
  len : s.length = lots.length
  at_ : ∀ (i : Nat) (p : Nat × Nat), lots[i]? = some p → s[i]? = some p.1 ∨ s[i]? = some p.2
theorem atI_nat {α : Type} (xs : List α) (i : Nat) : atI xs (i : Int) = xs[i]? := by
  unfold atI ixN
  rw [if_pos (by omega)]
  by_cases h : i < xs.length
  · rw [if_pos (by omega), Option.bind_some, Int.toNat_natCast]
  · rw [if_neg (by omega), Option.bind_none, List.getElem?_eq_none (by omega)]
theorem item_sq (b : Bool) (ds : List PyData) (i : Nat) : itemM (.p (sq b ds)) (i : Int) = (ds[i]?).map M.p := by
  cases b <;> simp [sq, itemM, atI_nat]
theorem isD_sq (b : Bool) (ds : List PyData) : isD (.p (sq b ds)) = false := rfl
theorem seqD_sq (b : Bool) (ds : List PyData) : seqD (sq b ds) = some ds := by cases b <;> rfl
theorem tupE_sq (b : Bool) (ds : List PyData) : tupE (.p (sq b ds)) = some (ds.map M.p) := by cases b <;> rfl
theorem tupM_sq (b : Bool) (ds : List PyData) : tupM (.p (sq b ds)) = some ds := by cases b <;> rfl
theorem lenM_sq (b : Bool) (ds : List PyData) : lenM (.p (sq b ds)) = some ds.length := by cases b <;> rfl
theorem dEq_int (a b : Int) : dEq (.int a) (.int b) = some (.bool (a == b)) := by simp [dEq, okD, SeqAt.shaped, PyData.canLay0, PyData.depth, PyData.eqv]
theorem dNe_int (a b : Int) : dNe (.int a) (.int b) = some (.bool (!(a == b))) := by simp [dNe, okD, SeqAt.shaped, PyData.canLay0, PyData.depth, PyData.eqv]
theorem lc_go {α : Type} {p : Pat} {t : UT} {u : U} {vs : List Nat} {env : G.Env} (dat : α → PyData) (c : α → Bool) (f : α → M) : ∀ xs : List α,
    (∀ x, x ∈ xs → ∃ e1 e2, asg p (.p (dat x)) env = some e1 ∧ t e1 = some (c x, e2) ∧ (c x = true → ∃ q e3, u e2 = some q ∧ G.take q.2 q.1 = some (f x, e3) ∧ wipeE e3 vs = env) ∧ (c x = false → wipeE e2 vs = env)) →
    lcL p t u vs (xs.map dat) env = some ((xs.filter c).map f, env)
  | [], _ => rfl
  | x :: xs, h => by
    obtain ⟨e1, e2, h1, h2, h3, h4⟩ := h x (List.mem_cons_self ..)
    have ih := lc_go (env := env) (p := p) (t := t) (u := u) (vs := vs) dat c f xs fun y hy => h y (List.mem_cons_of_mem _ hy)
    rw [List.map_cons, lcL, h1, Option.bind_some, h2, Option.bind_some]
    cases hc : c x with
    | true =>
      obtain ⟨q, e3, g1, g2, g3⟩ := h3 hc
      simp only [if_true]
      rw [g1, Option.bind_some, g2, Option.bind_some, g3, ih, Option.bind_some, List.filter_cons_of_pos hc, List.map_cons]
    | false =>
      rw [List.filter_cons_of_neg (by rw [hc]; exact Bool.false_ne_true)]
      simp only [Bool.false_eq_true, if_false]
      rw [h4 hc, ih]
def hadP (ranks : List (List Nat)) (s : List Nat) (who : Nat) : List Nat := (ranks.getD who []).filter fun i => decide (s[i]? = some who)
def otherP (p : Nat × Nat) (who : Nat) : Nat := if who = p.1 then p.2 else p.1
def giveP (lots : List (Nat × Nat)) (s : List Nat) (i : Nat) : List Nat := s.set i (otherP (lots.getD i (0, 0)) (s.getD i 0))
def stepP (lots : List (Nat × Nat)) (ranks : List (List Nat)) (s : List Nat) (who : Nat) : List Nat := match hadP ranks s who with
  | [] => s
  | i :: _ => giveP lots s i

theorem seq_go {a c : S} {env e : G.Env} (h : a env = some (.nx e)) : sSeq a c env = c e := by
  unfold sSeq
  rw [h, Option.bind_some]
  exact stE_eq _ _
theorem seq_ret {a c : S} {env e : G.Env} {m : M} (h : a env = some (.rt m e)) : sSeq a c env = some (.rt m e) := by
  unfold sSeq
  rw [h, Option.bind_some]
theorem asg_at {i : Nat} {u : U} {env e : G.Env} {m : M} (h : u env = some (.tmp m, e)) (hi : i < e.length) : sAsg (.sl i) u env = some (.nx (e.set i (some m))) := by
  unfold sAsg
  rw [h, Option.bind_some]
  simp only [G.take, Option.bind_some]
  have : asg (.sl i) m e = some (e.set i (some m)) := by unfold asg; rw [if_pos hi]
  rw [this]
  rfl
theorem lc_at {it : UI} {p : Pat} {t : UT} {u : U} {vs : List Nat} {env e1 e2 : G.Env} {ds : List PyData} {ms : List M} (h1 : it env = some (ds, e1)) (hc : (decide (ds.length ≤ sizeLine) && plainAt e1 vs) = true) (hw : wipeE e1 vs = e1) (h2 : lcL p t u vs ds e1 = some (ms, e2)) :
    uLc it p t u vs env = some (.tmp (.l ms), restE e1 vs e2) := by
  unfold uLc
  rw [h1, Option.bind_some, if_pos hc, hw, h2, Option.bind_some]
theorem lc_to {it : UI} {p : Pat} {t : UT} {u : U} {vs : List Nat} {env e1 e2 e3 : G.Env} {ds : List PyData} {ms : List M} (h1 : it env = some (ds, e1)) (hl : ds.length ≤ 1000) (hp : plainAt e1 vs = true) (hw : wipeE e1 vs = e1) (h2 : lcL p t u vs ds e1 = some (ms, e2)) (h3 : restE e1 vs e2 = e3) :
    uLc it p t u vs env = some (.tmp (.l ms), e3) := by
  have hc : (decide (ds.length ≤ sizeLine) && plainAt e1 vs) = true := by
    rw [hp, Bool.and_true]
    exact decide_eq_true (by rw [sizeLine_eq]; omega)
  rw [lc_at h1 hc hw h2, h3]
theorem frz_ok {u : U} {e e' : G.Env} {m : M} {d : PyData} (h : u e = some (.tmp m, e')) (hd : frz m = some d) : uFrz u e = some (.tmp (.p d), e') := by
  unfold uFrz
  rw [h, Option.bind_some]
  show (frz m).bind _ = _
  rw [hd, Option.bind_some]
theorem app_go {i : Nat} {u : U} {e e' : G.Env} {m : M} {ms ms' : List M} (h0 : e[i]? = some (some (.l ms'))) (h : u e = some (.tmp m, e')) (h1 : e'[i]? = some (some (.l ms))) (hl : ms.length < 100000) :
    sExpr (uApp i u) e = some (.nx (e'.set i (some (.l (ms ++ [m]))))) := by
  have hl' : ms.length < sizeLine := by rw [sizeLine_eq]; omega
  simp [sExpr, uApp, h0, h, G.take, h1, hl']
theorem if_false {t : UT} {a c : S} {e e' : G.Env} (h : t e = some (false, e')) : sIf t a c e = c e' := by
  unfold sIf
  rw [h]
  rfl
theorem if_true {t : UT} {a c : S} {e e' : G.Env} (h : t e = some (true, e')) : sIf t a c e = a e' := by
  unfold sIf
  rw [h]
  rfl
theorem for_go {it : UI} {p : Pat} {body : S} {env e1 : G.Env} {ds : List PyData} (h : it env = some (ds, e1)) : sFor it p body env = forL p body ds e1 := by
  unfold sFor
  rw [h, Option.bind_some]
theorem rg_ok (n : Nat) (h : n ≤ 1000) : rgOk 0 (n : Int) = true := by
  have a : (-4611686018427387904 : Int) ≤ n := by omega
  have b : (n : Int) < 4611686018427387904 := by omega
  have c : (n : Int) - 0 ≤ 16777216 := by omega
  simp [rgOk, a, b, c]
  omega
theorem rgD_nI (n : Nat) : rgD 0 (n : Int) = (List.range n).map nI := by
  unfold rgD
  rw [Int.sub_zero, Int.toNat_natCast]
  refine List.map_congr_left fun i _ => ?_
  rw [Int.zero_add]
theorem rgD_iN (n : Nat) : (rgD 0 (n : Int)).map M.p = (List.range n).map iN := by
  rw [rgD_nI, List.map_map]
  rfl
theorem lr_ok {r : UR} {env e : G.Env} {j : Int} (h : r env = some ((0, j), e)) (g : rgOk 0 j = true) : uLR r env = some (.tmp (.l ((rgD 0 j).map .p)), e) := by
  unfold uLR
  rw [h, Option.bind_some]
  show (if rgOk 0 j = true then some (Op.tmp (.l ((rgD 0 j).map .p)), e) else none) = _
  rw [if_pos g]
theorem r1_ok {ua : UA} {env e : G.Env} {j : Int} (h : ua env = some ([.tmp (.p (.int j))], e)) (r : rgOk 0 j = true) : uiR1 ua env = some (rgD 0 j, e) := by
  unfold uiR1
  rw [h, Option.bind_some]
  show (if rgOk 0 j = true then some (rgD 0 j, e) else none) = _
  rw [if_pos r]
theorem uCall_go {F : Fn} {ua : UA} {env e1 e2 : G.Env} {ops : List Op} {ms : List M} {bs : List (Option Nat)} {r : M} {outs : List (Option M)} (h1 : ua env = some (ops, e1)) (h2 : passL e1 ops = some (ms, bs, e2)) (h3 : F ms = some (r, outs)) :
    uCall F ua env = some (.tmp r, backL bs outs e2) := by
  unfold uCall
  rw [h1, Option.bind_some, h2, Option.bind_some, h3, Option.bind_some, stM_eq]
theorem ret_go {u : U} {env e : G.Env} {m : M} (h : u env = some (.tmp m, e)) : sRet u env = some (.rt m e) := by
  unfold sRet
  rw [h]
  rfl
theorem fn_go {n k np : Nat} {f : S} {ms : List M} {r : M} {e : G.Env} (hk : ms.length = k) (h : f (padE n ms) = some (.rt r e)) : fnOf n k np f ms = some (r, outsOf np ms e) := by
  unfold fnOf
  rw [if_pos hk, stE_eq, h]
theorem args_go (U : U) {w st m : M} {e : G.Env} (hL : U [some w, some st] = some (.tmp m, e)) : uaCons (uVar 0) (uaCons (uVar 1) (uaCons U uaNil)) [some w, some st] = some ([.slot 0, .slot 1, .tmp m], e) := by
  simp [uaCons, uaNil, uVar, hL]
theorem pass_go (a c : PyData) (m : M) : passL [some (.p a), some (.p c)] [.slot 0, .slot 1, .tmp m] = some ([.p a, .p c, m], [none, none, none], [some (.p a), some (.p c)]) := by
  simp [passL, passOp]
section
variable {n : Nat} {lots : List (Nat × Nat)} {ranks : List (List Nat)} {s : List Nat} {b : Bool} {who : Nat}
theorem len_le_line {n : Nat} (h : n ≤ 1000) : n ≤ sizeLine := by rw [sizeLine_eq]; omega
theorem had_ok (O : Ok n lots ranks) (S : Sd lots s) (hw : who < n) : D_had [.p (wD b lots ranks), .p (sD s), iN who] = some (.l ((hadP ranks s who).map iN), [some (.p (wD b lots ranks)), some (.p (sD s)), some (iN who)]) := by
  have hr : who < ranks.length := by rw [O.rl]; exact hw
  have hrk := O.rk ranks[who] (List.getElem_mem hr)
  have i1 : uiSeq (uItem (uItem (uVar 0) (uC (.int 1))) (uVar 2)) [some (.p (wD b lots ranks)), some (.p (sD s)), some (iN who), none] = some ((ranks[who]).map nI, [some (.p (wD b lots ranks)), some (.p (sD s)), some (iN who), none]) := by
    have e1 : itemM (.p (wD b lots ranks)) 1 = some (.p (sq b (ranks.map fun r => sq b (r.map nI)))) := item_sq b _ 1
    have e2 : itemM (.p (sq b (ranks.map fun r => sq b (r.map nI)))) (who : Int) = some (.p (sq b ((ranks[who]).map nI))) := by
      rw [item_sq, List.getElem?_map, List.getElem?_eq_getElem hr]
      rfl
    have d1 : isD (.p (wD b lots ranks)) = false := rfl
    simp [uiSeq, uItem, uVar, uC, rd, d1, isD_sq, itemI, e1, e2, giveM, G.take, frz, seqD_sq]
  have l1 : lcL (.sl 3) (uTruB (uBin (lift2 dEq) (uItem (uVar 1) (uVar 3)) (uVar 2))) (uVar 3) [3] ((ranks[who]).map nI) [some (.p (wD b lots ranks)), some (.p (sD s)), some (iN who), none]
      = some (((ranks[who]).filter fun i => decide (s[i]? = some who)).map iN, [some (.p (wD b lots ranks)), some (.p (sD s)), some (iN who), none]) := by
    refine lc_go nI _ iN _ fun i hi => ?_
    have hil : i < s.length := by rw [S.len]; exact hrk.1 i hi
    have e3 : itemM (.p (sD s)) (i : Int) = some (.p (nI s[i])) := by
      have := item_sq true (s.map nI) i
      rw [List.getElem?_map, List.getElem?_eq_getElem hil] at this
      exact this
    have d1 : isD (.p (sD s)) = false := rfl
    refine ⟨[some (.p (wD b lots ranks)), some (.p (sD s)), some (iN who), some (iN i)], [some (.p (wD b lots ranks)), some (.p (sD s)), some (iN who), some (iN i)], by simp [asg], ?_, fun _ => ⟨_, [some (.p (wD b lots ranks)), some (.p (sD s)), some (iN who), some (iN i)], rfl, by simp [G.take, takeS, frz], by simp [wipeE]⟩, fun _ => by simp [wipeE]⟩
    simp [uTruB, uBin, uItem, uVar, rd, d1, itemI, e3, giveM, lift2, frz, dEq_int]
    rw [List.getElem?_eq_getElem hil]
    by_cases z : s[i] = who
    · simp [z]
    · have : ¬ ((s[i] : Int) = who) := by omega
      simp [z, this]
  have hl : (ranks[who]).length ≤ sizeLine := len_le_line (by omega)
  have eh : hadP ranks s who = (ranks[who]).filter fun i => decide (s[i]? = some who) := by
    unfold hadP
    rw [List.getD_eq_getElem?_getD, List.getElem?_eq_getElem hr]
    rfl
  rw [eh]
  simp [D_had, fnOf, m_had, padE, outsOf, stE_eq, sRet, uLc, i1, wipeE, plainAt, l1, mv, restE, hl]
theorem has_eq : D_had = D_had := rfl
theorem next_ok (O : Ok n lots ranks) (S : Sd lots s) (hw : who < n) : D_next_of [.p (wD b lots ranks), .p (sD s), iN who] = some (match hadP ranks s who with
    | [] => .p .none
    | i :: _ => iN i, [some (.p (wD b lots ranks)), some (.p (sD s)), some (iN who)]) := by
  have h := had_ok (b := b) O S hw
  cases q : hadP ranks s who with
  | nil =>
    rw [q] at h
    simp [D_next_of, fnOf, m_next_of, padE, outsOf, stE_eq, stM_eq, sSeq, sAsg, uCall, uaCons, uaNil, uVar, passL, passOp, h, backL, G.take, asg, sRet, uIf, uTruB, uBin, uFun, rdL, rd, fLen, lenM, uC, lift2, frz, iB, mv]
  | cons i r =>
    rw [q] at h
    have hp : (0 : Int) < (r.length : Int) + 1 := by omega
    have e : itemM (.l (iN i :: List.map iN r)) 0 = some (iN i) := by
      show atI _ _ = _
      exact atI_nat _ 0
    simp [D_next_of, fnOf, m_next_of, padE, outsOf, stE_eq, stM_eq, sSeq, sAsg, uCall, uaCons, uaNil, uVar, passL, passOp, h, backL, G.take, asg, sRet, uIf, uTruB, uBin, uFun, rdL, rd, fLen, lenM, uC, lift2, frz, iB, mv, hp, uItem, isD, itemI, e, giveM]
theorem had_lt (O : Ok n lots ranks) {i : Nat} (hi : i ∈ hadP ranks s who) : i < lots.length ∧ s[i]? = some who := by
  unfold hadP at hi
  obtain ⟨h1, h2⟩ := List.mem_filter.mp hi
  refine ⟨?_, of_decide_eq_true h2⟩
  by_cases hr : who < ranks.length
  · rw [List.getD_eq_getElem?_getD, List.getElem?_eq_getElem hr] at h1
    exact (O.rk _ (List.getElem_mem hr)).1 i h1
  · rw [List.getD_eq_getElem?_getD, List.getElem?_eq_none (by omega)] at h1
    cases h1
theorem item_lot {i : Nat} (hi : i < lots.length) : itemM (.p (sq b (lots.map fun p => sq b [nI p.1, nI p.2]))) (i : Int) = some (.p (sq b [nI lots[i].1, nI lots[i].2])) := by
  rw [item_sq, List.getElem?_map, List.getElem?_eq_getElem hi]
  rfl
theorem item_w0 : itemM (.p (wD b lots ranks)) 0 = some (.p (sq b (lots.map fun p => sq b [nI p.1, nI p.2]))) := item_sq b _ 0
theorem item_w1 : itemM (.p (wD b lots ranks)) 1 = some (.p (sq b (ranks.map fun r => sq b (r.map nI)))) := item_sq b _ 1
theorem isD_w : isD (.p (wD b lots ranks)) = false := rfl
theorem isD_s : isD (.p (sD s)) = false := rfl
theorem item_s {i : Nat} (hi : i < s.length) : itemM (.p (sD s)) (i : Int) = some (iN s[i]) := by
  have := item_sq true (s.map nI) i
  rw [List.getElem?_map, List.getElem?_eq_getElem hi] at this
  exact this
theorem other_ok {i : Nat} (hi : i < lots.length) : D_other_of [.p (wD b lots ranks), iN i, iN who] = some (iN (otherP lots[i] who), [some (.p (wD b lots ranks)), some (iN i), some (iN who)]) := by
  have e1 := item_lot (b := b) hi
  have e2 : tupE (.p (sq b [nI lots[i].1, nI lots[i].2])) = some [iN lots[i].1, iN lots[i].2] := tupE_sq b _
  by_cases z : who = lots[i].1
  · simp [D_other_of, fnOf, m_other_of, padE, outsOf, stE_eq, sSeq, sAsg, uItem, uVar, uC, rd, isD_w, isD_sq, itemI, item_w0, e1, giveM, G.take, asg, asgL, e2, sRet, uIf, uTruB, uBin, lift2, frz, dEq_int, mv, otherP, z]
  · have z' : ¬ (who : Int) = (lots[i].1 : Int) := by omega
    simp [D_other_of, fnOf, m_other_of, padE, outsOf, stE_eq, sSeq, sAsg, uItem, uVar, uC, rd, isD_w, isD_sq, itemI, item_w0, e1, giveM, G.take, asg, asgL, e2, sRet, uIf, uTruB, uBin, lift2, frz, dEq_int, mv, otherP, z, z']
theorem cut_pre {α : Type} (xs : List α) (u : Nat) : cutL xs none (some (u : Int)) = xs.take u := by
  unfold cutL
  rw [HT.sIx_none, HT.sIx_nat, List.drop_zero, Nat.sub_zero]
  by_cases h : u ≤ xs.length
  · rw [Nat.min_eq_left h]
  · rw [Nat.min_eq_right (by omega), List.take_of_length_le (by omega), List.take_of_length_le (by omega)]
theorem cut_suf {α : Type} (xs : List α) (u : Nat) : cutL xs (some (u : Int)) none = xs.drop u := by
  unfold cutL
  rw [HT.sIx_none, HT.sIx_nat]
  by_cases h : u ≤ xs.length
  · rw [Nat.min_eq_left h, List.take_of_length_le (by rw [List.length_drop]; omega)]
  · rw [Nat.min_eq_right (by omega), List.drop_of_length_le (by omega), List.drop_of_length_le (by omega), List.take_nil]
theorem set_cut {α : Type} : ∀ (xs : List α) (i : Nat) (v : α), i < xs.length → xs.take i ++ [v] ++ xs.drop (i + 1) = xs.set i v
  | [], _, _, h => by simp at h
  | x :: xs, 0, v, h => rfl
  | x :: xs, i + 1, v, h => by
    have := set_cut xs i v (by simpa using h)
    simp only [List.take_succ_cons, List.cons_append, List.drop_succ_cons, List.set_cons_succ]
    rw [this]
theorem cut_s1 {i : Nat} : cutM (.p (sD s)) none (some (i : Int)) = some (.p (.tuple ((s.map nI).take i))) := by
  show some (M.p (.tuple (cutL (s.map nI) none (some (i : Int))))) = _
  rw [cut_pre]
theorem cut_s2 {i : Nat} : cutM (.p (sD s)) (some ((i : Int) + 1)) none = some (.p (.tuple ((s.map nI).drop (i + 1)))) := by
  show some (M.p (.tuple (cutL (s.map nI) (some ((i : Int) + 1)) none))) = _
  rw [show (i : Int) + 1 = ((i + 1 : Nat) : Int) by omega, cut_suf]
theorem cat_t {xs ys : List PyData} (h : xs.length + ys.length ≤ 1000) : fAdd (.p (.tuple xs)) (.p (.tuple ys)) = some (.p (.tuple (xs ++ ys))) := by
  have : xs.length + ys.length ≤ sizeLine := len_le_line h
  simp [fAdd, lift2, frz, iI, catL, this]
theorem give_cat {i v : Nat} (hi : i < s.length) (hl : s.length ≤ 40) : ∃ x, fAdd (.p (.tuple ((s.map nI).take i))) (.p (.tuple [nI v])) = some x ∧ fAdd x (.p (.tuple ((s.map nI).drop (i + 1)))) = some (.p (sD (s.set i v))) := by
  refine ⟨_, cat_t (by simp; omega), ?_⟩
  rw [cat_t (by simp; omega), set_cut _ _ _ (by simpa using hi), ← List.map_set]
  rfl
theorem give_eq {i : Nat} (S : Sd lots s) (hi : i < lots.length) : giveP lots s i = s.set i (otherP lots[i] (s[i]'(by rw [S.len]; exact hi))) := by
  unfold giveP
  rw [List.getD_eq_getElem?_getD, List.getElem?_eq_getElem hi, List.getD_eq_getElem?_getD, List.getElem?_eq_getElem (by rw [S.len]; exact hi)]
  rfl
theorem handed_ok (O : Ok n lots ranks) (S : Sd lots s) {i : Nat} (hi : i < lots.length) : D_handed [.p (wD b lots ranks), .p (sD s), iN i] = some (.p (sD (giveP lots s i)), [some (.p (wD b lots ranks)), some (.p (sD s)), some (iN i)]) := by
  have hs : i < s.length := by rw [S.len]; exact hi
  have h1 := other_ok (b := b) (ranks := ranks) (who := s[i]) hi
  have e1 := item_s hs
  obtain ⟨x, g1, g2⟩ := give_cat (v := otherP lots[i] s[i]) hs (by rw [S.len]; exact O.ll)
  have a1 : fAdd (iN i) (.p (.int 1)) = some (.p (.int ((i : Int) + 1))) := rfl
  rw [give_eq S hi]
  have t1 : ∀ ds, tupM (.p (.tuple ds)) = some ds := fun _ => rfl
  simp [D_handed, fnOf, m_handed, padE, outsOf, stE_eq, stM_eq, sSeq, sAsg, uCall, uaCons, uaNil, uItem, uVar, uC, rd, isD_s, itemI, e1, giveM, passL, passOp, h1, backL, G.take, asg, sRet, uBin, uFun, uSl, uNo, uPart, cut_s1, cut_s2, rdL, fTuple, t1, uTup, takeL, takeS, frz, mkT, allP, g1, g2, a1, mv]
end
end Hc

namespace Hc
open PySem PySem.Spec PyProof.Rows L2 G
abbrev bx (a b c : Int) : M := .l [.p (.int a), .p (.int b), .p (.int c)]
theorem map_erase {α β : Type} (f : α → β) : ∀ (xs : List α) (i : Nat), (xs.map f).eraseIdx i = (xs.eraseIdx i).map f
  | [], _ => rfl
  | _ :: _, 0 => rfl
  | x :: xs, i + 1 => by simp [map_erase f xs i]
theorem erase_perm {α : Type} : ∀ (xs : List α) (i : Nat) (h : i < xs.length), (xs[i] :: xs.eraseIdx i).Perm xs
  | [], i, h => absurd h (by simp)
  | x :: xs, 0, h => List.Perm.refl _
  | x :: xs, i + 1, h => by
    have := erase_perm xs i (by simpa using h)
    rw [List.getElem_cons_succ, List.eraseIdx_cons_succ]
    exact (List.Perm.swap _ _ _).trans (this.cons x)
theorem ixN_ok {n : Nat} {r : Int} (h0 : 0 ≤ r) (h : r < n) : ixN n r = some r.toNat := by
  unfold ixN
  rw [if_pos h0, if_pos h]
theorem strewn_body {X : M} (a b c : Int) (rest found : List PyData) (o4 : Option M) (h0 : 0 < rest.length) (hl : rest.length ≤ 1000) (hf : found.length ≤ 1000) :
    ∃ (a' b' c' : Int) (i : Nat) (hi : i < rest.length), m_law_strewn_b1
      [some (bx a b c), some X, some (.l (rest.map .p)), some (.l (found.map .p)), o4] = some (.nx [some (bx a' b' c'), some X, some (.l ((rest.eraseIdx i).map .p)), some (.l ((found ++ [rest[i]]).map .p)), o4]) := by
  obtain ⟨r, a', b', c', r0, r1, ht⟩ := take_ok a b c rest.length (by omega) (by omega)
  have hi : r.toNat < rest.length := by omega
  refine ⟨a', b', c', r.toNat, hi, ?_⟩
  have hx : ixN rest.length r = some r.toNat := ixN_ok r0 r1
  have hfl : found.length < sizeLine := by rw [sizeLine_eq]; omega
  have g1 : -9223372036854775808 ≤ r := by omega
  have g2 : r < 9223372036854775808 := by omega
  have gm : rest[r.toNat]? = some rest[r.toNat] := List.getElem?_eq_getElem hi
  simp [m_law_strewn_b1, sExpr, uApp, uPopAt, uCall, uaCons, uaNil, uFun, uVar, rd, rdL, fLen, lenM, passL, passOp, ht, backL, stM_eq, hx, g1, g2, gm, map_erase, G.take, hfl]
theorem strewn_loop {X : M} : ∀ (ks : List PyData) (a b c : Int) (rest found : List PyData) (o4 : Option M), ks.length = rest.length → rest.length + found.length ≤ 1000 →
    ∃ (a' b' c' : Int) (found' : List PyData) (o4' : Option M), forL (.sl 4) m_law_strewn_b1 ks
      [some (bx a b c), some X, some (.l (rest.map .p)), some (.l (found.map .p)), o4] = some (.nx [some (bx a' b' c'), some X, some (.l []), some (.l (found'.map .p)), o4']) ∧ found'.Perm (rest ++ found)
  | [], a, b, c, rest, found, o4, hk, hl => by
    have : rest = [] := List.length_eq_zero_iff.mp hk.symm
    subst this
    exact ⟨a, b, c, found, o4, rfl, List.Perm.refl _⟩
  | k :: ks, a, b, c, rest, found, o4, hk, hl => by
    rw [List.length_cons] at hk
    obtain ⟨a1, b1, c1, i, hi, e1⟩ := strewn_body (X := X) a b c rest found (some (.p k)) (by omega) (by omega) (by omega)
    obtain ⟨a2, b2, c2, found', o4', e2, m2⟩ := strewn_loop (X := X) ks a1 b1 c1 (rest.eraseIdx i) (found ++ [rest[i]]) (some (.p k)) (by rw [List.length_eraseIdx_of_lt hi]; omega) (by rw [List.length_eraseIdx_of_lt hi, List.length_append, List.length_singleton]; omega)
    refine ⟨a2, b2, c2, found', o4', ?_, ?_⟩
    · have ea : asg (.sl 4) (.p k) [some (bx a b c), some X, some (.l (rest.map .p)), some (.l (found.map .p)), o4] = some [some (bx a b c), some X, some (.l (rest.map .p)), some (.l (found.map .p)), some (.p k)] := by simp [asg]
      rw [forL, ea, Option.bind_some, e1, Option.bind_some]
      simp only [stE_eq]
      exact e2
    · refine m2.trans ?_
      have p1 : (rest[i] :: rest.eraseIdx i).Perm rest := erase_perm rest i hi
      have p2 : (rest.eraseIdx i ++ (found ++ [rest[i]])).Perm (rest[i] :: (rest.eraseIdx i ++ found)) := by
        rw [← List.append_assoc]
        exact List.perm_append_singleton _ _
      exact p2.trans (p1.append_right found)
/-- the strewn ones: as many, all from among them -/
theorem strewn_ok (a b c : Int) (ds : List PyData) (hl : ds.length ≤ 1000) : ∃ (a' b' c' : Int) (ds' : List PyData), D_law_strewn [bx a b c, .l (ds.map .p)] = some (.l (ds'.map .p), [some (bx a' b' c'), some (.l (ds.map .p))]) ∧ ds'.Perm ds := by
  obtain ⟨a', b', c', ds', o4, e, m⟩ := strewn_loop (X := .l (ds.map .p)) (rgD 0 (ds.length : Int)) a b c ds [] none (by rw [rgD_nI, List.length_map, List.length_range]) (by simpa using hl)
  refine ⟨a', b', c', ds', ?_, by simpa using m⟩
  have s0 : sPar 2 3 (uaCons (uFun fList (uaCons (uVar 1) uaNil)) (uaCons (uLst uaNil) uaNil)) [some (bx a b c), some (.l (ds.map .p)), none, none, none] = some (.nx [some (bx a b c), some (.l (ds.map .p)), some (.l (ds.map .p)), some (.l []), none]) := by
    have := allP_map ds
    simp [sPar, uaCons, uaNil, uFun, uVar, rdL, rd, fList, els, this, uLst, takeL, G.take]
  have hu : uaCons (uFun fLen (uaCons (uVar 2) uaNil)) uaNil [some (bx a b c), some (.l (ds.map .p)), some (.l (ds.map .p)), some (.l []), none] = some ([.tmp (.p (.int ds.length))], [some (bx a b c), some (.l (ds.map .p)), some (.l (ds.map .p)), some (.l []), none]) := by
    simp [uaCons, uaNil, uFun, uVar, rdL, rd, fLen, lenM]
  have s1 : sFor (uiR1 (uaCons (uFun fLen (uaCons (uVar 2) uaNil)) uaNil)) (.sl 4) m_law_strewn_b1
      [some (bx a b c), some (.l (ds.map .p)), some (.l (ds.map .p)), some (.l []), none] = some (.nx [some (bx a' b' c'), some (.l (ds.map .p)), some (.l []), some (.l (ds'.map .p)), o4]) := by
    unfold sFor
    rw [r1_ok hu (rg_ok _ hl), Option.bind_some]
    exact e
  have s2 : sRet (uVar 3) [some (bx a' b' c'), some (.l (ds.map .p)), some (.l []), some (.l (ds'.map .p)), o4] = some (.rt (.l (ds'.map .p)) [some (bx a' b' c'), some (.l (ds.map .p)), some (.l []), none, o4]) := by
    simp [sRet, uVar, mv]
  have hm : m_law_strewn [some (bx a b c), some (.l (ds.map .p)), none, none, none] = some (.rt (.l (ds'.map .p)) [some (bx a' b' c'), some (.l (ds.map .p)), some (.l []), none, o4]) := by
    unfold m_law_strewn
    rw [seq_go s0, seq_go s1, s2]
  exact fn_go (n := 5) (k := 2) (np := 2) (f := m_law_strewn) (ms := [bx a b c, .l (ds.map .p)]) (Eq.refl 2) hm
/-! the law's own standing -/
theorem lies_loop (w : PyData) : ∀ (ps : List (Nat × Nat)) (a b c : Int), ∃ (a' b' c' : Int) (s : List Nat), lcL (.sl 2) uYes (uItem (uVar 2) (uCall D_law_take (uaCons (uVar 0) (uaCons (uC (.int 2)) uaNil)))) [2] (ps.map fun p => sq true [nI p.1, nI p.2])
      [some (bx a b c), some (.p w), none] = some (s.map iN, [some (bx a' b' c'), some (.p w), none]) ∧ Sd ps s
  | [], a, b, c => ⟨a, b, c, [], rfl, rfl, fun i p h => by cases h⟩
  | p :: ps, a, b, c => by
    obtain ⟨r, a1, b1, c1, r0, r1, ht⟩ := take_ok a b c 2 (by decide) (by decide)
    obtain ⟨a2, b2, c2, s, ih, S⟩ := lies_loop w ps a1 b1 c1
    have hr : r = 0 ∨ r = 1 := by omega
    have fin : ∀ v : Nat, (v = p.1 ∨ v = p.2) → itemM (.p (sq true [nI p.1, nI p.2])) r = some (iN v) → ∃ (a' b' c' : Int) (s : List Nat), lcL (.sl 2) uYes (uItem (uVar 2) (uCall D_law_take (uaCons (uVar 0) (uaCons (uC (.int 2)) uaNil)))) [2] ((p :: ps).map fun p => sq true [nI p.1, nI p.2])
      [some (bx a b c), some (.p w), none] = some (s.map iN, [some (bx a' b' c'), some (.p w), none]) ∧ Sd (p :: ps) s := by
      intro v hv hi
      refine ⟨a2, b2, c2, v :: s, ?_, by rw [List.length_cons, List.length_cons, S.len], fun i q hq => ?_⟩
      · have hd : isD (.p (sq true [nI p.1, nI p.2])) = false := rfl
        rw [List.map_cons, lcL]
        generalize hq : sq true [nI p.1, nI p.2] = pd at hi hd ⊢
        simp [asg, uYes, uItem, uVar, uC, uCall, uaCons, uaNil, passL, passOp, ht, backL, stM_eq, rd, hd, itemI, hi, giveM, G.take, wipeE, ih]
      · cases i with
        | zero =>
          have : q = p := by simpa using hq.symm
          subst this
          rcases hv with e | e
          · exact .inl (by rw [e]; rfl)
          · exact .inr (by rw [e]; rfl)
        | succ i =>
          have := S.at_ i q (by simpa using hq)
          simpa using this
    rcases hr with rfl | rfl
    · exact fin p.1 (.inl rfl) (item_sq true _ 0)
    · exact fin p.2 (.inr rfl) (item_sq true _ 1)
theorem lies_ok {n : Nat} {lots : List (Nat × Nat)} {ranks : List (List Nat)} (O : Ok n lots ranks) (a b c : Int) : ∃ (a' b' c' : Int) (s : List Nat), D_law_lies [bx a b c, .p (wD true lots ranks)] = some (.p (sD s), [some (bx a' b' c'), some (.p (wD true lots ranks))]) ∧ Sd lots s := by
  obtain ⟨a', b', c', s, h, S⟩ := lies_loop (wD true lots ranks) lots a b c
  refine ⟨a', b', c', s, ?_, S⟩
  have i1 : uiSeq (uItem (uVar 1) (uC (.int 0))) [some (bx a b c), some (.p (wD true lots ranks)), none] = some (lots.map fun p => sq true [nI p.1, nI p.2], [some (bx a b c), some (.p (wD true lots ranks)), none]) := by
    simp [uiSeq, uItem, uVar, uC, rd, isD_w, itemI, item_w0, giveM, G.take, frz, seqD_sq]
  have hl : lots.length ≤ sizeLine := len_le_line (by have := O.ll; omega)
  have e1 : uLc (uiSeq (uItem (uVar 1) (uC (.int 0)))) (.sl 2) uYes (uItem (uVar 2) (uCall D_law_take (uaCons (uVar 0) (uaCons (uC (.int 2)) uaNil)))) [2] [some (bx a b c), some (.p (wD true lots ranks)), none] = some (.tmp (.l (s.map iN)), [some (bx a' b' c'), some (.p (wD true lots ranks)), none]) := by
    unfold uLc
    rw [i1, Option.bind_some]
    simp [plainAt, hl, wipeE, h, restE]
  have e2 : fTuple [.l (s.map iN)] = some (.p (sD s)) := by
    have := allP_map (s.map nI)
    rw [List.map_map] at this
    show (allP (s.map iN)).map _ = _
    rw [show allP (s.map iN) = some (s.map nI) from this]
    rfl
  have hm : m_law_lies [some (bx a b c), some (.p (wD true lots ranks)), none] = some (.rt (.p (sD s)) [some (bx a' b' c'), some (.p (wD true lots ranks)), none]) := by
    unfold m_law_lies
    generalize uLc (uiSeq (uItem (uVar 1) (uC (.int 0)))) (.sl 2) uYes (uItem (uVar 2) (uCall D_law_take (uaCons (uVar 0) (uaCons (uC (.int 2)) uaNil)))) [2] = U at e1 ⊢
    simp [sRet, uFun, uaCons, uaNil, e1, rdL, rd, e2, mv]
  exact fn_go (n := 3) (k := 2) (np := 2) (f := m_law_lies) (ms := [bx a b c, .p (wD true lots ranks)]) (Eq.refl 2) hm
/-! lists for tuples -/
def LS (F : Fn) : Fn := fnOf 2 1 1 (m_law_listed F)
theorem listed_int (F : Fn) (i : Int) : LS F [.p (.int i)] = some (.p (.int i), [some (.p (.int i))]) := by
  simp [LS, m_law_listed, fnOf, padE, outsOf, stE_eq, sRet, uIf, uTru, uIsi, uVar, rd, tyM, tyD, isT, truM, mv]
theorem listed_tup (F : Fn) (f : PyData → M) (ds : List PyData) (hl : ds.length ≤ 1000) (h : ∀ x, x ∈ ds → F [.p x] = some (f x, [some (.p x)])) : LS F [.p (.tuple ds)] = some (.l (ds.map f), [some (.p (.tuple ds))]) := by
  have hl' : ds.length ≤ sizeLine := len_le_line hl
  have l1 : lcL (.sl 1) uYes (uCall F (uaCons (uVar 1) uaNil)) [1] ds [some (.p (.tuple ds)), none] = some (ds.map f, [some (.p (.tuple ds)), none]) := by
    have := lc_go (env := [some (.p (.tuple ds)), none]) (p := .sl 1) (t := uYes) (u := uCall F (uaCons (uVar 1) uaNil)) (vs := [1]) (fun d : PyData => d) (fun _ => true) f ds fun x hx => by
      have hF := h x hx
      refine ⟨[some (.p (.tuple ds)), some (.p x)], [some (.p (.tuple ds)), some (.p x)], by simp [asg], rfl, fun _ => ⟨(.tmp (f x), [some (.p (.tuple ds)), some (.p x)]), [some (.p (.tuple ds)), some (.p x)], ?_, rfl, by simp [wipeE]⟩, fun q => by cases q⟩
      simp [uCall, uaCons, uaNil, uVar, passL, passOp, hF, backL, stM_eq]
    rw [List.map_id'] at this
    rw [this, List.filter_eq_self.mpr (fun _ _ => rfl)]
  simp [LS, m_law_listed, fnOf, padE, outsOf, stE_eq, sRet, uIf, uTru, uIsi, uVar, rd, tyM, tyD, isT, truM, uLc, uiSeq, G.take, takeS, frz, seqD, plainAt, hl', wipeE, l1, restE, mv]
def lW (lots : List (Nat × Nat)) (ranks : List (List Nat)) : M := .l [.l (lots.map fun p => .l [iN p.1, iN p.2]), .l (ranks.map fun r => .l (r.map iN))]
theorem listed_w {n : Nat} {lots : List (Nat × Nat)} {ranks : List (List Nat)} (O : Ok n lots ranks) : D_law_listed [.p (wD true lots ranks)] = some (lW lots ranks, [some (.p (wD true lots ranks))]) := by
  have h2 : ∀ i : Nat, D_law_listed_n 2 [.p (nI i)] = some (iN i, [some (.p (nI i))]) := fun i => listed_int (D_law_listed_n 1) i
  have lists : ∀ r : List Nat, r.length ≤ 1000 → D_law_listed_n 3 [.p (.tuple (r.map nI))] = some (.l (r.map iN), [some (.p (.tuple (r.map nI)))]) := fun r hr => by
    have := listed_tup (D_law_listed_n 2) M.p (r.map nI) (by rw [List.length_map]; exact hr) fun x hx => by
      obtain ⟨i, _, rfl⟩ := List.mem_map.mp hx
      exact h2 i
    rw [List.map_map] at this
    exact this
  let f3 : PyData → M := fun d => match D_law_listed_n 3 [.p d] with
    | some (m, _) => m
    | none => .p .none
  have l4 : ∀ ds : List PyData, ds.length ≤ 1000 → (∀ d, d ∈ ds → ∃ r : List Nat, r.length ≤ 1000 ∧ d = .tuple (r.map nI)) → D_law_listed_n 4 [.p (.tuple ds)] = some (.l (ds.map f3), [some (.p (.tuple ds))]) := fun ds hl h => by
    refine listed_tup (D_law_listed_n 3) f3 ds hl fun x hx => ?_
    obtain ⟨r, hr, rfl⟩ := h x hx
    have e := lists r hr
    have ef : f3 (.tuple (r.map nI)) = .l (r.map iN) := by
      show (match D_law_listed_n 3 [.p (.tuple (r.map nI))] with
        | some (m, _) => m
        | none => M.p .none) = _
      rw [e]
    rw [ef, e]
  have e3 : ∀ r : List Nat, r.length ≤ 1000 → f3 (.tuple (r.map nI)) = .l (r.map iN) := fun r hr => by
    show (match D_law_listed_n 3 [.p (.tuple (r.map nI))] with
      | some (m, _) => m
      | none => M.p .none) = _
    rw [lists r hr]
  have a1 := l4 (lots.map fun p => .tuple ([p.1, p.2].map nI)) (by rw [List.length_map]; have := O.ll; omega) fun d hd => by
    obtain ⟨p, _, rfl⟩ := List.mem_map.mp hd
    exact ⟨[p.1, p.2], by simp, rfl⟩
  have a2 := l4 (ranks.map fun r => .tuple (r.map nI)) (by rw [List.length_map, O.rl]; have := O.n8; omega) fun d hd => by
    obtain ⟨r, hr, rfl⟩ := List.mem_map.mp hd
    exact ⟨r, by have := (O.rk r hr).2; omega, rfl⟩
  have b1 : (lots.map fun p => PyData.tuple ([p.1, p.2].map nI)).map f3 = lots.map fun p => M.l [iN p.1, iN p.2] := by
    rw [List.map_map]
    refine List.map_congr_left fun p _ => ?_
    exact e3 [p.1, p.2] (by simp)
  have b2 : (ranks.map fun r => PyData.tuple (r.map nI)).map f3 = ranks.map fun r => M.l (r.map iN) := by
    rw [List.map_map]
    refine List.map_congr_left fun r hr => ?_
    exact e3 r (by have := (O.rk r hr).2; omega)
  rw [b1] at a1
  rw [b2] at a2
  let f4 : PyData → M := fun d => match D_law_listed_n 4 [.p d] with
    | some (m, _) => m
    | none => .p .none
  have z := listed_tup (D_law_listed_n 4) f4 [.tuple (lots.map fun p => .tuple ([p.1, p.2].map nI)), .tuple (ranks.map fun r => .tuple (r.map nI))] (by simp) fun x hx => by
    simp only [List.mem_cons, List.not_mem_nil, or_false] at hx
    rcases hx with rfl | rfl
    · show _ = some ((match D_law_listed_n 4 [.p _] with
        | some (m, _) => m
        | none => M.p .none), _)
      rw [a1]
    · show _ = some ((match D_law_listed_n 4 [.p _] with
        | some (m, _) => m
        | none => M.p .none), _)
      rw [a2]
  have c1 : f4 (.tuple (lots.map fun p => .tuple ([p.1, p.2].map nI))) = .l (lots.map fun p => M.l [iN p.1, iN p.2]) := by
    show (match D_law_listed_n 4 [.p _] with
        | some (m, _) => m
        | none => M.p .none) = _
    rw [a1]
  have c2 : f4 (.tuple (ranks.map fun r => .tuple (r.map nI))) = .l (ranks.map fun r => M.l (r.map iN)) := by
    show (match D_law_listed_n 4 [.p _] with
        | some (m, _) => m
        | none => M.p .none) = _
    rw [a2]
  rw [List.map_cons, List.map_cons, List.map_nil, c1, c2] at z
  exact z
theorem frz_lW (lots : List (Nat × Nat)) (ranks : List (List Nat)) : frz (lW lots ranks) = some (wD false lots ranks) := by
  have h1 : frzL (lots.map fun p => M.l [iN p.1, iN p.2]) = some (lots.map fun p => PyData.list [nI p.1, nI p.2]) := by
    induction lots with
    | nil => rfl
    | cons p ps ih => simp [frzL, frz, ih]
  have h2 : frzL (ranks.map fun r => M.l (r.map iN)) = some (ranks.map fun r => PyData.list (r.map nI)) := by
    induction ranks with
    | nil => rfl
    | cons r rs ih =>
      have := frzL_map (r.map nI)
      rw [List.map_map] at this
      have this : frzL (r.map iN) = some (r.map nI) := this
      simp [frzL, frz, ih, this]
  simp [lW, frz, frzL, h1, h2, wD, sq]
end Hc

namespace Hc
open PySem PySem.Spec PyProof.Rows L2 G
/-! the drawn world -/
abbrev pD (p : Nat × Nat) : PyData := .tuple [nI p.1, nI p.2]
def dot (k : Nat) (o : Nat → Option M) : List (Option M) := (List.range k).map o
theorem mines (e : G.Env) (its : Nat) (h5 : e[5]? = some (some (iN its))) (h13 : e[13]? = some none) (hl : 13 < e.length) : ∀ xs : List Nat,
    lcL (.sl 13) uYes (uTup (uaCons (uVar 13) (uaCons (uVar 5) uaNil))) [13] (xs.map nI) e = some (xs.map fun m => .p (pD (m, its)), e) := fun xs => by
  have hset : e.set 13 none = e := by
    have := List.set_getElem_self (as := e) hl
    rw [List.getElem?_eq_getElem hl] at h13
    rw [Option.some.inj h13] at this
    exact this
  have := lc_go (env := e) (p := .sl 13) (t := uYes) (u := uTup (uaCons (uVar 13) (uaCons (uVar 5) uaNil))) (vs := [13]) nI (fun _ => true) (fun m => M.p (pD (m, its))) xs fun x _ => by
    have e5 : (e.set 13 (some (iN x)))[5]? = some (some (iN its)) := by rw [List.getElem?_set_ne (by decide)]; exact h5
    have e13 : (e.set 13 (some (iN x)))[13]? = some (some (iN x)) := by rw [List.getElem?_set_self hl]
    have s13 : (e.set 13 (some (iN x))).set 13 (some (iN x)) = e.set 13 (some (iN x)) := by rw [List.set_set]
    have s5 : (e.set 13 (some (iN x))).set 5 (some (iN its)) = e.set 13 (some (iN x)) := st_set_self e5
    refine ⟨e.set 13 (some (iN x)), e.set 13 (some (iN x)), by simp [asg, hl], rfl, fun _ => ⟨(.tmp (.p (pD (x, its))), e.set 13 (some (iN x))), e.set 13 (some (iN x)), ?_, rfl, by simp [wipeE, hset]⟩, fun q => by cases q⟩
    simp [uTup, uaCons, uaNil, uVar, e5, e13, takeL, G.take, takeS, frz, s13, s5, mkT, allP]
  rw [this, List.filter_eq_self.mpr (fun _ _ => rfl)]
theorem pairs_body (e : G.Env) (its n : Nat) (hi : its < n) (hn : n ≤ 8) (P : List (Nat × Nat)) (hP : P.length ≤ 500) (h4 : e[4]? = some (some (.l (P.map fun p => .p (pD p))))) (h5 : e[5]? = some (some (iN its))) (h13 : e[13]? = some none) (hl : 13 < e.length) :
    m_law_field_b2 e = some (.nx (e.set 4 (some (.l ((P ++ (List.range its).map fun m => (m, its)).map fun p => .p (pD p)))))) := by
  have hu : uaCons (uVar 5) uaNil e = some ([.slot 5], e) := by simp [uaCons, uaNil, uVar, h5]
  have hr : uiR1 (uaCons (uVar 5) uaNil) e = some (rgD 0 its, e) := by
    unfold uiR1
    rw [hu, Option.bind_some]
    have : rdL e [.slot 5] = some [iN its] := by simp [rdL, rd, h5]
    rw [this]
    show (if rgOk 0 (its : Int) = true then some (rgD 0 (its : Int), e) else none) = _
    rw [if_pos (rg_ok its (by omega))]
  have hset : e.set 13 none = e := st_set_self h13
  have hlc : uLc (uiR1 (uaCons (uVar 5) uaNil)) (.sl 13) uYes (uTup (uaCons (uVar 13) (uaCons (uVar 5) uaNil))) [13] e = some (.tmp (.l ((List.range its).map fun m => .p (pD (m, its)))), e) := by
    unfold uLc
    rw [hr, Option.bind_some, rgD_nI]
    have c1 : (decide (((List.range its).map nI).length ≤ sizeLine) && plainAt e [13]) = true := by
      rw [List.length_map, List.length_range, decide_eq_true (len_le_line (by omega : its ≤ 1000))]
      simp [plainAt, h13]
    rw [if_pos c1]
    have w : wipeE e [13] = e := by simp [wipeE, hset]
    rw [w, mines e its h5 h13 hl, Option.bind_some]
    have r : restE e [13] e = e := by simp [restE, h13, hset]
    rw [r]
  have cat : fAdd (.l (P.map fun p => .p (pD p))) (.l ((List.range its).map fun m => .p (pD (m, its)))) = some (.l ((P ++ (List.range its).map fun m => (m, its)).map fun p => .p (pD p))) := by
    have a1 : allP (P.map fun p => .p (pD p)) = some (P.map pD) := by
      have := allP_map (P.map pD)
      rw [List.map_map] at this
      exact this
    have a2 : allP ((List.range its).map fun m => .p (pD (m, its))) = some ((List.range its).map fun m => pD (m, its)) := by
      have := allP_map ((List.range its).map fun m => pD (m, its))
      rw [List.map_map] at this
      exact this
    have hz : P.length + its ≤ sizeLine := len_le_line (by omega)
    have n1 : lift2 (iI fun i j => i + j) (.l (P.map fun p => .p (pD p))) (.l ((List.range its).map fun m => .p (pD (m, its)))) = none := by
      have f1 : frz (.l (P.map fun p => .p (pD p))) = some (.list (P.map pD)) := by
        have := frzL_map (P.map pD)
        rw [List.map_map] at this
        show (frzL _).map _ = _
        rw [show frzL (P.map fun p => .p (pD p)) = some (P.map pD) from this]
        rfl
      unfold lift2
      rw [f1, Option.bind_some]
      cases frz (.l ((List.range its).map fun m => .p (pD (m, its)))) with
      | none => rfl
      | some dy => rfl
    unfold fAdd
    rw [n1]
    simp [catL, catO, a1, a2, hz, List.map_append, List.map_map, Function.comp_def]
  unfold m_law_field_b2 sAsg uBin
  have hv : uVar 4 e = some (.slot 4, e) := by simp [uVar, h4]
  rw [hv]
  simp only [Option.bind_some]
  rw [hlc]
  have hl4 : 4 < e.length := by omega
  have hrd : rd e (.slot 4) = some (.l (P.map fun p => .p (pD p))) := by
    show (match e[4]? with
      | some (some m) => some m
      | _ => none) = _
    rw [h4]
  simp only [Option.bind_some]
  rw [hrd, Option.bind_some, show rd e (.tmp (.l ((List.range its).map fun m => .p (pD (m, its))))) = some (.l ((List.range its).map fun m => .p (pD (m, its)))) from rfl, Option.bind_some, cat]
  simp only [Option.bind_some, G.take]
  have ha : ∀ m, asg (.sl 4) m e = some (e.set 4 (some m)) := fun m => by unfold asg; rw [if_pos hl4]
  rw [ha]
  rfl
theorem lt_getq {α : Type} {e : List α} {i : Nat} {x : α} (h : e[i]? = some x) : i < e.length := by
  obtain ⟨h, _⟩ := List.getElem?_eq_some_iff.mp h
  exact h
/-- all pairs below n -/
theorem pairs_loop (n : Nat) (hn : n ≤ 8) : ∀ (xs : List Nat) (e : G.Env) (P : List (Nat × Nat)), (∀ x, x ∈ xs → x < n) → P.length + 8 * xs.length ≤ 400 → (∀ p, p ∈ P → p.1 < p.2 ∧ p.2 < n) → e[4]? = some (some (.l (P.map fun p => .p (pD p)))) → e[13]? = some none → 13 < e.length →
    ∃ (o5 : Option M) (Q : List (Nat × Nat)), forL (.sl 5) m_law_field_b2 (xs.map nI) e
      = some (.nx ((e.set 5 o5).set 4 (some (.l (Q.map fun p => .p (pD p)))))) ∧ (∀ p, p ∈ Q → p.1 < p.2 ∧ p.2 < n) ∧ Q.length ≤ 400
  | [], e, P, hx, hl, hP, h4, h13, hlen => by
    have h5 : ∃ o, e[5]? = some o := ⟨_, List.getElem?_eq_getElem (by omega)⟩
    obtain ⟨o, h5⟩ := h5
    refine ⟨o, P, ?_, hP, by omega⟩
    rw [st_set_self h5, st_set_self h4]
    rfl
  | x :: xs, e, P, hx, hl, hP, h4, h13, hlen => by
    rw [List.length_cons] at hl
    have hxn := hx x (List.mem_cons_self ..)
    have e1 : (e.set 5 (some (iN x)))[4]? = some (some (.l (P.map fun p => .p (pD p)))) := by rw [List.getElem?_set_ne (by decide)]; exact h4
    have e2 : (e.set 5 (some (iN x)))[5]? = some (some (iN x)) := List.getElem?_set_self (by omega)
    have e3 : (e.set 5 (some (iN x)))[13]? = some none := by rw [List.getElem?_set_ne (by decide)]; exact h13
    have hb := pairs_body (e.set 5 (some (iN x))) x n hxn hn P (by omega) e1 e2 e3 (by rw [List.length_set]; exact hlen)
    obtain ⟨o5, Q, ih, hQ, hQl⟩ := pairs_loop n hn xs ((e.set 5 (some (iN x))).set 4 (some (.l ((P ++ (List.range x).map fun m => (m, x)).map fun p => .p (pD p))))) (P ++ (List.range x).map fun m => (m, x)) (fun y hy => hx y (List.mem_cons_of_mem _ hy))
      (by rw [List.length_append, List.length_map, List.length_range]; omega) (fun p hp => by
        rcases List.mem_append.mp hp with q | q
        · exact hP p q
        · obtain ⟨m, hm, rfl⟩ := List.mem_map.mp q
          exact ⟨List.mem_range.mp hm, hxn⟩) (List.getElem?_set_self (by rw [List.length_set]; omega)) (by rw [List.getElem?_set_ne (by decide)]; exact e3) (by rw [List.length_set, List.length_set]; exact hlen)
    refine ⟨o5, Q, ?_, hQ, hQl⟩
    have ea : asg (.sl 5) (.p (nI x)) e = some (e.set 5 (some (iN x))) := by unfold asg; rw [if_pos (by omega)]
    rw [List.map_cons, forL, ea, Option.bind_some, hb, Option.bind_some]
    simp only [stE_eq]
    rw [ih]
    congr 2
    rw [List.set_comm _ _ (by decide : (4 : Nat) ≠ 5), List.set_set, List.set_set]
theorem of_ok (a b c : Int) (Q : List (Nat × Nat)) (hq : Q ≠ []) (hl : Q.length ≤ 1000) : ∃ (a' b' c' : Int) (p : Nat × Nat), p ∈ Q ∧ D_law_of [bx a b c, .l (Q.map fun p => .p (pD p))] = some (.p (pD p), [some (bx a' b' c'), some (.l (Q.map fun p => .p (pD p)))]) := by
  have hp : 0 < Q.length := List.length_pos_iff.mpr hq
  obtain ⟨r, a', b', c', r0, r1, ht⟩ := take_ok a b c Q.length (by omega) (by omega)
  have hi : r.toNat < Q.length := by omega
  refine ⟨a', b', c', Q[r.toNat], List.getElem_mem hi, ?_⟩
  have e1 : itemM (.l (Q.map fun p => .p (pD p))) r = some (.p (pD Q[r.toNat])) := by
    show atI _ _ = _
    unfold atI
    rw [List.length_map, ixN_ok r0 r1, Option.bind_some, List.getElem?_map, List.getElem?_eq_getElem hi]
    rfl
  simp [D_law_of, fnOf, m_law_of, padE, outsOf, stE_eq, stM_eq, sRet, uItem, uCall, uaCons, uaNil, uFun, uVar, rd, rdL, fLen, lenM, passL, passOp, ht, backL, isD, itemI, e1, giveM, mv]
theorem lots_loop (Q : List (Nat × Nat)) (hq : Q ≠ []) (hql : Q.length ≤ 1000) : ∀ (ks : List PyData) (a b c : Int) (e : G.Env), e[0]? = some (some (bx a b c)) → e[6]? = some (some (.l (Q.map fun p => .p (pD p)))) → e[14]? = some none → 14 < e.length →
    ∃ (a' b' c' : Int) (R : List (Nat × Nat)), lcL (.sl 14) uYes (uCall D_law_of (uaCons (uVar 0) (uaCons (uVar 6) uaNil))) [14] ks e = some (R.map fun p => .p (pD p), e.set 0 (some (bx a' b' c'))) ∧ (∀ p, p ∈ R → p ∈ Q) ∧ R.length = ks.length
  | [], a, b, c, e, h0, h6, h14, hl => by
    refine ⟨a, b, c, [], ?_, ⟨fun p h => (List.not_mem_nil h).elim, rfl⟩⟩
    rw [st_set_self h0]
    rfl
  | k :: ks, a, b, c, e, h0, h6, h14, hl => by
    obtain ⟨a1, b1, c1, p, hp, ho⟩ := of_ok a b c Q hq hql
    have g0 : (e.set 0 (some (bx a1 b1 c1)))[0]? = some (some (bx a1 b1 c1)) := List.getElem?_set_self (by omega)
    have g6 : (e.set 0 (some (bx a1 b1 c1)))[6]? = some (some (.l (Q.map fun p => .p (pD p)))) := by rw [List.getElem?_set_ne (by decide)]; exact h6
    have g14 : (e.set 0 (some (bx a1 b1 c1)))[14]? = some none := by rw [List.getElem?_set_ne (by decide)]; exact h14
    obtain ⟨a2, b2, c2, R, ih, hR, hRl⟩ := lots_loop Q hq hql ks a1 b1 c1 (e.set 0 (some (bx a1 b1 c1))) g0 g6 g14 (by rw [List.length_set]; exact hl)
    refine ⟨a2, b2, c2, p :: R, ?_, fun x hx => ?_, by rw [List.length_cons, List.length_cons, hRl]⟩
    · have ea : asg (.sl 14) (.p k) e = some (e.set 14 (some (.p k))) := by unfold asg; rw [if_pos hl]
      have d0 : (e.set 14 (some (.p k)))[0]? = some (some (bx a b c)) := by rw [List.getElem?_set_ne (by decide)]; exact h0
      have d6 : (e.set 14 (some (.p k)))[6]? = some (some (.l (Q.map fun p => .p (pD p)))) := by rw [List.getElem?_set_ne (by decide)]; exact h6
      have hargs : uaCons (uVar 0) (uaCons (uVar 6) uaNil) (e.set 14 (some (.p k))) = some ([.slot 0, .slot 6], e.set 14 (some (.p k))) := by simp [uaCons, uaNil, uVar, d0, d6]
      have hpass : passL (e.set 14 (some (.p k))) [.slot 0, .slot 6] = some ([bx a b c, .l (Q.map fun p => .p (pD p))], [some 0, some 6], ((e.set 14 (some (.p k))).set 0 none).set 6 none) := by
        have d6' : ((e.set 14 (some (.p k))).set 0 none)[6]? = some (some (.l (Q.map fun p => .p (pD p)))) := by rw [List.getElem?_set_ne (by decide)]; exact d6
        simp [passL, passOp, d0, d6']
      have hcall := uCall_go hargs hpass ho
      have hback : wipeE (backL [some 0, some 6] [some (bx a1 b1 c1), some (.l (Q.map fun p => .p (pD p)))] (((e.set 14 (some (.p k))).set 0 none).set 6 none)) [14] = e.set 0 (some (bx a1 b1 c1)) := by
        apply List.ext_getElem?
        intro i
        simp only [backL, wipeE]
        have e0 := h0
        by_cases i0 : i = 0
        · subst i0
          rw [List.getElem?_set_ne (by decide), List.getElem?_set_ne (by decide), List.getElem?_set_self (by simp; omega), List.getElem?_set_self (by omega)]
        · by_cases i6 : i = 6
          · subst i6
            rw [List.getElem?_set_ne (by decide), List.getElem?_set_self (by simp; omega), List.getElem?_set_ne (by decide), h6]
          · by_cases i14 : i = 14
            · subst i14
              rw [List.getElem?_set_self (by simp; omega), List.getElem?_set_ne (by decide), h14]
            · rw [List.getElem?_set_ne (fun z => i14 z.symm), List.getElem?_set_ne (fun z => i6 z.symm), List.getElem?_set_ne (fun z => i0 z.symm), List.getElem?_set_ne (fun z => i6 z.symm), List.getElem?_set_ne (fun z => i0 z.symm), List.getElem?_set_ne (fun z => i14 z.symm), List.getElem?_set_ne (fun z => i0 z.symm)]
      rw [lcL, ea, Option.bind_some]
      rw [show uYes (e.set 14 (some (.p k))) = some (true, e.set 14 (some (.p k))) from rfl, Option.bind_some]
      simp only [if_true]
      rw [hcall, Option.bind_some]
      simp only [G.take, Option.bind_some]
      rw [hback, ih, Option.bind_some, List.set_set]
      rfl
    · rcases List.mem_cons.mp hx with rfl | hx
      · exact hp
      · exact hR x hx
theorem eqv_int (a b : Int) : PyData.eqv (.int a) (.int b) = (a == b) := by rw [PyData.eqv]
theorem in_pair (w : Nat) (p : Nat × Nat) : inM (iN w) (.p (pD p)) = some (decide (p.1 = w ∨ p.2 = w)) := by
  have h1 : okD (.int (w : Nat)) = true := by simp [okD, SeqAt.shaped, PyData.canLay0, PyData.depth]
  have h2 : okD (.tuple [nI p.1, nI p.2]) = true := by simp [okD, SeqAt.shaped, PyData.canLay0, PyData.canLayAll0, PyData.depth, PyData.depthAll]
  show inD (.tuple [nI p.1, nI p.2]) (nI w) = _
  unfold inD
  simp only [h1, h2, Bool.and_self, if_true, List.any_cons, List.any_nil, eqv_int, Bool.or_false]
  by_cases a : p.1 = w
  · simp [a]
  · by_cases b : p.2 = w
    · simp [b]
    · have a' : ¬ (p.1 : Int) = w := by omega
      have b' : ¬ (p.2 : Int) = w := by omega
      simp [a, b, a', b']
/-- whose things: the slots 7 (lots), 11 (person) -/
theorem own_filter (L : List (Nat × Nat)) (w : Nat) (e : G.Env) (h7 : e[7]? = some (some (.l (L.map fun p => .p (pD p))))) (h11 : e[11]? = some (some (iN w))) (h15 : e[15]? = some none) (hl : 15 < e.length) (T : List Nat) (hT : ∀ i, i ∈ T → i < L.length) :
    lcL (.sl 15) (uTruB (uIn false (uVar 11) (uItem (uVar 7) (uVar 15)))) (uVar 15) [15] (T.map nI) e = some ((T.filter fun i => decide ((L.getD i (0, 0)).1 = w ∨ (L.getD i (0, 0)).2 = w)).map iN, e) := by
  have hset : e.set 15 none = e := st_set_self h15
  have := lc_go (env := e) (p := .sl 15) (t := uTruB (uIn false (uVar 11) (uItem (uVar 7) (uVar 15)))) (u := uVar 15) (vs := [15]) nI (fun i => decide ((L.getD i (0, 0)).1 = w ∨ (L.getD i (0, 0)).2 = w)) iN T fun i hi => by
    have hiL := hT i hi
    have e7 : (e.set 15 (some (iN i)))[7]? = some (some (.l (L.map fun p => .p (pD p)))) := by rw [List.getElem?_set_ne (by decide)]; exact h7
    have e11 : (e.set 15 (some (iN i)))[11]? = some (some (iN w)) := by rw [List.getElem?_set_ne (by decide)]; exact h11
    have e15 : (e.set 15 (some (iN i)))[15]? = some (some (iN i)) := List.getElem?_set_self hl
    have s15 : (e.set 15 (some (iN i))).set 15 (some (iN i)) = e.set 15 (some (iN i)) := by rw [List.set_set]
    have it : itemM (.l (L.map fun p => .p (pD p))) (i : Int) = some (.p (pD L[i])) := by
      show atI _ _ = _
      rw [atI_nat, List.getElem?_map, List.getElem?_eq_getElem hiL]
      rfl
    have hg : L.getD i (0, 0) = L[i] := by rw [List.getD_eq_getElem?_getD, List.getElem?_eq_getElem hiL]; rfl
    have hin := in_pair w L[i]
    refine ⟨e.set 15 (some (iN i)), e.set 15 (some (iN i)), by simp [asg, hl], ?_, fun _ => ⟨(.slot 15, e.set 15 (some (iN i))), e.set 15 (some (iN i)), by simp [uVar, e15], ?_, by simp [wipeE, hset]⟩, fun _ => by simp [wipeE, hset]⟩
    · have v11 : uVar 11 (e.set 15 (some (iN i))) = some (.slot 11, e.set 15 (some (iN i))) := by unfold uVar; rw [e11]
      have v7 : uVar 7 (e.set 15 (some (iN i))) = some (.slot 7, e.set 15 (some (iN i))) := by unfold uVar; rw [e7]
      have v15 : uVar 15 (e.set 15 (some (iN i))) = some (.slot 15, e.set 15 (some (iN i))) := by unfold uVar; rw [e15]
      have r7 : rd (e.set 15 (some (iN i))) (.slot 7) = some (.l (L.map fun p => .p (pD p))) := by
        show (match (e.set 15 (some (iN i)))[7]? with | some (some m) => some m | _ => none) = _
        rw [e7]
      have r11 : rd (e.set 15 (some (iN i))) (.slot 11) = some (iN w) := by
        show (match (e.set 15 (some (iN i)))[11]? with | some (some m) => some m | _ => none) = _
        rw [e11]
      have r15 : rd (e.set 15 (some (iN i))) (.slot 15) = some (iN i) := by
        show (match (e.set 15 (some (iN i)))[15]? with | some (some m) => some m | _ => none) = _
        rw [e15]
      have hit : uItem (uVar 7) (uVar 15) (e.set 15 (some (iN i))) = some (.tmp (.p (pD L[i])), e.set 15 (some (iN i))) := by
        unfold uItem
        rw [v7, Option.bind_some, v15, Option.bind_some, r7, Option.bind_some, r15, Option.bind_some]
        show ((itemM (.l (L.map fun p => .p (pD p))) (i : Int)).bind _) = _
        rw [it]
        rfl
      unfold uTruB uIn
      rw [v11, Option.bind_some, hit, Option.bind_some, r11, Option.bind_some, show rd (e.set 15 (some (iN i))) (.tmp (.p (pD L[i]))) = some (.p (pD L[i])) from rfl, Option.bind_some, hin, hg]
      rfl
    · show takeS _ 15 = _
      unfold takeS
      rw [e15]
      show some (M.p _, (e.set 15 (some (iN i))).set 15 (some (iN i))) = _
      rw [s15]
  exact this
theorem nI_inj {a b : Nat} (h : nI a = nI b) : a = b := by
  have : (a : Int) = b := PyData.int.inj h
  omega
theorem pre_nI {U : List Nat} : ∀ ds : List PyData, (∀ x, x ∈ ds → x ∈ U.map nI) → ∃ V : List Nat, ds = V.map nI
  | [], _ => ⟨[], rfl⟩
  | d :: ds, h => by
    obtain ⟨V, hV⟩ := pre_nI ds fun x hx => h x (List.mem_cons_of_mem _ hx)
    obtain ⟨i, hi, rfl⟩ := List.mem_map.mp (h d (List.mem_cons_self ..))
    exact ⟨i :: V, by rw [hV]; rfl⟩
theorem perm_map_inj {α β : Type} [DecidableEq α] {f : α → β} (hf : ∀ a b, f a = f b → a = b) : ∀ {xs ys : List α}, (xs.map f).Perm (ys.map f) → xs.Perm ys
  | [], ys, h => by
    have := h.length_eq
    simp at this
    rw [List.eq_nil_of_length_eq_zero this.symm]
  | x :: xs, ys, h => by
    have hx : f x ∈ ys.map f := h.mem_iff.mp (by simp)
    obtain ⟨y, hy, e⟩ := List.mem_map.mp hx
    have e := hf _ _ e
    subst e
    have p := List.perm_cons_erase hy
    have h2 : (f y :: xs.map f).Perm (f y :: (ys.erase y).map f) := h.trans (p.map f)
    exact ((perm_map_inj hf h2.cons_inv).cons y).trans p.symm
theorem strewn_nat (a b c : Int) (U : List Nat) (hl : U.length ≤ 1000) : ∃ (a' b' c' : Int) (V : List Nat), D_law_strewn [bx a b c, .l (U.map iN)] = some (.l (V.map iN), [some (bx a' b' c'), some (.l (U.map iN))]) ∧ V.Perm U := by
  obtain ⟨a', b', c', ds, h, m⟩ := strewn_ok a b c (U.map nI) (by rw [List.length_map]; exact hl)
  obtain ⟨V, rfl⟩ := pre_nI ds fun x hx => m.mem_iff.mp hx
  rw [List.map_map, List.map_map] at h
  exact ⟨a', b', c', V, h, perm_map_inj (fun a b => nI_inj) m⟩
theorem own_choice (a b c way : Int) (w : Nat) (U : List Nat) (hl : U.length ≤ 1000) (o1 o2 o3 o4 o5 o6 o7 o8 o10 o13 o14 o15 : Option M) : ∃ (a' b' c' : Int) (V : List Nat) (m : M),
    sAsg (.sl 12) (uIf (uAnd (uTruB (uBin (lift2 dEq) (uVar 9) (uC (.int 1)))) (uTruB (uBin (lift2 dEq) (uBin fMod (uVar 11) (uC (.int 2))) (uC (.int 1))))) (uRev (uVar 12)) (uIf (uTruB (uBin fGt (uVar 9) (uC (.int 1)))) (uCall D_law_strewn (uaCons (uVar 0) (uaCons (uVar 12) uaNil))) (uVar 12)))
      [some (bx a b c), o1, o2, o3, o4, o5, o6, o7, o8, some (.p (.int way)), o10, some (iN w), some (.l (U.map iN)), o13, o14, o15]
      = some (.nx [some (bx a' b' c'), o1, o2, o3, o4, o5, o6, o7, o8, some (.p (.int way)), o10, some (iN w), some m, o13, o14, o15]) ∧ tupM m = some (V.map nI) ∧ V.Perm U := by
  have hall : allP (U.map iN) = some (U.map nI) := by
    have := allP_map (U.map nI)
    rw [List.map_map] at this
    exact this
  have hfrz : frzL (U.map iN) = some (U.map nI) := by
    have := frzL_map (U.map nI)
    rw [List.map_map] at this
    exact this
  by_cases h1 : way = 1
  · subst h1
    by_cases h2 : (w : Int) % 2 = 1
    · refine ⟨a, b, c, U.reverse, .l (U.reverse.map iN), ?_, ?_, List.reverse_perm U⟩
      · simp [sAsg, uIf, uAnd, uTruB, uBin, uVar, uC, rd, lift2, frz, dEq_int, iIc, cMod, h2, uRev, revM, lsM, hall, G.take, asg]
      · have := allP_map (U.reverse.map nI)
        rw [List.map_map] at this
        exact this
    · refine ⟨a, b, c, U, .p (.list (U.map nI)), ?_, rfl, List.Perm.refl _⟩
      simp [sAsg, uIf, uAnd, uTruB, uBin, uVar, uC, rd, lift2, frz, dEq_int, iIc, iB, cMod, h2, G.take, takeS, hfrz, asg]
  · by_cases h3 : 1 < way
    · obtain ⟨a', b', c', V, hs, m⟩ := strewn_nat a b c U hl
      refine ⟨a', b', c', V, .l (V.map iN), ?_, ?_, m⟩
      · simp [sAsg, uIf, uAnd, uTruB, uBin, uVar, uC, rd, lift2, frz, dEq_int, iIc, iB, cMod, h1, h3, uCall, uaCons, uaNil, passL, passOp, hs, stM_eq, backL, G.take, asg]
      · have := allP_map (V.map nI)
        rw [List.map_map] at this
        exact this
    · refine ⟨a, b, c, U, .p (.list (U.map nI)), ?_, rfl, List.Perm.refl _⟩
      simp [sAsg, uIf, uAnd, uTruB, uBin, uVar, uC, rd, lift2, frz, dEq_int, iIc, iB, cMod, h1, h3, G.take, takeS, hfrz, asg]
abbrev rD (r : List Nat) : PyData := .tuple (r.map nI)
abbrev isOwn (L : List (Nat × Nat)) (w : Nat) : Nat → Bool := fun i => decide ((L.getD i (0, 0)).1 = w ∨ (L.getD i (0, 0)).2 = w)
theorem per_body (a b c way : Int) (w : Nat) (L : List (Nat × Nat)) (T : List Nat) (R : List (List Nat)) (hT : ∀ i, i ∈ T → i < L.length) (hTl : T.length ≤ 40) (hR : R.length ≤ 900) (m8 : M) (hm8 : m8 = .l (T.map iN) ∨ m8 = .p (.list (T.map nI))) (o1 o2 o3 o4 o5 o6 o12 : Option M) :
    ∃ (a' b' c' : Int) (V : List Nat) (o12' : Option M), m_law_field_b1 [some (bx a b c), o1, o2, o3, o4, o5, o6, some (.l (L.map fun p => .p (pD p))), some m8, some (.p (.int way)), some (.l (R.map fun r => .p (rD r))), some (iN w), o12, none, none, none]
      = some (.nx [some (bx a' b' c'), o1, o2, o3, o4, o5, o6, some (.l (L.map fun p => .p (pD p))), some (.p (.list (T.map nI))), some (.p (.int way)), some (.l ((R ++ [V]).map fun r => .p (rD r))), some (iN w), o12', none, none, none]) ∧ V.Perm (T.filter (isOwn L w)) := by
  have i1 : uiSeq (uVar 8) [some (bx a b c), o1, o2, o3, o4, o5, o6, some (.l (L.map fun p => .p (pD p))), some m8, some (.p (.int way)), some (.l (R.map fun r => .p (rD r))), some (iN w), o12, none, none, none]
      = some (T.map nI, [some (bx a b c), o1, o2, o3, o4, o5, o6, some (.l (L.map fun p => .p (pD p))), some (.p (.list (T.map nI))), some (.p (.int way)), some (.l (R.map fun r => .p (rD r))), some (iN w), o12, none, none, none]) := by
    have hfrz : frzL (T.map iN) = some (T.map nI) := by
      have := frzL_map (T.map nI)
      rw [List.map_map] at this
      exact this
    rcases hm8 with rfl | rfl
    · simp [uiSeq, uVar, G.take, takeS, frz, hfrz, seqD]
    · simp [uiSeq, uVar, G.take, takeS, frz, seqD]
  have hU := own_filter L w [some (bx a b c), o1, o2, o3, o4, o5, o6, some (.l (L.map fun p => .p (pD p))), some (.p (.list (T.map nI))), some (.p (.int way)), some (.l (R.map fun r => .p (rD r))), some (iN w), o12, none, none, none] rfl rfl rfl (by simp) T hT
  have hUn : (T.filter (isOwn L w)).length ≤ T.length := List.length_filter_le ..
  generalize hUe : T.filter (isOwn L w) = U at hU hUn ⊢
  have s1 : sAsg (.sl 12) (uLc (uiSeq (uVar 8)) (.sl 15) (uTruB (uIn false (uVar 11) (uItem (uVar 7) (uVar 15)))) (uVar 15) [15]) [some (bx a b c), o1, o2, o3, o4, o5, o6, some (.l (L.map fun p => .p (pD p))), some m8, some (.p (.int way)), some (.l (R.map fun r => .p (rD r))), some (iN w), o12, none, none, none]
      = some (.nx [some (bx a b c), o1, o2, o3, o4, o5, o6, some (.l (L.map fun p => .p (pD p))), some (.p (.list (T.map nI))), some (.p (.int way)), some (.l (R.map fun r => .p (rD r))), some (iN w), some (.l (U.map iN)), none, none, none]) := by
    have hl : T.length ≤ sizeLine := len_le_line (by omega)
    have hlc : uLc (uiSeq (uVar 8)) (.sl 15) (uTruB (uIn false (uVar 11) (uItem (uVar 7) (uVar 15)))) (uVar 15) [15] [some (bx a b c), o1, o2, o3, o4, o5, o6, some (.l (L.map fun p => .p (pD p))), some m8, some (.p (.int way)), some (.l (R.map fun r => .p (rD r))), some (iN w), o12, none, none, none]
        = some (.tmp (.l (U.map iN)), [some (bx a b c), o1, o2, o3, o4, o5, o6, some (.l (L.map fun p => .p (pD p))), some (.p (.list (T.map nI))), some (.p (.int way)), some (.l (R.map fun r => .p (rD r))), some (iN w), o12, none, none, none]) := by
      unfold uLc
      rw [i1, Option.bind_some]
      generalize uTruB (uIn false (uVar 11) (uItem (uVar 7) (uVar 15))) = t at hU ⊢
      have cnd : (decide ((T.map nI).length ≤ sizeLine) && plainAt [some (bx a b c), o1, o2, o3, o4, o5, o6, some (.l (L.map fun p => .p (pD p))), some (.p (.list (T.map nI))), some (.p (.int way)), some (.l (R.map fun r => .p (rD r))), some (iN w), o12, none, none, none] [15]) = true := by
        rw [List.length_map, decide_eq_true hl]
        rfl
      rw [if_pos cnd]
      show ((lcL (.sl 15) t (uVar 15) [15] (T.map nI) [some (bx a b c), o1, o2, o3, o4, o5, o6, some (.l (L.map fun p => .p (pD p))), some (.p (.list (T.map nI))), some (.p (.int way)), some (.l (R.map fun r => .p (rD r))), some (iN w), o12, none, none, none]).bind _) = _
      rw [hU]
      rfl
    unfold sAsg
    rw [hlc]
    rfl
  obtain ⟨a', b', c', V, m, s2, hm, hVm⟩ := own_choice a b c way w U (by omega) o1 o2 o3 o4 o5 o6 (some (.l (L.map fun p => .p (pD p)))) (some (.p (.list (T.map nI)))) (some (.l (R.map fun r => .p (rD r)))) none none none
  have hRl : R.length < sizeLine := Nat.lt_of_le_of_lt hR (by rw [sizeLine_eq]; omega)
  have s3 : sExpr (uApp 10 (uFun fTuple (uaCons (uVar 12) uaNil))) [some (bx a' b' c'), o1, o2, o3, o4, o5, o6, some (.l (L.map fun p => .p (pD p))), some (.p (.list (T.map nI))), some (.p (.int way)), some (.l (R.map fun r => .p (rD r))), some (iN w), some m, none, none, none]
      = some (.nx [some (bx a' b' c'), o1, o2, o3, o4, o5, o6, some (.l (L.map fun p => .p (pD p))), some (.p (.list (T.map nI))), some (.p (.int way)), some (.l ((R ++ [V]).map fun r => .p (rD r))), some (iN w), some m, none, none, none]) := by
    simp [sExpr, uApp, uFun, uaCons, uaNil, uVar, rd, rdL, fTuple, hm, G.take, hRl]
  refine ⟨a', b', c', V, some m, ?_, hVm⟩
  unfold m_law_field_b1
  rw [seq_go s1, seq_go s2, s3]
theorem per_loop (way : Int) (L : List (Nat × Nat)) (T : List Nat) (hT : ∀ i, i ∈ T → i < L.length) (hTl : T.length ≤ 40) (o1 o2 o3 o4 o5 o6 : Option M) : ∀ (xs : List Nat) (a b c : Int) (R : List (List Nat)) (m8 : M) (o11 o12 : Option M), R.length + xs.length ≤ 900 → (m8 = .l (T.map iN) ∨ m8 = .p (.list (T.map nI))) →
    ∃ (a' b' c' : Int) (Vs : List (List Nat)) (o8' o11' o12' : Option M), forL (.sl 11) m_law_field_b1 (xs.map nI) [some (bx a b c), o1, o2, o3, o4, o5, o6, some (.l (L.map fun p => .p (pD p))), some m8, some (.p (.int way)), some (.l (R.map fun r => .p (rD r))), o11, o12, none, none, none]
      = some (.nx [some (bx a' b' c'), o1, o2, o3, o4, o5, o6, some (.l (L.map fun p => .p (pD p))), o8', some (.p (.int way)), some (.l ((R ++ Vs).map fun r => .p (rD r))), o11', o12', none, none, none]) ∧ Vs.length = xs.length ∧ ∀ (k : Nat) (hk : k < xs.length), (Vs.getD k []).Perm (T.filter (isOwn L xs[k]))
  | [], a, b, c, R, m8, o11, o12, hl, hm => ⟨a, b, c, [], some m8, o11, o12, by rw [List.append_nil]; rfl, rfl, fun k hk => absurd hk (by simp)⟩
  | x :: xs, a, b, c, R, m8, o11, o12, hl, hm => by
    rw [List.length_cons] at hl
    obtain ⟨a1, b1, c1, V, o12', e1, hV⟩ := per_body a b c way x L T R hT hTl (by omega) m8 hm o1 o2 o3 o4 o5 o6 o12
    obtain ⟨a2, b2, c2, Vs, o8', o11', o12'', ih, hl', hR'⟩ := per_loop way L T hT hTl o1 o2 o3 o4 o5 o6 xs a1 b1 c1 (R ++ [V]) (.p (.list (T.map nI))) (some (iN x)) o12' (by rw [List.length_append, List.length_singleton]; omega) (.inr rfl)
    refine ⟨a2, b2, c2, V :: Vs, o8', o11', o12'', ?_, by rw [List.length_cons, List.length_cons, hl'], fun k hk => ?_⟩
    · rw [List.map_cons, forL]
      have ea : asg (.sl 11) (.p (nI x)) [some (bx a b c), o1, o2, o3, o4, o5, o6, some (.l (L.map fun p => .p (pD p))), some m8, some (.p (.int way)), some (.l (R.map fun r => .p (rD r))), o11, o12, none, none, none]
          = some [some (bx a b c), o1, o2, o3, o4, o5, o6, some (.l (L.map fun p => .p (pD p))), some m8, some (.p (.int way)), some (.l (R.map fun r => .p (rD r))), some (iN x), o12, none, none, none] := by
        unfold asg
        rfl
      rw [ea, Option.bind_some, e1, Option.bind_some]
      simp only [stE_eq]
      rw [List.append_assoc] at ih
      exact ih
    · cases k with
      | zero => exact hV
      | succ k => exact hR' k (by simpa using hk)
/-- some of the strewn pairs -/
theorem strewn_pairs (a b c : Int) (P : List (Nat × Nat)) (hl : P.length ≤ 1000) : ∃ (a' b' c' : Int) (Q : List (Nat × Nat)), D_law_strewn [bx a b c, .l (P.map fun p => .p (pD p))] = some (.l (Q.map fun p => .p (pD p)), [some (bx a' b' c'), some (.l (P.map fun p => .p (pD p)))]) ∧ Q.length = P.length ∧ ∀ p, p ∈ Q → p ∈ P := by
  obtain ⟨a', b', c', ds, h, m⟩ := strewn_ok a b c (P.map pD) (by rw [List.length_map]; exact hl)
  have pre : ∀ ds : List PyData, (∀ x, x ∈ ds → x ∈ P.map pD) → ∃ Q : List (Nat × Nat), ds = Q.map pD ∧ ∀ i, i ∈ Q → i ∈ P := by
    intro ds
    induction ds with
    | nil => exact fun _ => ⟨[], rfl, fun i h => (List.not_mem_nil h).elim⟩
    | cons d ds ih =>
      intro h
      obtain ⟨V, hV, hm⟩ := ih fun x hx => h x (List.mem_cons_of_mem _ hx)
      obtain ⟨i, hi, rfl⟩ := List.mem_map.mp (h d (List.mem_cons_self ..))
      exact ⟨i :: V, by rw [hV]; rfl, fun j hj => by
        rcases List.mem_cons.mp hj with rfl | hj
        · exact hi
        · exact hm j hj⟩
  obtain ⟨Q, rfl, hm⟩ := pre ds fun x hx => m.mem_iff.mp hx
  have l := m.length_eq
  rw [List.map_map, List.map_map] at h
  exact ⟨a', b', c', Q, h, by simpa using l, hm⟩
theorem f_s1 (fk : Nat) (hf : 0 < fk) (hf8 : fk ≤ 8) (a b c : Int) (o2 : Option M) : ∃ (a' b' c' : Int) (n : Nat), 0 < n ∧ n ≤ fk ∧ sPar 3 4 (uaCons (uBin fAdd (uC (.int 1)) (uCall D_law_take (uaCons (uVar 0) (uaCons (uVar 1) uaNil)))) (uaCons (uLst uaNil) uaNil))
      [some (bx a b c), some (iN fk), o2, none, none, none, none, none, none, none, none, none, none, none, none, none]
      = some (.nx [some (bx a' b' c'), some (iN fk), o2, some (iN n), some (.l []), none, none, none, none, none, none, none, none, none, none, none]) := by
  obtain ⟨r, a', b', c', r0, r1, ht⟩ := take_ok a b c fk (by omega) (by omega)
  refine ⟨a', b', c', (1 + r).toNat, by omega, by omega, ?_⟩
  have hr : (((1 + r).toNat : Nat) : Int) = 1 + r := by omega
  have e1 : fAdd (.p (.int 1)) (.p (.int r)) = some (.p (.int (1 + r))) := rfl
  simp [sPar, uBin, uC, uCall, uaCons, uaNil, uVar, passL, passOp, ht, backL, stM_eq, rd, e1, uLst, takeL, G.take, hr]
theorem f_s3 (a b c : Int) (P : List (Nat × Nat)) (hP : P.length ≤ 400) (o1 o2 o3 o5 : Option M) : ∃ (a' b' c' : Int) (Q : List (Nat × Nat)), (∀ p, p ∈ Q → p ∈ P) ∧ Q.length ≤ 400 ∧
    sAsg (.sl 6) (uSl (uCall D_law_strewn (uaCons (uVar 0) (uaCons (uVar 4) uaNil))) uNo (uPart (uBin fAdd (uC (.int 1)) (uCall D_law_take (uaCons (uVar 0) (uaCons (uBin fAdd (uFun fLen (uaCons (uVar 4) uaNil)) (uC (.int 1))) uaNil))))))
      [some (bx a b c), o1, o2, o3, some (.l (P.map fun p => .p (pD p))), o5, none, none, none, none, none, none, none, none, none, none]
      = some (.nx [some (bx a' b' c'), o1, o2, o3, some (.l (P.map fun p => .p (pD p))), o5, some (.l (Q.map fun p => .p (pD p))), none, none, none, none, none, none, none, none, none]) := by
  obtain ⟨a1, b1, c1, S, hs, hSl, hSm⟩ := strewn_pairs a b c P (by omega)
  obtain ⟨r, a2, b2, c2, r0, r1, ht⟩ := take_ok a1 b1 c1 ((P.length : Int) + 1) (by omega) (by omega)
  refine ⟨a2, b2, c2, S.take (1 + r).toNat, fun p hp => hSm p (List.mem_of_mem_take hp), by rw [List.length_take]; omega, ?_⟩
  have hr : (((1 + r).toNat : Nat) : Int) = 1 + r := by omega
  have e1 : fAdd (.p (.int 1)) (.p (.int r)) = some (.p (.int (1 + r))) := rfl
  have e2 : fAdd (.p (.int (P.length : Int))) (.p (.int 1)) = some (.p (.int ((P.length : Int) + 1))) := rfl
  have cut : cutM (.l (S.map fun p => .p (pD p))) none (some (1 + r)) = some (.l ((S.take (1 + r).toNat).map fun p => .p (pD p))) := by
    have hall : allP (S.map fun p => .p (pD p)) = some (S.map pD) := by
      have := allP_map (S.map pD)
      rw [List.map_map] at this
      exact this
    show (allP (S.map fun p => .p (pD p))).map _ = _
    rw [hall, ← hr, Option.map_some, cut_pre, ← List.map_take, List.map_map]
    simp only [Int.toNat_natCast]
    rfl
  simp [sAsg, uSl, uNo, uPart, uCall, uaCons, uaNil, uVar, passL, passOp, hs, backL, stM_eq, uBin, uC, uFun, rdL, rd, fLen, lenM, e2, ht, e1, cut, G.take, asg]
theorem f_s5u (U : U) (a b c r a1 b1 c1 a2 b2 c2 : Int) (L : List (Nat × Nat)) (T : List Nat) (o1 o2 o3 o4 o5 o6 : Option M)
    (hl : U [some (bx a b c), o1, o2, o3, o4, o5, o6, some (.l (L.map fun p => .p (pD p))), none, none, none, none, none, none, none, none] = some (.tmp (.l ((List.range L.length).map iN)), [some (bx a b c), o1, o2, o3, o4, o5, o6, some (.l (L.map fun p => .p (pD p))), none, none, none, none, none, none, none, none]))
    (hs : D_law_strewn [bx a b c, .l ((List.range L.length).map iN)] = some (.l (T.map iN), [some (bx a1 b1 c1), some (.l ((List.range L.length).map iN))]))
    (ht : D_law_take [bx a1 b1 c1, .p (.int 4)] = some (.p (.int r), [some (bx a2 b2 c2), some (.p (.int 4))])) :
    sPar3 8 9 10 (uaCons (uCall D_law_strewn (uaCons (uVar 0) (uaCons U uaNil))) (uaCons (uCall D_law_take (uaCons (uVar 0) (uaCons (uC (.int 4)) uaNil))) (uaCons (uLst uaNil) uaNil)))
      [some (bx a b c), o1, o2, o3, o4, o5, o6, some (.l (L.map fun p => .p (pD p))), none, none, none, none, none, none, none, none]
      = some (.nx [some (bx a2 b2 c2), o1, o2, o3, o4, o5, o6, some (.l (L.map fun p => .p (pD p))), some (.l (T.map iN)), some (.p (.int r)), some (.l []), none, none, none, none, none]) := by
  simp [sPar3, uCall, uaCons, uaNil, uVar, uC, hl, passL, passOp, hs, ht, backL, stM_eq, uLst, takeL, G.take]
theorem f_s5 (a b c : Int) (L : List (Nat × Nat)) (hL : L.length ≤ 40) (o1 o2 o3 o4 o5 o6 : Option M) : ∃ (a' b' c' way : Int) (T : List Nat), T.Perm (List.range L.length) ∧
    sPar3 8 9 10 (uaCons (uCall D_law_strewn (uaCons (uVar 0) (uaCons (uLR (uR1 (uFun fLen (uaCons (uVar 7) uaNil)))) uaNil))) (uaCons (uCall D_law_take (uaCons (uVar 0) (uaCons (uC (.int 4)) uaNil))) (uaCons (uLst uaNil) uaNil)))
      [some (bx a b c), o1, o2, o3, o4, o5, o6, some (.l (L.map fun p => .p (pD p))), none, none, none, none, none, none, none, none]
      = some (.nx [some (bx a' b' c'), o1, o2, o3, o4, o5, o6, some (.l (L.map fun p => .p (pD p))), some (.l (T.map iN)), some (.p (.int way)), some (.l []), none, none, none, none, none]) := by
  obtain ⟨a1, b1, c1, T, hs, hTm⟩ := strewn_nat a b c (List.range L.length) (by rw [List.length_range]; omega)
  obtain ⟨r, a2, b2, c2, r0, r1, ht⟩ := take_ok a1 b1 c1 4 (by decide) (by decide)
  refine ⟨a2, b2, c2, r, T, hTm, ?_⟩
  have hu : uR1 (uFun fLen (uaCons (uVar 7) uaNil)) [some (bx a b c), o1, o2, o3, o4, o5, o6, some (.l (L.map fun p => .p (pD p))), none, none, none, none, none, none, none, none] = some ((0, (L.length : Int)), [some (bx a b c), o1, o2, o3, o4, o5, o6, some (.l (L.map fun p => .p (pD p))), none, none, none, none, none, none, none, none]) := by
    simp [uR1, uFun, uaCons, uaNil, uVar, rd, rdL, fLen, lenM]
  have hl := lr_ok hu (rg_ok _ (by omega))
  rw [rgD_iN] at hl
  exact f_s5u _ a b c r a1 b1 c1 a2 b2 c2 L T o1 o2 o3 o4 o5 o6 hl hs ht
theorem f_s2 (n : Nat) (hn : n ≤ 8) (o0 o1 o2 : Option M) : ∃ (o5 : Option M) (Q : List (Nat × Nat)), (∀ p, p ∈ Q → p.1 < p.2 ∧ p.2 < n) ∧ Q.length ≤ 400 ∧
    sFor (uiR1 (uaCons (uVar 3) uaNil)) (.sl 5) m_law_field_b2
      [o0, o1, o2, some (iN n), some (.l []), none, none, none, none, none, none, none, none, none, none, none]
      = some (.nx [o0, o1, o2, some (iN n), some (.l (Q.map fun p => .p (pD p))), o5, none, none, none, none, none, none, none, none, none, none]) := by
  obtain ⟨o5, Q, h, hQ, hl⟩ := pairs_loop n hn (List.range n) [o0, o1, o2, some (iN n), some (.l []), none, none, none, none, none, none, none, none, none, none, none] [] (fun x hx => List.mem_range.mp hx) (by rw [List.length_range]; simp; omega) (fun p hp => (List.not_mem_nil hp).elim) rfl rfl (by simp)
  refine ⟨o5, Q, hQ, hl, ?_⟩
  have hu : uaCons (uVar 3) uaNil [o0, o1, o2, some (iN n), some (.l []), none, none, none, none, none, none, none, none, none, none, none] = some ([.slot 3], [o0, o1, o2, some (iN n), some (.l []), none, none, none, none, none, none, none, none, none, none, none]) := by
    simp [uaCons, uaNil, uVar]
  have hr : uiR1 (uaCons (uVar 3) uaNil) [o0, o1, o2, some (iN n), some (.l []), none, none, none, none, none, none, none, none, none, none, none] = some (rgD 0 (n : Int), [o0, o1, o2, some (iN n), some (.l []), none, none, none, none, none, none, none, none, none, none, none]) := by
    unfold uiR1
    rw [hu, Option.bind_some]
    show (if rgOk 0 (n : Int) = true then some (rgD 0 (n : Int), _) else none) = _
    rw [if_pos (rg_ok n (by omega))]
  unfold sFor
  rw [hr, Option.bind_some, rgD_nI]
  exact h
theorem f_s7 (L : List (Nat × Nat)) (R : List (List Nat)) (o0 o1 o2 o3 o4 o5 o6 o8 o9 o11 o12 : Option M) : ∃ e : G.Env, e.take 3 = [o0, o1, o2] ∧ sRet (uTup (uaCons (uFun fTuple (uaCons (uVar 7) uaNil)) (uaCons (uFun fTuple (uaCons (uVar 10) uaNil)) uaNil)))
      [o0, o1, o2, o3, o4, o5, o6, some (.l (L.map fun p => .p (pD p))), o8, o9, some (.l (R.map fun r => .p (rD r))), o11, o12, none, none, none] = some (.rt (.p (wD true L R)) e) := by
  have h1 : fTuple [.l (L.map fun p => .p (pD p))] = some (.p (.tuple (L.map pD))) := by
    have := allP_map (L.map pD)
    rw [List.map_map] at this
    show (allP (L.map fun p => .p (pD p))).map _ = _
    rw [show allP (L.map fun p => .p (pD p)) = some (L.map pD) from this]
    rfl
  have h2 : fTuple [.l (R.map fun r => .p (rD r))] = some (.p (.tuple (R.map rD))) := by
    have := allP_map (R.map rD)
    rw [List.map_map] at this
    show (allP (R.map fun r => .p (rD r))).map _ = _
    rw [show allP (R.map fun r => .p (rD r)) = some (R.map rD) from this]
    rfl
  refine ⟨[o0, o1, o2, o3, o4, o5, o6, some (.l (L.map fun p => .p (pD p))), o8, o9, some (.l (R.map fun r => .p (rD r))), o11, o12, none, none, none], rfl, ?_⟩
  have hw : M.p (wD true L R) = .p (.tuple [.tuple (L.map pD), .tuple (R.map rD)]) := rfl
  rw [hw]
  simp [sRet, uTup, uFun, uaCons, uaNil, uVar, rdL, rd, h1, h2, takeL, G.take, mkT, allP, mv]
theorem ne_pairs (n : Nat) (hn : n ≤ 8) (Q : List (Nat × Nat)) (hQ : ∀ p, p ∈ Q → p.1 < p.2 ∧ p.2 < n) (hl : Q.length ≤ 400) : dNe (.list (Q.map pD)) (.list []) = some (.bool (!Q.isEmpty)) := by
  have hs : Sm 2 (400 * (2 * (40 + 1) + 1)) (.list (Q.map pD)) := by
    refine Sm.lst (fun x hx => ?_) (by rw [List.length_map]; exact hl)
    obtain ⟨p, hp, rfl⟩ := List.mem_map.mp hx
    have := hQ p hp
    refine Sm.tup (fun y hy => ?_) (by simp)
    rcases List.mem_cons.mp hy with rfl | hy
    · exact Sm.int (by show ((p.1 : Nat) : Int).natAbs < _; rw [Int.natAbs_natCast]; omega)
    · rw [List.mem_singleton.mp hy]
      exact Sm.int (by show ((p.2 : Nat) : Int).natAbs < _; rw [Int.natAbs_natCast]; omega)
  have h1 : okD (.list (Q.map pD)) = true := hs.ok
  have h2 : okD (.list []) = true := by decide +kernel
  unfold dNe
  rw [h1, h2]
  cases Q with
  | nil => simp [PyData.eqv, PyData.eqvAll]
  | cons p ps => simp [PyData.eqv, PyData.eqvAll]
theorem f_s4a (mo : Nat) (hmo : mo ≤ 40) (n : Nat) (hn : n ≤ 8) (a b c : Int) (Q : List (Nat × Nat)) (hQ : ∀ p, p ∈ Q → p.1 < p.2 ∧ p.2 < n) (hl : Q.length ≤ 400) (o1 o3 o4 o5 : Option M) : ∃ (a' b' c' : Int) (m : Nat), m ≤ mo ∧ (Q = [] → m = 0) ∧
    uaCons (uBin fMul (uCall D_law_take (uaCons (uVar 0) (uaCons (uBin fAdd (uVar 2) (uC (.int 1))) uaNil))) (uFun fInt (uaCons (uBin (lift2 dNe) (uVar 6) (uLst uaNil)) uaNil))) uaNil
      [some (bx a b c), o1, some (iN mo), o3, o4, o5, some (.l (Q.map fun p => .p (pD p))), none, none, none, none, none, none, none, none, none]
      = some ([.tmp (.p (.int (m : Nat)))], [some (bx a' b' c'), o1, some (iN mo), o3, o4, o5, some (.l (Q.map fun p => .p (pD p))), none, none, none, none, none, none, none, none, none]) := by
  obtain ⟨r, a', b', c', r0, r1, ht⟩ := take_ok a b c ((mo : Int) + 1) (by omega) (by omega)
  have hne := ne_pairs n hn Q hQ hl
  have hf : frzL (Q.map fun p => .p (pD p)) = some (Q.map pD) := by
    have := frzL_map (Q.map pD)
    rw [List.map_map] at this
    exact this
  have e1 : fAdd (iN mo) (.p (.int 1)) = some (.p (.int ((mo : Int) + 1))) := rfl
  cases Q with
  | nil =>
    refine ⟨a', b', c', 0, by omega, fun _ => rfl, ?_⟩
    have e2 : fMul (.p (.int r)) (.p (.int 0)) = some (.p (.int 0)) := by simp [fMul, fMulI, lift2, frz, iIc, cMul, P64]
    simp at hne
    simp [uaCons, uaNil, uBin, uCall, uVar, uC, rd, e1, passL, passOp, ht, backL, stM_eq, uFun, rdL, uLst, takeL, lift2, frz, frzL, hne, fInt, e2]
  | cons p ps =>
    refine ⟨a', b', c', r.toNat, by omega, (fun z => by cases z), ?_⟩
    have hr : ((r.toNat : Nat) : Int) = r := by omega
    have e2 : fMul (.p (.int r)) (.p (.int 1)) = some (.p (.int r)) := by simp [fMul, fMulI, lift2, frz, iIc, cMul, P64]
    have hf' : frzL (ps.map fun p => .p (pD p)) = some (ps.map pD) := by
      have := frzL_map (ps.map pD)
      rw [List.map_map] at this
      exact this
    simp at hne
    simp [uaCons, uaNil, uBin, uCall, uVar, uC, rd, e1, passL, passOp, ht, backL, stM_eq, uFun, rdL, uLst, takeL, lift2, frz, frzL, hf', hne, fInt, e2, hr]
theorem f_s4 (mo : Nat) (hmo : mo ≤ 40) (n : Nat) (hn : n ≤ 8) (a b c : Int) (Q : List (Nat × Nat)) (hQ : ∀ p, p ∈ Q → p.1 < p.2 ∧ p.2 < n) (hl : Q.length ≤ 400) (o1 o3 o4 o5 : Option M) : ∃ (a' b' c' : Int) (L : List (Nat × Nat)), (∀ p, p ∈ L → p ∈ Q) ∧ L.length ≤ mo ∧
    sAsg (.sl 7) (uLc (uiR1 (uaCons (uBin fMul (uCall D_law_take (uaCons (uVar 0) (uaCons (uBin fAdd (uVar 2) (uC (.int 1))) uaNil))) (uFun fInt (uaCons (uBin (lift2 dNe) (uVar 6) (uLst uaNil)) uaNil))) uaNil)) (.sl 14) uYes (uCall D_law_of (uaCons (uVar 0) (uaCons (uVar 6) uaNil))) [14])
      [some (bx a b c), o1, some (iN mo), o3, o4, o5, some (.l (Q.map fun p => .p (pD p))), none, none, none, none, none, none, none, none, none]
      = some (.nx [some (bx a' b' c'), o1, some (iN mo), o3, o4, o5, some (.l (Q.map fun p => .p (pD p))), some (.l (L.map fun p => .p (pD p))), none, none, none, none, none, none, none, none]) := by
  obtain ⟨a1, b1, c1, m, hm, hm0, hu⟩ := f_s4a mo hmo n hn a b c Q hQ hl o1 o3 o4 o5
  have hr := r1_ok hu (rg_ok m (by omega))
  rw [rgD_nI] at hr
  have hc : (decide (((List.range m).map nI).length ≤ sizeLine) && plainAt [some (bx a1 b1 c1), o1, some (iN mo), o3, o4, o5, some (.l (Q.map fun p => .p (pD p))), none, none, none, none, none, none, none, none, none] [14]) = true := by
    rw [List.length_map, List.length_range, decide_eq_true (len_le_line (by omega : m ≤ 1000))]
    rfl
  by_cases hq : Q = []
  · have : m = 0 := hm0 hq
    subst this
    refine ⟨a1, b1, c1, [], fun p hp => (List.not_mem_nil hp).elim, by simp, ?_⟩
    exact asg_at (lc_at hr hc rfl (e2 := [some (bx a1 b1 c1), o1, some (iN mo), o3, o4, o5, some (.l (Q.map fun p => .p (pD p))), none, none, none, none, none, none, none, none, none]) (ms := []) rfl) (by simp [restE])
  · obtain ⟨a2, b2, c2, R, hR, hRm, hRl⟩ := lots_loop Q hq (by omega) ((List.range m).map nI) a1 b1 c1 [some (bx a1 b1 c1), o1, some (iN mo), o3, o4, o5, some (.l (Q.map fun p => .p (pD p))), none, none, none, none, none, none, none, none, none] rfl rfl rfl (by simp)
    refine ⟨a2, b2, c2, R, hRm, by rw [hRl, List.length_map, List.length_range]; exact hm, ?_⟩
    exact asg_at (lc_at hr hc rfl hR) (by simp [restE])
theorem f_s6 (way : Int) (n : Nat) (hn : n ≤ 8) (a b c : Int) (L : List (Nat × Nat)) (T : List Nat) (hT : T.Perm (List.range L.length)) (hL : L.length ≤ 40) (o1 o2 o4 o5 o6 : Option M) :
    ∃ (a' b' c' : Int) (R : List (List Nat)) (o8 o11 o12 : Option M), sFor (uiR1 (uaCons (uVar 3) uaNil)) (.sl 11) m_law_field_b1 [some (bx a b c), o1, o2, some (iN n), o4, o5, o6, some (.l (L.map fun p => .p (pD p))), some (.l (T.map iN)), some (.p (.int way)), some (.l []), none, none, none, none, none]
      = some (.nx [some (bx a' b' c'), o1, o2, some (iN n), o4, o5, o6, some (.l (L.map fun p => .p (pD p))), o8, some (.p (.int way)), some (.l (R.map fun r => .p (rD r))), o11, o12, none, none, none]) ∧ R.length = n ∧ ∀ w, w < n → (R.getD w []).Perm (own L w) := by
  have hTl : T.length ≤ 40 := by rw [hT.length_eq, List.length_range]; exact hL
  obtain ⟨a', b', c', R, o8, o11, o12, h, hl, hR⟩ := per_loop way L T (fun i hi => List.mem_range.mp (hT.mem_iff.mp hi)) hTl o1 o2 (some (iN n)) o4 o5 o6 (List.range n) a b c [] (.l (T.map iN)) none none (by rw [List.length_range]; simp; omega) (.inl rfl)
  rw [List.nil_append] at h
  rw [List.length_range] at hl
  refine ⟨a', b', c', R, o8, o11, o12, ?_, hl, fun w hw => ?_⟩
  · have hu : uaCons (uVar 3) uaNil [some (bx a b c), o1, o2, some (iN n), o4, o5, o6, some (.l (L.map fun p => .p (pD p))), some (.l (T.map iN)), some (.p (.int way)), some (.l []), none, none, none, none, none] = some ([.slot 3], [some (bx a b c), o1, o2, some (iN n), o4, o5, o6, some (.l (L.map fun p => .p (pD p))), some (.l (T.map iN)), some (.p (.int way)), some (.l []), none, none, none, none, none]) := by
      simp [uaCons, uaNil, uVar]
    unfold sFor uiR1
    rw [hu, Option.bind_some]
    show ((if rgOk 0 (n : Int) = true then some (rgD 0 (n : Int), _) else none).bind _) = _
    rw [if_pos (rg_ok n (by omega)), Option.bind_some, rgD_nI]
    exact h
  · have := hR w (by rw [List.length_range]; exact hw)
    rw [List.getElem_range] at this
    exact this.trans (hT.filter _)
/-- the drawn world -/
theorem field_ok (fk mo : Nat) (hf : 0 < fk) (hf8 : fk ≤ 8) (hmo : mo ≤ 40) (a b c : Int) : ∃ (a' b' c' : Int) (n : Nat) (L : List (Nat × Nat)) (R : List (List Nat)), Ok n L R ∧ n ≤ fk ∧ L.length ≤ mo ∧
    D_law_field [bx a b c, iN fk, iN mo] = some (.p (wD true L R), [some (bx a' b' c'), some (iN fk), some (iN mo)]) := by
  obtain ⟨a1, b1, c1, n, n0, n6, s1⟩ := f_s1 fk hf hf8 a b c (some (iN mo))
  obtain ⟨o5, P, hP, hPl, s2⟩ := f_s2 n (by omega) (some (bx a1 b1 c1)) (some (iN fk)) (some (iN mo))
  obtain ⟨a3, b3, c3, Q, hQ, hQl, s3⟩ := f_s3 a1 b1 c1 P hPl (some (iN fk)) (some (iN mo)) (some (iN n)) o5
  obtain ⟨a4, b4, c4, L, hL, hLl, s4⟩ := f_s4 mo hmo n (by omega) a3 b3 c3 Q (fun p hp => hP p (hQ p hp)) hQl (some (iN fk)) (some (iN n)) (some (.l (P.map fun p => .p (pD p)))) o5
  obtain ⟨a5, b5, c5, way, T, hT, s5⟩ := f_s5 a4 b4 c4 L (by omega) (some (iN fk)) (some (iN mo)) (some (iN n)) (some (.l (P.map fun p => .p (pD p)))) o5 (some (.l (Q.map fun p => .p (pD p))))
  obtain ⟨a6, b6, c6, R, o8, o11, o12, s6, hRl, hR⟩ := f_s6 way n (by omega) a5 b5 c5 L T hT (by omega) (some (iN fk)) (some (iN mo)) (some (.l (P.map fun p => .p (pD p)))) o5 (some (.l (Q.map fun p => .p (pD p))))
  obtain ⟨e, he, s7⟩ := f_s7 L R (some (bx a6 b6 c6)) (some (iN fk)) (some (iN mo)) (some (iN n)) (some (.l (P.map fun p => .p (pD p)))) o5 (some (.l (Q.map fun p => .p (pD p)))) o8 (some (.p (.int way))) o11 o12
  refine ⟨a6, b6, c6, n, L, R, ⟨hRl, n0, by omega, by omega, fun p hp => hP p (hQ p (hL p hp)), hR⟩, n6, hLl, ?_⟩
  have hm : m_law_field [some (bx a b c), some (iN fk), some (iN mo), none, none, none, none, none, none, none, none, none, none, none, none, none] = some (.rt (.p (wD true L R)) e) := by
    unfold m_law_field
    rw [seq_go s1, seq_go s2, seq_go s3, seq_go s4, seq_go s5, seq_go s6, s7]
  have := fn_go (n := 16) (k := 3) (np := 3) (f := m_law_field) (ms := [bx a b c, iN fk, iN mo]) (Eq.refl 3) hm
  refine Eq.trans this ?_
  unfold outsOf
  rw [he]
  rfl
end Hc

namespace Hc
open PySem PySem.Spec PyProof.Rows L2 G
def ip (i : Int) : M := .p (.int i)
theorem ip_at {cs : List Int} {i : Int} (h0 : 0 ≤ i) (h : i < cs.length) : ∃ v, ixN (cs.map ip).length i = some i.toNat ∧ atI (cs.map ip) i = some (ip v) := by
  have hn : i.toNat < cs.length := by omega
  have e : ixN (cs.map ip).length i = some i.toNat := by
    unfold ixN
    rw [if_pos h0, List.length_map, if_pos h]
  refine ⟨cs[i.toNat], e, ?_⟩
  unfold atI
  rw [e]
  simp [hn]
theorem ip_allP (cs : List Int) : allP (cs.map ip) = some (cs.map .int) := by
  have := allP_map (cs.map PyData.int)
  rw [List.map_map] at this
  exact this
theorem cells_body (u k : Nat) (hu : u < 1000000) (hk0 : 0 < u) (hk : k < 1000) (x : Int) (cs : List Int) (hc : cs.length = u) (o0 o3 o4 : Option M) :
    ∃ cs' : List Int, cs'.length = u ∧ m_law_cells_b1
      [o0, some (ip u), some (.l (cs.map ip)), some (ip k), some (ip x)] = some (.nx [o0, some (ip u), some (.l (cs'.map ip)), some (ip k), some (ip x)]) := by
  have hm : 0 ≤ (k : Int) % (u : Int) ∧ (k : Int) % (u : Int) < u := ⟨Int.emod_nonneg _ (by omega), Int.emod_lt_of_pos _ (by omega)⟩
  obtain ⟨v, e1, e2⟩ := ip_at (cs := cs) hm.1 (by omega)
  refine ⟨cs.set ((k : Int) % (u : Int)).toNat (v + x * (k + 2)), by rw [List.length_set, hc], ?_⟩
  have hcm : cMod k u = true := by unfold cMod; exact decide_eq_true (by omega)
  have hmul : cMul x (k + 2) = true := by
    have a : -P64 < (k : Int) + 2 := by show -18446744073709551616 < (k : Int) + 2; omega
    have b : (k : Int) + 2 < P64 := by show (k : Int) + 2 < 18446744073709551616; omega
    simp [cMul, a, b]
  simp only [ip] at e1 e2 ⊢
  simp [m_law_cells_b1, sSet, sSetL, uBin, uItem, uVar, uC, rd, isD, itemI, itemM, giveM, lift2, frz, iIc, iI, fAdd, fMul, fMulI, hcm, hmul, e2, G.take, ip]
  have e1' := e1
  rw [List.length_map] at e1'
  simp [e1', List.map_set]
theorem cells_loop (u : Nat) (hu : u < 1000000) (hk0 : 0 < u) (o0 : Option M) : ∀ (xs : List Int) (k : Nat) (cs : List Int) (o3 o4 : Option M), k + xs.length < 1000 → cs.length = u →
    ∃ (cs' : List Int) (o3' o4' : Option M), cs'.length = u ∧ forL (.tp [(.sl 3), (.sl 4)]) m_law_cells_b1
      (enumD k (xs.map .int)) [o0, some (ip u), some (.l (cs.map ip)), o3, o4] = some (.nx [o0, some (ip u), some (.l (cs'.map ip)), o3', o4'])
  | [], k, cs, o3, o4, h, hc => ⟨cs, o3, o4, hc, rfl⟩
  | x :: xs, k, cs, o3, o4, h, hc => by
    rw [List.length_cons] at h
    obtain ⟨cs1, h1, e1⟩ := cells_body u k hu hk0 (by omega) x cs hc o0 o3 o4
    obtain ⟨cs2, o3', o4', h2, e2⟩ := cells_loop u hu hk0 o0 xs (k + 1) cs1 (some (ip k)) (some (ip x)) (by omega) h1
    refine ⟨cs2, o3', o4', h2, ?_⟩
    rw [List.map_cons, enumD, forL]
    have ea : asg (.tp [(.sl 3), (.sl 4)]) (.p (.tuple [.int (k : Nat), .int x])) [o0, some (ip u), some (.l (cs.map ip)), o3, o4] = some [o0, some (ip u), some (.l (cs.map ip)), some (ip k), some (ip x)] := by
      simp [asg, asgL, tupE, ip]
    rw [ea, Option.bind_some, e1, Option.bind_some]
    simp only [stE_eq]
    exact e2
theorem cut_mid {α : Type} (xs : List α) (u n : Nat) (h : xs.length ≤ n) (hu : u ≤ n) : cutL xs (some (u : Int)) (some (n : Int)) = xs.drop u := by
  unfold cutL
  rw [HT.sIx_nat, HT.sIx_nat, Nat.min_eq_right h]
  by_cases h : u ≤ xs.length
  · rw [Nat.min_eq_left h, List.take_of_length_le (by rw [List.length_drop]; omega)]
  · rw [Nat.min_eq_right (by omega), List.drop_of_length_le (by omega), List.drop_of_length_le (by omega), List.take_nil]
theorem cells_ok (u : Nat) (hu : u = 2 ∨ u = 3) (ns : List Int) (hn : ns.length ≤ 63) : ∃ cs : List Int, 0 < cs.length ∧ cs.length ≤ 3 ∧ ∃ o, D_law_cells [.p (.list (ns.map .int)), ip u] = some (.l (cs.map ip), o) := by
  cases ns with
  | nil =>
    rcases hu with rfl | rfl
    · exact ⟨[0], by decide, by decide, _, isR_ok (m := .l [ip 0]) (outs := [.p (.list []), ip 2]) (by decide +kernel)⟩
    · exact ⟨[0], by decide, by decide, _, isR_ok (m := .l [ip 0]) (outs := [.p (.list []), ip 3]) (by decide +kernel)⟩
  | cons x xs =>
    have p1 : cutL ((x :: xs).map PyData.int) none (some (u : Int)) = ((x :: xs).take u).map PyData.int := by
      rw [cut_pre, List.map_take]
    have p2 : cutL ((x :: xs).map PyData.int) (some (u : Int)) (some 63) = ((x :: xs).drop u).map PyData.int := by
      rw [show (63 : Int) = ((63 : Nat) : Int) from rfl, cut_mid _ _ _ (by rw [List.length_map]; exact hn) (by omega), List.map_drop]
    have hal : allP ((((x :: xs).take u).map PyData.int).map M.p) = some (((x :: xs).take u).map PyData.int) := allP_map _
    have hal2 : frzL ((((x :: xs).drop u).map PyData.int).map M.p) = some (((x :: xs).drop u).map PyData.int) := frzL_map _
    have hcs : (((x :: xs).take u).map PyData.int).map M.p = ((x :: xs).take u).map ip := by rw [List.map_map]; rfl
    generalize he : (x :: xs).map PyData.int = ds at p1 p2
    have first : sAsg (.sl 2) (uOrV (uFun fList (uaCons (uSl (uVar 0) uNo (uPart (uVar 1))) uaNil)) (uLst (uaCons (uC (.int 0)) uaNil))) [some (.p (.list ds)), some (ip u), none, none, none]
        = some (.nx [some (.p (.list ds)), some (ip u), some (.l (((x :: xs).take u).map ip)), none, none]) := by
      have tr : truM (.l ((((x :: xs).take u).map PyData.int).map M.p)) = some true := by
        obtain ⟨v, hv⟩ : ∃ v, u = v + 1 := ⟨u - 1, by omega⟩
        subst hv
        rfl
      simp only [sAsg, uOrV, uFun, uaCons, uaNil, uSl, uVar, uNo, uPart, rd, ip, List.getElem?_cons_zero, List.getElem?_cons_succ, Option.bind_some, cutM, p1, rdL, fList, els, hal, Option.map_some, tr, if_true, G.take, asg, List.length_cons, List.length_nil]
      rw [hcs]
      rfl
    have iter : uiOf gEnumL (uaCons (uSl (uVar 0) (uPart (uVar 1)) (uPart (uC (.int 63)))) uaNil) [some (.p (.list ds)), some (ip u), some (.l (((x :: xs).take u).map ip)), none, none]
        = some (enumD 0 (((x :: xs).drop u).map PyData.int), [some (.p (.list ds)), some (ip u), some (.l (((x :: xs).take u).map ip)), none, none]) := by
      simp only [uiOf, uaCons, uaNil, uSl, uVar, uPart, uC, rd, ip, List.getElem?_cons_zero, List.getElem?_cons_succ, Option.bind_some, cutM, p2, takeL, G.take, frzL, G.frz, hal2, Option.map_some, gEnumL]
    have fin : ∃ cs : List Int, 0 < cs.length ∧ cs.length ≤ 3 ∧ ∃ o3 o4, forL (.tp [(.sl 3), (.sl 4)]) m_law_cells_b1
        (enumD 0 (((x :: xs).drop u).map PyData.int)) [some (.p (.list ds)), some (ip u), some (.l (((x :: xs).take u).map ip)), none, none] = some (.nx [some (.p (.list ds)), some (ip u), some (.l (cs.map ip)), o3, o4]) := by
      by_cases h : (x :: xs).length ≤ u
      · refine ⟨(x :: xs).take u, by simp; omega, by simp; omega, none, none, ?_⟩
        rw [List.drop_of_length_le h]
        rfl
      · obtain ⟨cs, o3, o4, h1, h2⟩ := cells_loop u (by omega) (by omega) (some (.p (.list ds))) ((x :: xs).drop u) 0 ((x :: xs).take u) none none (by rw [List.length_drop]; omega) (by rw [List.length_take]; omega)
        exact ⟨cs, by omega, by omega, o3, o4, h2⟩
    obtain ⟨cs, c1, c2, o3, o4, hf⟩ := fin
    refine ⟨cs, c1, c2, [some (.p (.list ds)), some (ip u)], ?_⟩
    have hm : m_law_cells [some (.p (.list ds)), some (ip u), none, none, none] = some (.rt (.l (cs.map ip)) [some (.p (.list ds)), some (ip u), none, o3, o4]) := by
      simp only [m_law_cells, sSeq, first, Option.bind_some, stE_eq, sFor, iter, hf, sRet, uVar, mv, List.getElem?_cons_zero, List.getElem?_cons_succ, List.set_cons_zero, List.set_cons_succ]
    unfold D_law_cells fnOf
    rw [if_pos (show [M.p (.list ds), ip u].length = 2 from rfl), stE_eq, show padE 5 [.p (.list ds), ip u] = [some (.p (.list ds)), some (ip u), none, none, none] from rfl, hm]
    rfl
theorem box_ok (cs : List Int) (k : Nat) (hk : k < cs.length) (hl : cs.length ≤ 3) : ∃ a b c : Int, D_law_box [.l (cs.map ip), .p (.int k)] = some (.l [ip a, ip b, ip c], [some (.l (cs.map ip)), some (.p (.int k))]) := by
  obtain ⟨v, e1, e2⟩ := ip_at (cs := cs) (i := k) (by omega) (by omega)
  obtain ⟨w, hw⟩ : ∃ w, fAbs [.p (.int v)] = some (.p (.int w)) := ⟨_, rfl⟩
  obtain ⟨b, hb, h0, h1⟩ : ∃ b : Int, fInt [.p (.bool (decide ((1000000000000000000 : Int) ≤ w)))] = some (.p (.int b)) ∧ 0 ≤ b ∧ b ≤ 1 := by
    refine ⟨_, rfl, ?_⟩
    split <;> decide
  have g1 : cMul w b = true := by
    have a : -P64 < b := by show -18446744073709551616 < b; omega
    have c : b < P64 := by show b < 18446744073709551616; omega
    simp [cMul, a, c]
  have g2 : ∀ k : Int, cMul 15485863 k = true := fun k => by simp [cMul, P64]
  refine ⟨w * b, v % 2305843009213693951 + 15485863 * k + 11, 0, ?_⟩
  simp only [ip] at e1 e2 ⊢
  simp [D_law_box, fnOf, m_law_box, padE, outsOf, stE_eq, sSeq, sAsg, uItem, uVar, rd, isD, itemI, itemM, e2, giveM, G.take, takeS, asg, sRet, uLst, uaCons, uaNil, uBin, uFun, rdL, hw, hb, g1, uC, lift2, frz, iI, iIc, iB, cPow, cMod, fMul, fMulI, fAdd, takeL, mv, g2]
theorem rgD_nat (n : Nat) : rgD 0 n = (List.range n).map fun k => PyData.int (k : Nat) := rgD_nI n
theorem fn_end {F : S} {ms : List M} {n : Nat} {d : M} {e : G.Env} (h : F (padE n ms) = some (.rt d e)) : ∃ outs, fnOf n ms.length ms.length F ms = some (d, outs) := by
  unfold fnOf
  rw [if_pos rfl, stE_eq, h]
  exact ⟨_, rfl⟩
theorem lawRg {n : Nat} (c2 : n ≤ 3) : rgOk 0 (n : Int) = true := rg_ok n (by omega)
section
variable {F : Fn} {T u : Nat}
def RightOk (F : Fn) : Prop := ∀ a b c : Int, ∃ a' b' c' : Int, F [bx a b c] = some (.p (.bool true), [some (bx a' b' c')])
theorem cells_e1 (n : Nat) (o : List (Option M)) {ds : List PyData} {cs : List Int} (hc : D_law_cells [.p (.list ds), ip u] = some (.l (cs.map ip), o)) (e : G.Env) (he : e[0]? = some (some (.p (.list ds)))) (hl : 1 < e.length) :
    sAsg (.sl 1) (uCall D_law_cells (uaCons (uVar 0) (uaCons (uC (.int u)) uaNil))) e = some (.nx (e.set 1 (some (.l (cs.map ip))))) := by
  have hu : uaCons (uVar 0) (uaCons (uC (.int u)) uaNil) e = some ([.slot 0, .tmp (ip u)], e) := by simp [uaCons, uaNil, uVar, he, uC, ip]
  have hp : passL e [.slot 0, .tmp (ip u)] = some ([.p (.list ds), ip u], [none, none], e) := by simp [passL, passOp, he]
  have hb : backL [none, none] o e = e := by
    cases o with
    | nil => rfl
    | cons o os => cases os <;> rfl
  have h := uCall_go hu hp hc
  rw [hb] at h
  exact asg_at h hl
theorem cells_u {cs : List Int} (e : G.Env) (he : e[1]? = some (some (.l (cs.map ip)))) : uaCons (uFun fLen (uaCons (uVar 1) uaNil)) uaNil e = some ([.tmp (.p (.int cs.length))], e) := by
  simp [uaCons, uaNil, uFun, uVar, he, rdL, rd, fLen, lenM]
/-- all of a box's turns -/
theorem turns_lc (hF : RightOk F) (o0 o1 o2 : Option M) : ∀ (ks : List PyData) (a b c : Int), ∃ (a' b' c' : Int), lcL (.sl 4) uYes (uCall F (uaCons (uVar 3) uaNil)) [4] ks [o0, o1, o2, some (bx a b c), none] = some (ks.map fun _ => M.p (.bool true), [o0, o1, o2, some (bx a' b' c'), none])
  | [], a, b, c => ⟨a, b, c, rfl⟩
  | k :: ks, a, b, c => by
    obtain ⟨a1, b1, c1, h1⟩ := hF a b c
    obtain ⟨a2, b2, c2, ih⟩ := turns_lc hF o0 o1 o2 ks a1 b1 c1
    refine ⟨a2, b2, c2, ?_⟩
    simp [lcL, asg, uYes, uCall, uaCons, uaNil, uVar, passL, passOp, h1, backL, stM_eq, G.take, wipeE, ih]
theorem all_true (ks : List PyData) : fAll [.l (ks.map fun _ => M.p (.bool true))] = some (.p (.bool true)) := by
  have h : ∀ ks : List PyData, allP (ks.map fun _ => M.p (.bool true)) = some (ks.map fun _ => .bool true) := fun ks => by
    have := allP_map (ks.map fun _ => PyData.bool true)
    rw [List.map_map] at this
    exact this
  have h2 : ∀ ks : List PyData, blsOf (ks.map fun _ => PyData.bool true) = some (ks.map fun _ => true) := fun ks => by
    induction ks with
    | nil => rfl
    | cons k ks ih => simp [blsOf, ih]
  simp [fAll, lsM, h, h2]
end
end Hc

namespace Hc
open PySem PySem.Spec PyProof.Rows L2 G
section
variable {F : Fn} {T u : Nat}
/-! (A) -/
def lawA_b (F : Fn) (T : Nat) : S := sSeq (sAsg (.sl 3) (uCall D_law_box (uaCons (uVar 1) (uaCons (uVar 2) uaNil)))) (sIf (uNot (uTru (uFun fAll (uaCons (uLc (uiR1 (uaCons (uC (.int T)) uaNil)) (.sl 4) uYes (uCall F (uaCons (uVar 3) uaNil)) [4]) uaNil)))) (sRet (uC (.bool false))) sPass)
def lawA (F : Fn) (u T : Nat) : S := sSeq (sAsg (.sl 1) (uCall D_law_cells (uaCons (uVar 0) (uaCons (uC (.int u)) uaNil)))) (sSeq (sFor (uiR1 (uaCons (uFun fLen (uaCons (uVar 1) uaNil)) uaNil)) (.sl 2) (lawA_b F T)) (sRet (uC (.bool true))))
theorem allT {U : U} {m : List M} {e1 e2 : G.Env} (hl : U e1 = some (.tmp (.l m), e2)) (ha : fAll [.l m] = some (.p (.bool true))) : sIf (uNot (uTru (uFun fAll (uaCons U uaNil)))) (sRet (uC (.bool false))) sPass e1 = some (.nx e2) := by
  simp [sIf, uNot, uTru, uFun, uaCons, uaNil, hl, rdL, rd, ha, truM, sPass]
theorem allR {U : U} {m : List M} {e1 e2 : G.Env} (hl : U e1 = some (.tmp (.l m), e2)) (ha : fAll [.l m] = some (.p (.bool true))) : sRet (uFun fAll (uaCons U uaNil)) e1 = some (.rt (.p (.bool true)) e2) := by
  simp [sRet, uFun, uaCons, uaNil, hl, rdL, rd, ha, mv]
theorem lawA_turn (hT : T ≤ 1000) (hF : RightOk F) (o0 o1 o2 : Option M) (a b c : Int) : ∃ e3, sIf (uNot (uTru (uFun fAll (uaCons (uLc (uiR1 (uaCons (uC (.int T)) uaNil)) (.sl 4) uYes (uCall F (uaCons (uVar 3) uaNil)) [4]) uaNil)))) (sRet (uC (.bool false))) sPass [o0, o1, o2, some (bx a b c), none] = some (.nx [o0, o1, o2, e3, none]) := by
  obtain ⟨a', b', c', h⟩ := turns_lc hF o0 o1 o2 (rgD 0 T) a b c
  have hr := r1_ok (j := (T : Int)) (e := [o0, o1, o2, some (bx a b c), none]) (ua := uaCons (uC (.int T)) uaNil) (env := [o0, o1, o2, some (bx a b c), none]) rfl (rg_ok T hT)
  exact ⟨some (bx a' b' c'), allT (lc_to hr (by rw [rgD_nI, List.length_map, List.length_range]; exact hT) rfl rfl h rfl) (all_true _)⟩
theorem lawA_loop (hT : T ≤ 1000) (hF : RightOk F) (o0 : Option M) (cs : List Int) (hl : cs.length ≤ 3) :
    ∀ (ks : List Nat) (o2 o3 : Option M), (∀ k, k ∈ ks → k < cs.length) → ∃ o2' o3', forL (.sl 2) (lawA_b F T) (ks.map fun k => PyData.int (k : Nat)) [o0, some (.l (cs.map ip)), o2, o3, none] = some (.nx [o0, some (.l (cs.map ip)), o2', o3', none])
  | [], o2, o3, h => ⟨o2, o3, rfl⟩
  | k :: ks, o2, o3, h => by
    obtain ⟨a, b, c, hb⟩ := box_ok cs k (h k (List.mem_cons_self ..)) hl
    obtain ⟨e3, ht⟩ := lawA_turn hT hF o0 (some (.l (cs.map ip))) (some (.p (.int k))) a b c
    obtain ⟨o2', o3', hr⟩ := lawA_loop hT hF o0 cs hl ks (some (.p (.int k))) e3 fun j hj => h j (List.mem_cons_of_mem _ hj)
    refine ⟨o2', o3', ?_⟩
    have e1 : sAsg (.sl 3) (uCall D_law_box (uaCons (uVar 1) (uaCons (uVar 2) uaNil))) [o0, some (.l (cs.map ip)), some (.p (.int k)), o3, none] = some (.nx [o0, some (.l (cs.map ip)), some (.p (.int k)), some (bx a b c), none]) := by
      simp only [ip] at hb ⊢
      simp [sAsg, uCall, uaCons, uaNil, uVar, passL, passOp, hb, stM_eq, backL, G.take, asg]
    rw [List.map_cons, forL]
    have ea : asg (.sl 2) (.p (.int (k : Nat))) [o0, some (.l (cs.map ip)), o2, o3, none] = some [o0, some (.l (cs.map ip)), some (.p (.int k)), o3, none] := by simp [asg]
    have hbody : lawA_b F T [o0, some (.l (cs.map ip)), some (.p (.int k)), o3, none] = some (.nx [o0, some (.l (cs.map ip)), some (.p (.int k)), e3, none]) := by
      unfold lawA_b
      rw [seq_go e1, ht]
    rw [ea, Option.bind_some, hbody, Option.bind_some]
    simp only [stE_eq]
    exact hr
theorem lawA_true (hu : u = 2 ∨ u = 3) (hT : T ≤ 1000) (hF : RightOk F) : ∀ ns : List Int, ns.length ≤ 63 → ∃ outs, fnOf 5 1 1 (lawA F u T) [.p (.list (ns.map .int))] = some (.p (.bool true), outs) := by
  intro ns hn
  obtain ⟨cs, c1, c2, o, hc⟩ := cells_ok u hu ns hn
  obtain ⟨o2, o3, hf⟩ := lawA_loop hT hF (some (.p (.list (ns.map .int)))) cs c2 (List.range cs.length) none none fun k hk => List.mem_range.mp hk
  generalize ns.map PyData.int = ds at hc hf ⊢
  have e1 := cells_e1 5 o hc [some (.p (.list ds)), none, none, none, none] rfl (by simp)
  have e2 : sFor (uiR1 (uaCons (uFun fLen (uaCons (uVar 1) uaNil)) uaNil)) (.sl 2) (lawA_b F T) [some (.p (.list ds)), some (.l (cs.map ip)), none, none, none] = some (.nx [some (.p (.list ds)), some (.l (cs.map ip)), o2, o3, none]) := by
    rw [for_go (r1_ok (cells_u _ rfl) (lawRg c2)), rgD_nat]
    exact hf
  refine fn_end (n := 5) (ms := [.p (.list ds)]) (d := .p (.bool true)) (e := [some (.p (.list ds)), some (.l (cs.map ip)), o2, o3, none]) ?_
  show lawA F u T [some (.p (.list ds)), none, none, none, none] = _
  unfold lawA
  rw [seq_go e1]
  refine (seq_go e2).trans ?_
  rfl
/-! (B), (C) -/
theorem right_box (hF : RightOk F) (cs : List Int) (hl : cs.length ≤ 3) (k : Nat) (hk : k < cs.length) (o0 : Option M) : uCall F (uaCons (uCall D_law_box (uaCons (uVar 1) (uaCons (uVar 2) uaNil))) uaNil) [o0, some (.l (cs.map ip)), some (.p (.int k))] = some (.tmp (.p (.bool true)), [o0, some (.l (cs.map ip)), some (.p (.int k))]) := by
  obtain ⟨a, b, c, hb⟩ := box_ok cs k hk hl
  obtain ⟨a', b', c', h⟩ := hF a b c
  simp only [ip] at hb ⊢
  simp [uCall, uaCons, uaNil, uVar, passL, passOp, hb, h, stM_eq, backL]
def lawB (F : Fn) (u : Nat) : S := sSeq (sAsg (.sl 1) (uCall D_law_cells (uaCons (uVar 0) (uaCons (uC (.int u)) uaNil)))) (sRet (uFun fAll (uaCons (uLc (uiR1 (uaCons (uFun fLen (uaCons (uVar 1) uaNil)) uaNil)) (.sl 2) uYes (uCall F (uaCons (uCall D_law_box (uaCons (uVar 1) (uaCons (uVar 2) uaNil))) uaNil)) [2]) uaNil)))
theorem lawB_lc (hF : RightOk F) (cs : List Int) (hl : cs.length ≤ 3) (o0 : Option M) : ∀ ks : List Nat, (∀ k, k ∈ ks → k < cs.length) → lcL (.sl 2) uYes (uCall F (uaCons (uCall D_law_box (uaCons (uVar 1) (uaCons (uVar 2) uaNil))) uaNil)) [2] (ks.map nI) [o0, some (.l (cs.map ip)), none] = some ((ks.map nI).map fun _ => M.p (.bool true), [o0, some (.l (cs.map ip)), none])
  | [], h => rfl
  | k :: ks, h => by
    have h1 := right_box hF cs hl k (h k (List.mem_cons_self ..)) o0
    have ih := lawB_lc hF cs hl o0 ks fun j hj => h j (List.mem_cons_of_mem _ hj)
    generalize (uCall F (uaCons (uCall D_law_box (uaCons (uVar 1) (uaCons (uVar 2) uaNil))) uaNil)) = U at h1 ih ⊢
    rw [List.map_cons, lcL]
    have ea : asg (.sl 2) (.p (nI k)) [o0, some (.l (cs.map ip)), none] = some [o0, some (.l (cs.map ip)), some (.p (.int k))] := by simp [asg]
    rw [ea, Option.bind_some, show uYes [o0, some (.l (cs.map ip)), some (.p (.int k))] = some (true, [o0, some (.l (cs.map ip)), some (.p (.int k))]) from rfl, Option.bind_some]
    simp only [if_true]
    rw [h1, Option.bind_some]
    simp only [G.take, Option.bind_some]
    rw [show wipeE [o0, some (.l (cs.map ip)), some (.p (.int k))] [2] = [o0, some (.l (cs.map ip)), none] from rfl, ih, Option.bind_some]
    rfl
theorem lawB_true (hu : u = 2 ∨ u = 3) (hF : RightOk F) : ∀ ns : List Int, ns.length ≤ 63 → ∃ outs, fnOf 3 1 1 (lawB F u) [.p (.list (ns.map .int))] = some (.p (.bool true), outs) := by
  intro ns hn
  obtain ⟨cs, c1, c2, o, hc⟩ := cells_ok u hu ns hn
  generalize ns.map PyData.int = ds at hc ⊢
  have e1 := cells_e1 3 o hc [some (.p (.list ds)), none, none] rfl (by simp)
  have h := lawB_lc hF cs c2 (some (.p (.list ds))) (List.range cs.length) fun k hk => List.mem_range.mp hk
  have hr := r1_ok (cells_u [some (.p (.list ds)), some (.l (cs.map ip)), none] rfl) (lawRg c2)
  rw [rgD_nI] at hr
  have hlc : uLc (uiR1 (uaCons (uFun fLen (uaCons (uVar 1) uaNil)) uaNil)) (.sl 2) uYes (uCall F (uaCons (uCall D_law_box (uaCons (uVar 1) (uaCons (uVar 2) uaNil))) uaNil)) [2] [some (.p (.list ds)), some (.l (cs.map ip)), none] = some (.tmp (.l (((List.range cs.length).map nI).map fun _ => M.p (.bool true))), [some (.p (.list ds)), some (.l (cs.map ip)), none]) := by
    exact lc_to hr (by rw [List.length_map, List.length_range]; omega) rfl rfl h rfl
  refine fn_end (n := 3) (ms := [.p (.list ds)]) (d := .p (.bool true)) (e := [some (.p (.list ds)), some (.l (cs.map ip)), none]) ?_
  show lawB F u [some (.p (.list ds)), none, none] = _
  unfold lawB
  rw [seq_go e1]
  exact allR hlc (all_true _)
def lawC_b (F : Fn) : S := sIf (uNot (uTru (uCall F (uaCons (uCall D_law_box (uaCons (uVar 1) (uaCons (uVar 2) uaNil))) uaNil)))) (sRet (uC (.bool false))) sPass
def lawC (F : Fn) (u : Nat) : S := sSeq (sAsg (.sl 1) (uCall D_law_cells (uaCons (uVar 0) (uaCons (uC (.int u)) uaNil)))) (sSeq (sFor (uiR1 (uaCons (uFun fLen (uaCons (uVar 1) uaNil)) uaNil)) (.sl 2) (lawC_b F)) (sRet (uC (.bool true))))
theorem lawC_loop (hF : RightOk F) (o0 : Option M) (cs : List Int) (hl : cs.length ≤ 3) :
    ∀ (ks : List Nat) (o2 : Option M), (∀ k, k ∈ ks → k < cs.length) → ∃ o2', forL (.sl 2) (lawC_b F) (ks.map fun k => PyData.int (k : Nat)) [o0, some (.l (cs.map ip)), o2] = some (.nx [o0, some (.l (cs.map ip)), o2'])
  | [], o2, h => ⟨o2, rfl⟩
  | k :: ks, o2, h => by
    have h1 := right_box hF cs hl k (h k (List.mem_cons_self ..)) o0
    obtain ⟨o2', hr⟩ := lawC_loop hF o0 cs hl ks (some (.p (.int k))) fun j hj => h j (List.mem_cons_of_mem _ hj)
    refine ⟨o2', ?_⟩
    rw [List.map_cons, forL]
    have ea : asg (.sl 2) (.p (.int (k : Nat))) [o0, some (.l (cs.map ip)), o2] = some [o0, some (.l (cs.map ip)), some (.p (.int k))] := by simp [asg]
    have hbody : lawC_b F [o0, some (.l (cs.map ip)), some (.p (.int k))] = some (.nx [o0, some (.l (cs.map ip)), some (.p (.int k))]) := by
      unfold lawC_b
      generalize uCall F (uaCons (uCall D_law_box (uaCons (uVar 1) (uaCons (uVar 2) uaNil))) uaNil) = U at h1 ⊢
      simp [sIf, uNot, uTru, h1, rd, truM, sPass]
    rw [ea, Option.bind_some, hbody, Option.bind_some]
    simp only [stE_eq]
    exact hr
theorem lawC_true (hu : u = 2 ∨ u = 3) (hF : RightOk F) : ∀ ns : List Int, ns.length ≤ 63 → ∃ outs, fnOf 3 1 1 (lawC F u) [.p (.list (ns.map .int))] = some (.p (.bool true), outs) := by
  intro ns hn
  obtain ⟨cs, c1, c2, o, hc⟩ := cells_ok u hu ns hn
  obtain ⟨o2, hf⟩ := lawC_loop hF (some (.p (.list (ns.map .int)))) cs c2 (List.range cs.length) none fun k hk => List.mem_range.mp hk
  generalize ns.map PyData.int = ds at hc hf ⊢
  have e1 := cells_e1 3 o hc [some (.p (.list ds)), none, none] rfl (by simp)
  have e2 : sFor (uiR1 (uaCons (uFun fLen (uaCons (uVar 1) uaNil)) uaNil)) (.sl 2) (lawC_b F) [some (.p (.list ds)), some (.l (cs.map ip)), none] = some (.nx [some (.p (.list ds)), some (.l (cs.map ip)), o2]) := by
    rw [for_go (r1_ok (cells_u _ rfl) (lawRg c2)), rgD_nat]
    exact hf
  refine fn_end (n := 3) (ms := [.p (.list ds)]) (d := .p (.bool true)) (e := [some (.p (.list ds)), some (.l (cs.map ip)), o2]) ?_
  show lawC F u [some (.p (.list ds)), none, none] = _
  unfold lawC
  rw [seq_go e1]
  refine (seq_go e2).trans ?_
  rfl
end
end Hc

/-! rings: what can be next to a thing, of standings and of wishes -/
namespace Hc
open PySem PySem.Spec PyProof.Rows L2 G
def nO : Option Nat → PyData
  | none => .none
  | some i => nI i
/-- a standing, a wish in a row as it is laid: a tuple, a list, an own list -/
def Rp (h : List (Option Nat)) (m : M) : Prop := m = .p (.tuple (h.map nO)) ∨ m = .p (.list (h.map nO)) ∨ m = .l (h.map fun x => .p (nO x))
structure Hd (L : List (Nat × Nat)) (h : List (Option Nat)) : Prop where
  len : h.length = L.length
  at_ : ∀ (i : Nat) (p : Nat × Nat), L[i]? = some p → h[i]? = some none ∨ h[i]? = some (some p.1) ∨ h[i]? = some (some p.2)
theorem sd_hd {L : List (Nat × Nat)} {s : List Nat} (S : Sd L s) : Hd L (s.map some) := by
  refine ⟨by rw [List.length_map, S.len], fun i p hp => ?_⟩
  rw [List.getElem?_map]
  rcases S.at_ i p hp with h | h <;> rw [h]
  · exact .inr (.inl rfl)
  · exact .inr (.inr rfl)
theorem nO_map (s : List Nat) : (s.map some).map nO = s.map nI := by rw [List.map_map]; rfl
theorem sd_rp (s : List Nat) : Rp (s.map some) (.p (sD s)) := .inl (by rw [nO_map]; rfl)
theorem sl_rp (s : List Nat) : Rp (s.map some) (.l (s.map iN)) := .inr (.inr (by rw [List.map_map]; rfl))
theorem rp_item {h : List (Option Nat)} {m : M} (r : Rp h m) {i : Nat} (hi : i < h.length) : itemM m (i : Int) = some (.p (nO h[i])) ∧ isD m = false := by
  rcases r with rfl | rfl | rfl
  · refine ⟨?_, rfl⟩
    show (atI _ _).map _ = _
    rw [atI_nat, List.getElem?_map, List.getElem?_eq_getElem hi]
    rfl
  · refine ⟨?_, rfl⟩
    show (atI _ _).map _ = _
    rw [atI_nat, List.getElem?_map, List.getElem?_eq_getElem hi]
    rfl
  · refine ⟨?_, rfl⟩
    show atI _ _ = _
    rw [atI_nat, List.getElem?_map, List.getElem?_eq_getElem hi]
    rfl
theorem rp_len {h : List (Option Nat)} {m : M} (r : Rp h m) : lenM m = some h.length := by
  rcases r with rfl | rfl | rfl
  · show some (h.map nO).length = _
    rw [List.length_map]
  · show some (h.map nO).length = _
    rw [List.length_map]
  · show some (h.map _).length = _
    rw [List.length_map]
theorem u_item {h : List (Option Nat)} {m : M} (r : Rp h m) {i a k : Nat} (hi : i < h.length) {e : G.Env} (ha : e[a]? = some (some m)) (hk : e[k]? = some (some (iN i))) : uItem (uVar a) (uVar k) e = some (.tmp (.p (nO h[i])), e) := by
  obtain ⟨h1, h2⟩ := rp_item r hi
  simp [uItem, uVar, ha, hk, rd, h2, itemI, h1, giveM]
/-- a call of three, the second in whatever hand -/
theorem call3 {F : Fn} {w x : PyData} {m r : M} {e : G.Env} {k : Nat} (hF : F [.p w, m, .p x] = some (r, [some (.p w), some m, some (.p x)])) (h0 : e[0]? = some (some (.p w))) (h1 : e[1]? = some (some m)) (hk : e[k]? = some (some (.p x))) (k1 : k ≠ 1) :
    uCall F (uaCons (uVar 0) (uaCons (uVar 1) (uaCons (uVar k) uaNil))) e = some (.tmp r, e) := by
  have k1' : ¬ 1 = k := fun z => k1 z.symm
  have hk' : (e.set 1 none)[k]? = some (some (.p x)) := by
    rw [List.getElem?_set_ne k1']
    exact hk
  have hb : (e.set 1 none).set 1 (some m) = e := by
    rw [List.set_set]
    exact st_set_self h1
  cases m with
  | p d => simp [uCall, uaCons, uaNil, uVar, h0, h1, hk, passL, passOp, hF, backL, stM_eq]
  | _ => simp [uCall, uaCons, uaNil, uVar, h0, h1, hk, passL, passOp, hF, backL, stM_eq, hk', hb]
section
variable {n : Nat} {L : List (Nat × Nat)} {R : List (List Nat)} {h : List (Option Nat)} {b : Bool} {m : M}
theorem Ok.in_ (O : Ok n L R) {i : Nat} (hi : i < L.length) {w : Nat} (hw : w = L[i].1 ∨ w = L[i].2) : w < n ∧ i ∈ R.getD w [] := by
  have hl := O.lt L[i] (List.getElem_mem hi)
  have hn : w < n := by omega
  refine ⟨hn, (O.pm w hn).mem_iff.mpr ?_⟩
  unfold own
  refine List.mem_filter.mpr ⟨List.mem_range.mpr hi, decide_eq_true ?_⟩
  rw [List.getD_eq_getElem?_getD, List.getElem?_eq_getElem hi]
  show L[i].1 = w ∨ L[i].2 = w
  rcases hw with q | q
  · exact .inl q.symm
  · exact .inr q.symm
theorem other_in (p : Nat × Nat) (w : Nat) : otherP p w = p.1 ∨ otherP p w = p.2 := by
  unfold otherP
  split
  · exact .inr rfl
  · exact .inl rfl
def nextsP (L : List (Nat × Nat)) (R : List (List Nat)) (h : List (Option Nat)) (i : Nat) : List Nat := match h[i]? with
  | some (some p) => ((R.getD (otherP (L.getD i (0, 0)) p) []).take ((R.getD (otherP (L.getD i (0, 0)) p) []).idxOf i)).filter fun j => decide (h[j]? = some (some (otherP (L.getD i (0, 0)) p)))
  | _ => []
theorem findD_nat (i : Nat) : ∀ r : List Nat, i ∈ r → findD (nI i) (r.map nI) = some (r.idxOf i)
  | [], hi => by cases hi
  | x :: r, hi => by
    rw [List.map_cons, findD, eqv_int]
    by_cases q : x = i
    · subst q
      simp
    · have : ¬ ((x : Int) == (i : Int)) = true := by simp; omega
      rw [if_neg this]
      rcases List.mem_cons.mp hi with z | z
      · exact absurd z.symm q
      · rw [findD_nat i r z, List.idxOf_cons]
        have : (x == i) = false := by simpa using q
        rw [this]
        rfl
theorem okD_nats {r : List Nat} (hr : ∀ j, j ∈ r → j < 1000) : okD (.list (r.map nI)) = true ∧ okD (.tuple (r.map nI)) = true := by
  have : ∀ x, x ∈ r.map nI → Sm 0 40 x := fun x hx => by
    obtain ⟨j, hj, rfl⟩ := List.mem_map.mp hx
    exact Sm.int (by rw [Int.natAbs_natCast]; have := hr j hj; omega)
  exact ⟨(Sm.lst this (Nat.le_refl _)).ok, (Sm.tup this (Nat.le_refl _)).ok⟩
theorem okD_n (j : Int) : okD (.int j) = true := by simp [okD, SeqAt.shaped, PyData.canLay0, PyData.depth]
theorem dEq_nO (x : Option Nat) (w : Nat) : dEq (nO x) (nI w) = some (.bool (decide (x = some w))) := by
  cases x with
  | none => simp [nO, dEq, okD, SeqAt.shaped, PyData.canLay0, PyData.depth, PyData.eqv]
  | some y =>
    show dEq (nI y) (nI w) = _
    rw [dEq_int]
    by_cases q : y = w
    · simp [q]
    · have : ¬ (y : Int) = w := by omega
      simp [q, this]
/-- the tail both have: the order's part ahead of the thing, these with whom it lacks to -/
def nxTail : S := (sSeq (sAsg (.sl 4) (uFun fList (uaCons (uItem (uItem (uVar 0) (uC (.int 1))) (uVar 3)) uaNil)))
    (sRet (uLc (uiSeq (uSl (uVar 4) uNo (uPart (uIndex (uVar 4) (uVar 2))))) (.sl 5) (uTruB (uBin (lift2 dEq) (uItem (uVar 1) (uVar 5)) (uVar 3))) (uVar 5) [5])))
theorem tail_ok (O : Ok n L R) (H : Hd L h) (hm : Rp h m) {i w : Nat} (hi : i < L.length) (hw : w < n) (hiw : i ∈ R.getD w []) :
    nxTail [some (.p (wD b L R)), some m, some (iN i), some (iN w), none, none] = some (.rt (.l ((((R.getD w []).take ((R.getD w []).idxOf i)).filter fun j => decide (h[j]? = some (some w))).map iN)) [some (.p (wD b L R)), some m, some (iN i), some (iN w), some (.l ((R.getD w []).map iN)), none]) := by
  have hr : w < R.length := by rw [O.rl]; exact hw
  have hg : R.getD w [] = R[w] := by
    rw [List.getD_eq_getElem?_getD, List.getElem?_eq_getElem hr]
    rfl
  rw [hg] at hiw ⊢
  have hrk := O.rk R[w] (List.getElem_mem hr)
  have s1 : sAsg (.sl 4) (uFun fList (uaCons (uItem (uItem (uVar 0) (uC (.int 1))) (uVar 3)) uaNil)) [some (.p (wD b L R)), some m, some (iN i), some (iN w), none, none]
      = some (.nx [some (.p (wD b L R)), some m, some (iN i), some (iN w), some (.l (R[w].map iN)), none]) := by
    have e2 : itemM (.p (sq b (R.map fun r => sq b (r.map nI)))) (w : Int) = some (.p (sq b (R[w].map nI))) := by
      rw [item_sq, List.getElem?_map, List.getElem?_eq_getElem hr]
      rfl
    have el : fList [.p (sq b (R[w].map nI))] = some (.l (R[w].map iN)) := by
      have : els (.p (sq b (R[w].map nI))) = some (R[w].map nI) := by cases b <;> rfl
      show (els _).map _ = _
      rw [this]
      show some (M.l ((R[w].map nI).map M.p)) = _
      rw [List.map_map]
      rfl
    simp [sAsg, uFun, uaCons, uaNil, uItem, uVar, uC, rd, rdL, isD_w, isD_sq, itemI, item_w1, e2, giveM, el, G.take, asg]
  have hf : frz (.l (R[w].map iN)) = some (.list (R[w].map nI)) := by
    have := frzL_map (R[w].map nI)
    rw [List.map_map] at this
    show (frzL (R[w].map iN)).map _ = _
    rw [show frzL (R[w].map iN) = some (R[w].map nI) from this]
    rfl
  have hx : indexD (.list (R[w].map nI)) (nI i) = some (.int ((R[w].idxOf i : Nat) : Int)) := by
    have o1 := (okD_nats (r := R[w]) fun j hj => by have := hrk.1 j hj; have := O.ll; omega).1
    simp [indexD, o1, okD_n, findD_nat i R[w] hiw]
  have hcut : cutM (.l (R[w].map iN)) none (some ((R[w].idxOf i : Nat) : Int)) = some (.l ((R[w].take (R[w].idxOf i)).map iN)) := by
    have := allP_map (R[w].map nI)
    rw [List.map_map] at this
    show (allP (R[w].map iN)).map _ = _
    rw [show allP (R[w].map iN) = some (R[w].map nI) from this]
    show some (M.l ((cutL (R[w].map nI) none (some ((R[w].idxOf i : Nat) : Int))).map M.p)) = _
    rw [cut_pre, ← List.map_take, List.map_map]
    rfl
  generalize hT : R[w].take (R[w].idxOf i) = T at hcut
  have hTR : ∀ j, j ∈ T → j < L.length := fun j hj => hrk.1 j (List.mem_of_mem_take (hT ▸ hj))
  have hTl : T.length ≤ 40 := by rw [← hT, List.length_take]; omega
  have hfT : frz (.l (T.map iN)) = some (.list (T.map nI)) := by
    have := frzL_map (T.map nI)
    rw [List.map_map] at this
    show (frzL (T.map iN)).map _ = _
    rw [show frzL (T.map iN) = some (T.map nI) from this]
    rfl
  have i1 : uiSeq (uSl (uVar 4) uNo (uPart (uIndex (uVar 4) (uVar 2)))) [some (.p (wD b L R)), some m, some (iN i), some (iN w), some (.l (R[w].map iN)), none]
      = some (T.map nI, [some (.p (wD b L R)), some m, some (iN i), some (iN w), some (.l (R[w].map iN)), none]) := by
    generalize R[w].map iN = ms at hf hcut
    generalize R[w].map nI = ds at hf hx
    have hls : isLs (.list ds) = true := rfl
    have hd2 : frz (iN i) = some (nI i) := rfl
    simp [uiSeq, uSl, uNo, uPart, uIndex, uVar, rdD, rd, hf, hls, hd2, hx, hcut, G.take, hfT, seqD]
  have l1 : lcL (.sl 5) (uTruB (uBin (lift2 dEq) (uItem (uVar 1) (uVar 5)) (uVar 3))) (uVar 5) [5] (T.map nI) [some (.p (wD b L R)), some m, some (iN i), some (iN w), some (.l (R[w].map iN)), none]
      = some ((T.filter fun j => decide (h[j]? = some (some w))).map iN, [some (.p (wD b L R)), some m, some (iN i), some (iN w), some (.l (R[w].map iN)), none]) := by
    refine lc_go nI _ iN _ fun j hj => ?_
    have hjl : j < h.length := by rw [H.len]; exact hTR j hj
    have e3 := u_item hm hjl (e := [some (.p (wD b L R)), some m, some (iN i), some (iN w), some (.l (R[w].map iN)), some (iN j)]) (a := 1) (k := 5) rfl rfl
    refine ⟨[some (.p (wD b L R)), some m, some (iN i), some (iN w), some (.l (R[w].map iN)), some (iN j)], [some (.p (wD b L R)), some m, some (iN i), some (iN w), some (.l (R[w].map iN)), some (iN j)], by simp [asg], ?_, fun _ => ⟨_, [some (.p (wD b L R)), some m, some (iN i), some (iN w), some (.l (R[w].map iN)), some (iN j)], rfl, by simp [G.take, takeS, frz], by simp [wipeE]⟩, fun _ => by simp [wipeE]⟩
    have hq := dEq_nO h[j] w
    generalize uItem (uVar 1) (uVar 5) = U at e3
    simp [uTruB, uBin, e3, uVar, rd, lift2, frz, hq]
    rw [List.getElem?_eq_getElem hjl, Option.some.injEq]
  have hlc := lc_to i1 (by rw [List.length_map]; omega) rfl rfl l1 (e3 := [some (.p (wD b L R)), some m, some (iN i), some (iN w), some (.l (R[w].map iN)), none]) rfl
  unfold nxTail
  rw [seq_go s1]
  exact ret_go hlc
theorem isn_nO (x : Option Nat) : fIs (.p (nO x)) (.p .none) = some (.p (.bool x.isNone)) := by
  cases x <;> rfl
theorem first_none (hm : Rp h m) {i : Nat} (hi : i < h.length) {e : G.Env} (h1 : e[1]? = some (some m)) (h2 : e[2]? = some (some (iN i))) :
    uTruB (uBin fIs (uItem (uVar 1) (uVar 2)) (uC .none)) e = some (h[i].isNone, e) := by
  have e1 := u_item hm hi h1 h2
  have e2 := isn_nO h[i]
  generalize uItem (uVar 1) (uVar 2) = U at e1 ⊢
  generalize fIs = F at e2 ⊢
  simp [uTruB, uBin, e1, uC, rd, e2]
theorem nextsP_lt (O : Ok n L R) {i j : Nat} (hj : j ∈ nextsP L R h i) : j < L.length := by
  unfold nextsP at hj
  split at hj
  · have hj := List.mem_of_mem_take (List.mem_filter.mp hj).1
    by_cases hr : otherP (L.getD i (0, 0)) ‹Nat› < R.length
    · rw [List.getD_eq_getElem?_getD, List.getElem?_eq_getElem hr] at hj
      exact (O.rk _ (List.getElem_mem hr)).1 j hj
    · rw [List.getD_eq_getElem?_getD, List.getElem?_eq_none (by omega)] at hj
      cases hj
  · cases hj
theorem nexts_ok (O : Ok n L R) (H : Hd L h) (hm : Rp h m) {i : Nat} (hi : i < L.length) : D_nexts [.p (wD b L R), m, iN i] = some (.l ((nextsP L R h i).map iN), [some (.p (wD b L R)), some m, some (iN i)]) := by
  have hil : i < h.length := by rw [H.len]; exact hi
  have c1 := first_none hm hil (e := [some (.p (wD b L R)), some m, some (iN i), none, none, none]) rfl rfl
  have u1 := u_item hm hil (e := [some (.p (wD b L R)), some m, some (iN i), none, none, none]) (a := 1) (k := 2) rfl rfl
  have hat : h[i]? = some h[i] := List.getElem?_eq_getElem hil
  cases hv : h[i] with
  | none =>
    rw [hv] at c1 hat
    have : nextsP L R h i = [] := by unfold nextsP; rw [hat]
    rw [this]
    refine fn_go (n := 6) (k := 3) (np := 3) (f := m_nexts) (ms := [.p (wD b L R), m, iN i]) (Eq.refl 3) (e := [some (.p (wD b L R)), some m, some (iN i), none, none, none]) ?_
    show m_nexts [some (.p (wD b L R)), some m, some (iN i), none, none, none] = _
    unfold m_nexts
    exact seq_ret (if_true c1)
  | some p =>
    rw [hv] at c1 hat u1
    have hp : p = L[i].1 ∨ p = L[i].2 := by
      rcases H.at_ i L[i] (List.getElem?_eq_getElem hi) with q | q | q
      · rw [hat] at q; cases q
      · rw [hat] at q; exact .inl (Option.some.inj (Option.some.inj q))
      · rw [hat] at q; exact .inr (Option.some.inj (Option.some.inj q))
    have hgl : L.getD i (0, 0) = L[i] := by
      rw [List.getD_eq_getElem?_getD, List.getElem?_eq_getElem hi]
      rfl
    obtain ⟨hw, hiw⟩ := O.in_ hi (other_in L[i] p)
    have he : nextsP L R h i = ((R.getD (otherP L[i] p) []).take ((R.getD (otherP L[i] p) []).idxOf i)).filter fun j => decide (h[j]? = some (some (otherP L[i] p))) := by
      unfold nextsP
      rw [hat]
      simp only [hgl]
    rw [he]
    have ho := other_ok (b := b) (ranks := R) (who := p) hi
    have ht := tail_ok (b := b) O H hm hi hw hiw
    refine fn_go (n := 6) (k := 3) (np := 3) (f := m_nexts) (ms := [.p (wD b L R), m, iN i]) (Eq.refl 3) (e := [some (.p (wD b L R)), some m, some (iN i), some (iN (otherP L[i] p)), some (.l ((R.getD (otherP L[i] p) []).map iN)), none]) ?_
    show m_nexts [some (.p (wD b L R)), some m, some (iN i), none, none, none] = _
    have s2 : sAsg (.sl 3) (uCall D_other_of (uaCons (uVar 0) (uaCons (uVar 2) (uaCons (uItem (uVar 1) (uVar 2)) uaNil)))) [some (.p (wD b L R)), some m, some (iN i), none, none, none] = some (.nx [some (.p (wD b L R)), some m, some (iN i), some (iN (otherP L[i] p)), none, none]) := by
      generalize uItem (uVar 1) (uVar 2) = U at u1
      have ho : D_other_of [.p (wD b L R), iN i, .p (nO (some p))] = some (iN (otherP L[i] p), [some (.p (wD b L R)), some (iN i), some (iN p)]) := ho
      simp [sAsg, uCall, uaCons, uaNil, uVar, u1, passL, passOp, ho, backL, stM_eq, G.take, asg]
    unfold m_nexts
    rw [seq_go ((if_false c1).trans rfl), seq_go s2]
    exact ht
end
end Hc

/-! rings: the law's own look at what can be next; rings shown -/
namespace Hc
open PySem PySem.Spec PyProof.Rows L2 G
theorem blsOf_map {α : Type} (c : α → Bool) : ∀ xs : List α, blsOf (xs.map fun x => PyData.bool (c x)) = some (xs.map c)
  | [] => rfl
  | x :: xs => by simp [blsOf, blsOf_map c xs]
theorem allP_bl {α : Type} (c : α → Bool) (xs : List α) : allP (xs.map fun x => M.p (.bool (c x))) = some (xs.map fun x => .bool (c x)) := by
  have := allP_map (xs.map fun x => PyData.bool (c x))
  rw [List.map_map] at this
  exact this
theorem bls_map' {α : Type} (c : α → Bool) (xs : List α) : fAll [.l (xs.map fun x => M.p (.bool (c x)))] = some (.p (.bool (xs.all c))) := by
  simp [fAll, lsM, allP_bl, blsOf_map, List.all_map, Function.comp_def]
theorem any_map' {α : Type} (c : α → Bool) (xs : List α) : fAny [.l (xs.map fun x => M.p (.bool (c x)))] = some (.p (.bool (xs.any c))) := by
  simp [fAny, lsM, allP_bl, blsOf_map, List.any_map, Function.comp_def]
section
variable {n i : Nat} {L : List (Nat × Nat)} {R : List (List Nat)} {h : List (Option Nat)} {b : Bool} {m : M}
theorem Hd.two (H : Hd L h) {i p : Nat} (hi : i < L.length) (hat : h[i]? = some (some p)) : p = L[i].1 ∨ p = L[i].2 := by
  rcases H.at_ i L[i] (List.getElem?_eq_getElem hi) with q | q | q
  · rw [hat] at q; cases q
  · rw [hat] at q; exact .inl (Option.some.inj (Option.some.inj q))
  · rw [hat] at q; exact .inr (Option.some.inj (Option.some.inj q))
theorem nextsP_some (hi : i < L.length) {p : Nat} (hat : h[i]? = some (some p)) : nextsP L R h i = ((R.getD (otherP L[i] p) []).take ((R.getD (otherP L[i] p) []).idxOf i)).filter fun j => decide (h[j]? = some (some (otherP L[i] p))) := by
  have hgl : L.getD i (0, 0) = L[i] := by
    rw [List.getD_eq_getElem?_getD, List.getElem?_eq_getElem hi]
    rfl
  unfold nextsP
  rw [hat]
  simp only [hgl]
theorem lacker_ok (O : Ok n L R) (H : Hd L h) (hm : Rp h m) {i p : Nat} (hi : i < L.length) (hat : h[i]? = some (some p)) :
    D_law_lacker [.p (wD b L R), m, iN i] = some (iN (otherP L[i] p), [some (.p (wD b L R)), some m, some (iN i)]) := by
  have hil : i < h.length := by rw [H.len]; exact hi
  have hv : h[i] = some p := by rw [List.getElem?_eq_getElem hil] at hat; exact Option.some.inj hat
  have e1 := item_lot (b := b) hi
  have hlt := (O.lt L[i] (List.getElem_mem hi)).1
  have i1 : uiSeq (uItem (uItem (uVar 0) (uC (.int 0))) (uVar 2)) [some (.p (wD b L R)), some m, some (iN i), none] = some ([L[i].1, L[i].2].map nI, [some (.p (wD b L R)), some m, some (iN i), none]) := by
    have e2 : seqD (sq b [nI L[i].1, nI L[i].2]) = some [nI L[i].1, nI L[i].2] := seqD_sq b _
    simp [uiSeq, uItem, uVar, uC, rd, isD_w, isD_sq, itemI, item_w0, e1, giveM, G.take, frz, e2]
  have l1 : lcL (.sl 3) (uTruB (uBin (lift2 dNe) (uVar 3) (uItem (uVar 1) (uVar 2)))) (uVar 3) [3] ([L[i].1, L[i].2].map nI) [some (.p (wD b L R)), some m, some (iN i), none]
      = some (([L[i].1, L[i].2].filter fun j => !decide (j = p)).map iN, [some (.p (wD b L R)), some m, some (iN i), none]) := by
    refine lc_go nI _ iN _ fun j _ => ?_
    have e3 := u_item hm hil (e := [some (.p (wD b L R)), some m, some (iN i), some (iN j)]) (a := 1) (k := 2) rfl rfl
    rw [hv] at e3
    refine ⟨[some (.p (wD b L R)), some m, some (iN i), some (iN j)], [some (.p (wD b L R)), some m, some (iN i), some (iN j)], by simp [asg], ?_, fun _ => ⟨_, [some (.p (wD b L R)), some m, some (iN i), some (iN j)], rfl, by simp [G.take, takeS, frz], by simp [wipeE]⟩, fun _ => by simp [wipeE]⟩
    generalize uItem (uVar 1) (uVar 2) = U at e3
    simp [uTruB, uBin, e3, uVar, rd, lift2, frz, nO, dNe_int]
    by_cases q : j = p
    · simp [q]
    · have : ¬ (j : Int) = p := by omega
      simp [q, this]
  have hfil : ([L[i].1, L[i].2].filter fun j => !decide (j = p)) = [otherP L[i] p] := by
    unfold otherP
    rcases H.two hi hat with rfl | rfl
    · have : ¬ L[i].2 = L[i].1 := by omega
      simp [this]
    · have : ¬ L[i].1 = L[i].2 := by omega
      have t2 : ¬ L[i].2 = L[i].1 := by omega
      simp [this, t2]
  rw [hfil] at l1
  have hlc := lc_to i1 (by simp) rfl rfl l1 (e3 := [some (.p (wD b L R)), some m, some (iN i), none]) rfl
  refine fn_go (n := 4) (k := 3) (np := 3) (f := m_law_lacker) (ms := [.p (wD b L R), m, iN i]) (Eq.refl 3) (e := [some (.p (wD b L R)), some m, some (iN i), none]) ?_
  show m_law_lacker [some (.p (wD b L R)), some m, some (iN i), none] = _
  unfold m_law_lacker
  generalize uLc _ _ _ _ _ = U at hlc ⊢
  have hz : itemM (.l (List.map iN [otherP L[i] p])) 0 = some (iN (otherP L[i] p)) := rfl
  simp [sRet, uItem, hlc, uC, rd, isD, itemI, giveM, mv]
  simp at hz
  simp [hz]
theorem after_ok (O : Ok n L R) (H : Hd L h) (hm : Rp h m) {i : Nat} (hi : i < L.length) : D_law_after [.p (wD b L R), m, iN i] = some (.l ((nextsP L R h i).map iN), [some (.p (wD b L R)), some m, some (iN i)]) := by
  have hil : i < h.length := by rw [H.len]; exact hi
  have c1 := first_none hm hil (e := [some (.p (wD b L R)), some m, some (iN i), none, none, none]) rfl rfl
  have hat : h[i]? = some h[i] := List.getElem?_eq_getElem hil
  cases hv : h[i] with
  | none =>
    rw [hv] at c1 hat
    have : nextsP L R h i = [] := by unfold nextsP; rw [hat]
    rw [this]
    refine fn_go (n := 6) (k := 3) (np := 3) (f := m_law_after) (ms := [.p (wD b L R), m, iN i]) (Eq.refl 3) (e := [some (.p (wD b L R)), some m, some (iN i), none, none, none]) ?_
    show m_law_after [some (.p (wD b L R)), some m, some (iN i), none, none, none] = _
    unfold m_law_after
    exact seq_ret (if_true c1)
  | some p =>
    rw [hv] at c1 hat
    obtain ⟨hw, hiw⟩ := O.in_ hi (other_in L[i] p)
    rw [nextsP_some hi hat]
    have ho := lacker_ok (b := b) O H hm hi hat
    have ht := tail_ok (b := b) O H hm hi hw hiw
    refine fn_go (n := 6) (k := 3) (np := 3) (f := m_law_after) (ms := [.p (wD b L R), m, iN i]) (Eq.refl 3) (e := [some (.p (wD b L R)), some m, some (iN i), some (iN (otherP L[i] p)), some (.l ((R.getD (otherP L[i] p) []).map iN)), none]) ?_
    show m_law_after [some (.p (wD b L R)), some m, some (iN i), none, none, none] = _
    have hc := call3 ho (e := [some (.p (wD b L R)), some m, some (iN i), none, none, none]) (k := 2) rfl rfl rfl (by decide)
    have s2 := asg_at (i := 3) hc (by simp)
    unfold m_law_after
    rw [seq_go ((if_false c1).trans rfl), seq_go s2]
    exact ht
/-! rings -/
def okI (n : Nat) : PyData → Bool
  | .int i => decide (0 ≤ i ∧ i < n)
  | _ => false
def numsOf : List PyData → List Nat
  | [] => []
  | .int i :: ds => i.toNat :: numsOf ds
  | _ :: ds => 0 :: numsOf ds
def turnL (xs : List Nat) : List Nat := xs.drop 1 ++ xs.take 1
def ringP (L : List (Nat × Nat)) (R : List (List Nat)) (h : List (Option Nat)) (xs : List Nat) : Bool :=
  decide (2 ≤ xs.length) && (decide ((ddI (xs.map fun (i : Nat) => (i : Int))).length = xs.length) && (xs.zip (turnL xs)).all fun q => decide (q.2 ∈ nextsP L R h q.1))
def ringD (L : List (Nat × Nat)) (R : List (List Nat)) (h : List (Option Nat)) : PyData → Bool
  | .list ds => ds.all (okI L.length) && ringP L R h (numsOf ds)
  | _ => false
theorem nums_eq {n : Nat} : ∀ ds : List PyData, (ds.all (okI n)) = true → ds = (numsOf ds).map nI ∧ ∀ i, i ∈ numsOf ds → i < n
  | [], h => ⟨rfl, fun i hi => by cases hi⟩
  | d :: ds, h => by
    rw [List.all_cons, Bool.and_eq_true] at h
    obtain ⟨e, k⟩ := nums_eq ds h.2
    cases d with
    | int i =>
      have h1 : 0 ≤ i ∧ i < n := of_decide_eq_true h.1
      refine ⟨?_, fun j hj => ?_⟩
      · show _ = nI i.toNat :: (numsOf ds).map nI
        rw [← e]
        congr 2
        show i = (i.toNat : Int)
        omega
      · rcases List.mem_cons.mp hj with rfl | hj
        · omega
        · exact k j hj
    | _ => cases h.1
theorem zipD_nn : ∀ xs ys : List Nat, zipD (xs.map nI) (ys.map nI) = (xs.zip ys).map fun q => PyData.tuple [nI q.1, nI q.2]
  | [], ys => by simp [zipD]
  | x :: xs, [] => by simp [zipD]
  | x :: xs, y :: ys => by simp [zipD, zipD_nn xs ys]
theorem any_nat (y : Nat) (zs : List Nat) : ((zs.map nI).any fun z => PyData.eqv z (nI y)) = decide (y ∈ zs) := by
  induction zs with
  | nil => rfl
  | cons z zs ih =>
    rw [List.map_cons, List.any_cons, ih, eqv_int]
    by_cases q : y = z
    · simp [q]
    · have : ¬ ((z : Int) = (y : Int)) := by omega
      simp [q, this]
theorem inM_nat {y : Nat} {zs : List Nat} (hz : ∀ z, z ∈ zs → z < 1000) : inM (iN y) (.p (.list (zs.map nI))) = some (decide (y ∈ zs)) := by
  have o1 := (okD_nats hz).1
  show inD (.list (zs.map nI)) (nI y) = _
  unfold inD
  rw [← any_nat y zs]
  simp [o1, okD_n]
theorem seqD_ll (ds : List PyData) : seqD (.list ds) = some ds := rfl
/-- round about: each and the one next to it -/
theorem zip_round (xs : List Nat) (hl : xs.length ≤ 500) (e : G.Env) (h2 : e[2]? = some (some (.p (.list (xs.map nI))))) :
    uiOf gZip (uaCons (uVar 2) (uaCons (uBin fAdd (uSl (uVar 2) (uPart (uC (.int 1))) uNo) (uSl (uVar 2) uNo (uPart (uC (.int 1))))) uaNil)) e = some ((xs.zip (turnL xs)).map fun q => PyData.tuple [nI q.1, nI q.2], e) := by
  have c1 : cutM (.p (.list (xs.map nI))) (some 1) none = some (.l ((xs.drop 1).map iN)) := by
    show some (M.l ((cutL (xs.map nI) (some ((1 : Nat) : Int)) none).map M.p)) = _
    rw [cut_suf, ← List.map_drop, List.map_map]
    rfl
  have c2 : cutM (.p (.list (xs.map nI))) none (some 1) = some (.l ((xs.take 1).map iN)) := by
    show some (M.l ((cutL (xs.map nI) none (some ((1 : Nat) : Int))).map M.p)) = _
    rw [cut_pre, ← List.map_take, List.map_map]
    rfl
  have ad : fAdd (.l ((xs.drop 1).map iN)) (.l ((xs.take 1).map iN)) = some (.l ((turnL xs).map iN)) := by
    have a1 := allP_map ((xs.drop 1).map nI)
    have a2 := allP_map ((xs.take 1).map nI)
    rw [List.map_map] at a1 a2
    have a1 : allP ((xs.drop 1).map iN) = some ((xs.drop 1).map nI) := a1
    have a2 : allP ((xs.take 1).map iN) = some ((xs.take 1).map nI) := a2
    have f1 := frzL_map ((xs.drop 1).map nI)
    have f2 := frzL_map ((xs.take 1).map nI)
    rw [List.map_map] at f1 f2
    have f1 : frzL ((xs.drop 1).map iN) = some ((xs.drop 1).map nI) := f1
    have f2 : frzL ((xs.take 1).map iN) = some ((xs.take 1).map nI) := f2
    have hz : ((xs.drop 1).map nI).length + ((xs.take 1).map nI).length ≤ sizeLine := len_le_line (by rw [List.length_map, List.length_map, List.length_drop, List.length_take]; omega)
    have : M.l ((turnL xs).map iN) = .l (((xs.drop 1).map nI ++ (xs.take 1).map nI).map M.p) := by
      rw [← List.map_append, List.map_map]
      rfl
    rw [this]
    generalize (xs.drop 1).map iN = m1 at *
    generalize (xs.take 1).map iN = m2 at *
    generalize (xs.drop 1).map nI = d1 at *
    generalize (xs.take 1).map nI = d2 at *
    simp [fAdd, lift2, frz, f1, f2, iI, catL, catO, a1, a2, hz]
  have hf : frzL ((turnL xs).map iN) = some ((turnL xs).map nI) := by
    have := frzL_map ((turnL xs).map nI)
    rw [List.map_map] at this
    exact this
  have hz := zipD_nn xs (turnL xs)
  have hs : e.set 2 (some (.p (.list (xs.map nI)))) = e := st_set_self h2
  generalize (turnL xs).map iN = m3 at *
  generalize (turnL xs).map nI = d3 at *
  generalize xs.map nI = d0 at *
  generalize (xs.drop 1).map iN = m1 at *
  generalize (xs.take 1).map iN = m2 at *
  generalize fAdd = F at ad ⊢
  simp [uiOf, uaCons, uaNil, uVar, h2, uBin, uSl, uNo, uPart, uC, rd, c1, c2, ad, takeL, G.take, takeS, frz, frzL, hs, hf, gZip, seqD_ll, hz]
/-- all are next to each other round about -/
theorem round_ok {F : Fn} (O : Ok n L R) (H : Hd L h) (hm : Rp h m) {xs : List Nat} (hx : ∀ i, i ∈ xs → i < L.length) (hl : xs.length ≤ 500)
    (hF : ∀ i, i < L.length → F [.p (wD b L R), m, iN i] = some (.l ((nextsP L R h i).map iN), [some (.p (wD b L R)), some m, some (iN i)])) :
    sRet (uFun fAll (uaCons (uLc (uiOf gZip (uaCons (uVar 2) (uaCons (uBin fAdd (uSl (uVar 2) (uPart (uC (.int 1))) uNo) (uSl (uVar 2) uNo (uPart (uC (.int 1))))) uaNil))) (.tp [(.sl 3), (.sl 4)]) uYes (uIn false (uVar 4) (uFrz (uCall F (uaCons (uVar 0) (uaCons (uVar 1) (uaCons (uVar 3) uaNil)))))) [3, 4]) uaNil)) [some (.p (wD b L R)), some m, some (.p (.list (xs.map nI))), none, none]
      = some (.rt (.p (.bool ((xs.zip (turnL xs)).all fun q => decide (q.2 ∈ nextsP L R h q.1)))) [some (.p (wD b L R)), some m, some (.p (.list (xs.map nI))), none, none]) := by
  have hz := zip_round xs hl [some (.p (wD b L R)), some m, some (.p (.list (xs.map nI))), none, none] rfl
  generalize hd0 : PyData.list (xs.map nI) = d0 at hz ⊢
  have hlc := lc_go (env := [some (.p (wD b L R)), some m, some (.p d0), none, none]) (p := .tp [(.sl 3), (.sl 4)]) (t := uYes) (u := uIn false (uVar 4) (uFrz (uCall F (uaCons (uVar 0) (uaCons (uVar 1) (uaCons (uVar 3) uaNil)))))) (vs := [3, 4]) (fun q : Nat × Nat => PyData.tuple [nI q.1, nI q.2]) (fun _ => true) (fun q => M.p (.bool (decide (q.2 ∈ nextsP L R h q.1)))) (xs.zip (turnL xs)) fun q hq => by
    have hm1 : q.1 < L.length := hx _ (List.of_mem_zip hq).1
    have hc := call3 (hF q.1 hm1) (e := [some (.p (wD b L R)), some m, some (.p d0), some (iN q.1), some (iN q.2)]) (k := 3) rfl rfl rfl (by decide)
    have hf : frz (.l ((nextsP L R h q.1).map iN)) = some (.list ((nextsP L R h q.1).map nI)) := by
      have := frzL_map ((nextsP L R h q.1).map nI)
      rw [List.map_map] at this
      show (frzL ((nextsP L R h q.1).map iN)).map _ = _
      rw [show frzL ((nextsP L R h q.1).map iN) = some ((nextsP L R h q.1).map nI) from this]
      rfl
    have hc2 := frz_ok hc hf
    have hin := inM_nat (y := q.2) (zs := nextsP L R h q.1) fun z hz => by have := nextsP_lt O hz; have := O.ll; omega
    refine ⟨[some (.p (wD b L R)), some m, some (.p d0), some (iN q.1), some (iN q.2)], [some (.p (wD b L R)), some m, some (.p d0), some (iN q.1), some (iN q.2)], by simp [asg, asgL, tupE], rfl, fun _ => ⟨(.tmp (.p (.bool (decide (q.2 ∈ nextsP L R h q.1)))), [some (.p (wD b L R)), some m, some (.p d0), some (iN q.1), some (iN q.2)]), _, ?_, rfl, by simp [wipeE]⟩, fun z => by cases z⟩
    generalize uFrz _ = U at hc2 ⊢
    generalize PyData.list ((nextsP L R h q.1).map nI) = dn at hc2 hin
    simp [uIn, uVar, hc2, rd, hin]
  rw [List.filter_eq_self.mpr (fun _ _ => rfl)] at hlc
  have hc := lc_to hz (by rw [List.length_map, List.length_zip]; omega) rfl rfl hlc (e3 := [some (.p (wD b L R)), some m, some (.p d0), none, none]) rfl
  have ha := (by
    have h2 := bls_map' (fun q : Nat × Nat => decide (q.2 ∈ nextsP L R h q.1)) (xs.zip (turnL xs))
    exact h2 : fAll [.l ((xs.zip (turnL xs)).map fun q => M.p (.bool (decide (q.2 ∈ nextsP L R h q.1))))] = some (.p (.bool ((xs.zip (turnL xs)).all fun q => decide (q.2 ∈ nextsP L R h q.1)))))
  generalize uLc _ _ _ _ _ = U at hc ⊢
  generalize (xs.zip (turnL xs)).map (fun q => M.p (.bool (decide (q.2 ∈ nextsP L R h q.1)))) = ms at hc ha
  simp [sRet, uFun, uaCons, uaNil, hc, rdL, rd, ha, mv]
end
end Hc

/-! rings shown -/
namespace Hc
open PySem PySem.Spec PyProof.Rows L2 G
section
variable {n : Nat} {L : List (Nat × Nat)} {R : List (List Nat)} {h : List (Option Nat)} {b : Bool} {m : M}
def isIn : PyData → Bool
  | .int _ => true
  | _ => false
theorem num_ok {d : PyData} (h : noS d = true) : D_is_number [.p d] = some (.p (.bool (isIn d)), [some (.p d)]) := by
  cases d with
  | dict _ => simp [noS] at h
  | _ => simp [D_is_number, fnOf, m_is_number, padE, outsOf, stE_eq, sRet, uAndV, uNotV, uIsi, uVar, rd, tyM, tyD, isT, truM, mv, isIn]
theorem lcB {u : U} {w m : M} {ds : List PyData} {t : List (Option M)} (c : PyData → Bool) (hl : ds.length ≤ 1000) (hu : ∀ x, x ∈ ds → u (some w :: some m :: some (.p (.list ds)) :: some (.p x) :: t) = some (.tmp (.p (.bool (c x))), some w :: some m :: some (.p (.list ds)) :: some (.p x) :: t)) :
    uLc (uiSeq (uVar 2)) (.sl 3) uYes u [3] (some w :: some m :: some (.p (.list ds)) :: none :: t) = some (.tmp (.l (ds.map fun x => .p (.bool (c x)))), some w :: some m :: some (.p (.list ds)) :: none :: t) := by
  have i1 : uiSeq (uVar 2) (some w :: some m :: some (.p (.list ds)) :: none :: t) = some (ds, some w :: some m :: some (.p (.list ds)) :: none :: t) := by
    simp [uiSeq, uVar, G.take, takeS, frz, seqD_ll]
  have l1 := lc_go (env := some w :: some m :: some (.p (.list ds)) :: none :: t) (p := .sl 3) (t := uYes) (u := u) (vs := [3]) (fun d : PyData => d) (fun _ => true) (fun x => .p (.bool (c x))) ds fun x hx =>
    ⟨some w :: some m :: some (.p (.list ds)) :: some (.p x) :: t, some w :: some m :: some (.p (.list ds)) :: some (.p x) :: t, by simp [asg], rfl, fun _ => ⟨_, _, hu x hx, rfl, by simp [wipeE]⟩, fun z => by cases z⟩
  rw [List.map_id', List.filter_eq_self.mpr (fun _ _ => rfl)] at l1
  exact lc_to i1 hl rfl rfl l1 rfl
theorem allU {U : U} {α : Type} {c : α → Bool} {xs : List α} {e : G.Env} (hU : U e = some (.tmp (.l (xs.map fun x => .p (.bool (c x)))), e)) : uTru (uFun fAll (uaCons U uaNil)) e = some (xs.all c, e) := by
  have ha := bls_map' c xs
  generalize xs.map (fun x => M.p (.bool (c x))) = ms at hU ha
  simp [uTru, uFun, uaCons, uaNil, hU, rdL, rd, ha, truM]
theorem anyU {U : U} {α : Type} {c : α → Bool} {xs : List α} {e : G.Env} (hU : U e = some (.tmp (.l (xs.map fun x => .p (.bool (c x)))), e)) : uTru (uFun fAny (uaCons U uaNil)) e = some (xs.any c, e) := by
  have ha := any_map' c xs
  generalize xs.map (fun x => M.p (.bool (c x))) = ms at hU ha
  simp [uTru, uFun, uaCons, uaNil, hU, rdL, rd, ha, truM]
theorem or_t {t u : UT} {e e' : G.Env} (h : t e = some (true, e')) : uOr t u e = some (true, e') := by simp [uOr, h]
theorem or_f {t u : UT} {e e' : G.Env} (h : t e = some (false, e')) : uOr t u e = u e' := by simp [uOr, h]
theorem not_go {t : UT} {e e' : G.Env} {k : Bool} (h : t e = some (k, e')) : uNot t e = some (!k, e') := by simp [uNot, h]
def isLd : PyData → Bool
  | .list _ => true
  | _ => false
theorem isl_ok {e : G.Env} {i : Nat} {d : PyData} (h : e[i]? = some (some (.p d))) (k : Bool) (hk : isLd d = k) : uTru (uIsi [.lst] (uVar i)) e = some (k, e) := by
  subst hk
  cases d <;> simp [uTru, uIsi, uVar, h, rd, tyM, tyD, isT, truM, isLd]
theorem len_lt2 {e : G.Env} {ds : List PyData} (h : e[2]? = some (some (.p (.list ds)))) : uTruB (uBin fLt (uFun fLen (uaCons (uVar 2) uaNil)) (uC (.int 2))) e = some (!decide (2 ≤ ds.length), e) := by
  have hl : lenM (.p (.list ds)) = some ds.length := rfl
  simp [uTruB, uBin, uFun, uaCons, uaNil, uVar, h, rdL, rd, fLen, hl, uC, lift2, frz, iB]
  by_cases q : ds.length < 2
  · rw [decide_eq_true (show (ds.length : Int) < 2 by omega), decide_eq_false (show ¬ 2 ≤ ds.length by omega)]; rfl
  · rw [decide_eq_false (show ¬ (ds.length : Int) < 2 by omega), decide_eq_true (show 2 ≤ ds.length by omega)]; rfl
theorem intsOf_nat : ∀ xs : List Nat, intsOf (xs.map nI) = some (xs.map fun (i : Nat) => (i : Int))
  | [] => rfl
  | x :: xs => by simp [intsOf, intsOf_nat xs]
theorem lens_ne {e : G.Env} {xs : List Nat} (hl : xs.length < 1000) (h : e[2]? = some (some (.p (.list (xs.map nI))))) : uTruB (uBin (lift2 dNe) (uLenSet (uVar 2)) (uFun fLen (uaCons (uVar 2) uaNil))) e = some (!decide ((ddI (xs.map fun (i : Nat) => (i : Int))).length = xs.length), e) := by
  have h1 := intsOf_nat xs
  have h2 : (xs.map fun (i : Nat) => (i : Int)).length < 1000 := by rw [List.length_map]; exact hl
  have h3 : lenM (.p (.list (xs.map nI))) = some xs.length := by show some (xs.map nI).length = _; rw [List.length_map]
  generalize (xs.map fun (i : Nat) => (i : Int)) = ns at h1 h2 ⊢
  generalize xs.map nI = ds at h h1 h3
  simp [uTruB, uBin, uLenSet, uFun, uaCons, uaNil, uVar, h, rdL, rd, lsM, h1, h2, fLen, h3, lift2, frz, dNe_int]
  by_cases q : (ddI ns).length = xs.length
  · simp [q]
  · have : ¬ ((ddI ns).length : Int) = xs.length := by omega
    simp [q, this]
theorem len_w0 {e : G.Env} (h0 : e[0]? = some (some (.p (wD b L R)))) : uFun fLen (uaCons (uItem (uVar 0) (uC (.int 0))) uaNil) e = some (.tmp (.p (nI L.length)), e) := by
  have hl : lenM (.p (sq b (L.map fun p => sq b [nI p.1, nI p.2]))) = some L.length := by rw [lenM_sq, List.length_map]
  simp [uFun, uaCons, uaNil, uItem, uVar, uC, h0, rd, rdL, isD_w, itemI, item_w0, giveM, fLen, hl]
theorem chn_go {u : U} {e : G.Env} {i : Int} {k : Nat} (h3 : e[3]? = some (some (.p (.int i)))) (hu : u e = some (.tmp (.p (nI k)), e)) : uChn dLe dLt (uC (.int 0)) (uVar 3) u e = some (.tmp (.p (.bool (decide (0 ≤ i ∧ i < k)))), e) := by
  by_cases q : 0 ≤ i
  · by_cases q2 : i < (k : Int)
    · simp [uChn, uC, uVar, h3, rdD, rd, frz, iB, hu, q, q2]
    · simp [uChn, uC, uVar, h3, rdD, rd, frz, iB, hu, q, q2]
  · simp [uChn, uC, uVar, h3, rdD, rd, frz, iB, hu, q]
theorem ringD_no {d : PyData} (hd : isLd d = false) : ringD L R h d = false := by
  cases d <;> first | rfl | cases hd
/-- its parts may be asked of -/
def Pl (d : PyData) : Prop := ∀ ds, d = .list ds → ds.length ≤ 500 ∧ ∀ x, x ∈ ds → noS x = true
theorem shows_ok (O : Ok n L R) (H : Hd L h) (hm : Rp h m) {d : PyData} (hd : Pl d) : D_shows_ring [.p (wD b L R), m, .p d] = some (.p (.bool (ringD L R h d)), [some (.p (wD b L R)), some m, some (.p d)]) := by
  refine fn_go (n := 5) (k := 3) (np := 3) (f := m_shows_ring) (ms := [.p (wD b L R), m, .p d]) (Eq.refl 3) (e := [some (.p (wD b L R)), some m, some (.p d), none, none]) ?_
  show m_shows_ring [some (.p (wD b L R)), some m, some (.p d), none, none] = _
  unfold m_shows_ring
  by_cases hls : ∃ ds, d = .list ds
  rotate_left
  · have hk : isLd d = false := by
      cases d with
      | list ds => exact absurd ⟨ds, rfl⟩ hls
      | _ => rfl
    have c := not_go (isl_ok (e := [some (.p (wD b L R)), some m, some (.p d), none, none]) (i := 2) rfl false hk)
    rw [seq_ret ((if_true (or_t c)).trans rfl), ringD_no hk]
  obtain ⟨ds, rfl⟩ := hls
  obtain ⟨hdl, hds⟩ := hd ds rfl
  have c0 := not_go (isl_ok (e := [some (.p (wD b L R)), some m, some (.p (.list ds)), none, none]) (i := 2) rfl true rfl)
  have c1 := len_lt2 (e := [some (.p (wD b L R)), some m, some (.p (.list ds)), none, none]) (ds := ds) rfl
  have c2 := allU (lcB (w := .p (wD b L R)) (m := m) (t := [none]) (u := uCall D_is_number (uaCons (uVar 3) uaNil)) isIn (ds := ds) (by omega) fun x hx => by
    have hn := num_ok (hds x hx)
    simp [uCall, uaCons, uaNil, uVar, passL, passOp, hn, backL, stM_eq])
  have c2 := not_go c2
  by_cases q2 : 2 ≤ ds.length
  rotate_left
  · rw [decide_eq_false q2] at c1
    rw [seq_ret ((if_true ((or_f c0).trans (or_t c1))).trans rfl)]
    have : ringD L R h (.list ds) = false := by
      cases ha : ds.all (okI L.length) with
      | false => simp [ringD, ha]
      | true =>
        have := congrArg List.length (nums_eq ds ha).1
        rw [List.length_map] at this
        have z : ¬ 2 ≤ (numsOf ds).length := by omega
        simp [ringD, ringP, z]
    rw [this]
  rw [decide_eq_true q2] at c1
  cases hall : ds.all isIn with
  | false =>
    rw [hall] at c2
    rw [seq_ret ((if_true ((or_f c0).trans ((or_f c1).trans c2))).trans rfl)]
    have : ds.all (okI L.length) = false := by
      obtain ⟨x, hx, hxf⟩ := List.all_eq_false.mp hall
      refine List.all_eq_false.mpr ⟨x, hx, ?_⟩
      cases x <;> simp_all [okI, isIn]
    simp [ringD, this]
  | true =>
    rw [hall] at c2
    have hint : ∀ x, x ∈ ds → ∃ i : Int, x = .int i := fun x hx => by
      have := List.all_eq_true.mp hall x hx
      cases x <;> first | exact ⟨_, rfl⟩ | cases this
    have c3 := not_go (allU (lcB (w := .p (wD b L R)) (m := m) (t := [none]) (u := uChn dLe dLt (uC (.int 0)) (uVar 3) (uFun fLen (uaCons (uItem (uVar 0) (uC (.int 0))) uaNil))) (okI L.length) (ds := ds) (by omega) fun x hx => by
      obtain ⟨i, rfl⟩ := hint x hx
      exact chn_go rfl (len_w0 rfl)))
    rw [seq_go ((if_false ((or_f c0).trans ((or_f c1).trans c2))).trans rfl)]
    cases hr : ds.all (okI L.length) with
    | false =>
      rw [hr] at c3
      rw [seq_ret ((if_true (or_t c3)).trans rfl)]
      simp [ringD, hr]
    | true =>
      rw [hr] at c3
      obtain ⟨he, hlt⟩ := nums_eq ds hr
      generalize hxs : numsOf ds = xs at he hlt
      have hxl : xs.length = ds.length := by rw [he, List.length_map]
      have hrd : ringD L R h (.list ds) = ringP L R h xs := by simp [ringD, hr, hxs]
      rw [hrd]
      clear hxs hint hall hrd c2 c0 c1 hr
      subst he
      have c4 := lens_ne (e := [some (.p (wD b L R)), some m, some (.p (.list (xs.map nI))), none, none]) (xs := xs) (by omega) rfl
      have c5 := round_ok (b := b) (F := D_nexts) O H hm hlt (by omega) fun i hi => nexts_ok O H hm hi
      cases hdd : decide ((ddI (xs.map fun (i : Nat) => (i : Int))).length = xs.length) with
      | false =>
        rw [hdd] at c4
        rw [seq_ret ((if_true ((or_f c3).trans c4)).trans rfl)]
        simp [ringP, hdd]
      | true =>
        rw [hdd] at c4
        rw [seq_go ((if_false ((or_f c3).trans c4)).trans rfl), c5]
        have z : decide (2 ≤ xs.length) = true := decide_eq_true (by omega)
        unfold ringP
        rw [z, hdd, Bool.true_and, Bool.true_and]
theorem isring_ok (O : Ok n L R) (H : Hd L h) (hm : Rp h m) {xs : List Nat} (hlt : ∀ i, i ∈ xs → i < L.length) (hxl : xs.length ≤ 500) : D_law_is_ring [.p (wD b L R), m, .p (.list (xs.map nI))] = some (.p (.bool (ringP L R h xs)), [some (.p (wD b L R)), some m, some (.p (.list (xs.map nI)))]) := by
  refine fn_go (n := 5) (k := 3) (np := 3) (f := m_law_is_ring) (ms := [.p (wD b L R), m, .p (.list (xs.map nI))]) (Eq.refl 3) (e := [some (.p (wD b L R)), some m, some (.p (.list (xs.map nI))), none, none]) ?_
  show m_law_is_ring [some (.p (wD b L R)), some m, some (.p (.list (xs.map nI))), none, none] = _
  unfold m_law_is_ring
  have c1 := len_lt2 (e := [some (.p (wD b L R)), some m, some (.p (.list (xs.map nI))), none, none]) (ds := xs.map nI) rfl
  have c4 := lens_ne (e := [some (.p (wD b L R)), some m, some (.p (.list (xs.map nI))), none, none]) (xs := xs) (by omega) rfl
  have c5 := round_ok (b := b) (F := D_law_after) O H hm hlt (by omega) fun i hi => after_ok O H hm hi
  rw [List.length_map] at c1
  unfold ringP
  cases h2 : decide (2 ≤ xs.length) with
  | false =>
    rw [h2] at c1
    rw [seq_ret ((if_true (or_t c1)).trans rfl), Bool.false_and]
  | true =>
    rw [h2] at c1
    cases hdd : decide ((ddI (xs.map fun (i : Nat) => (i : Int))).length = xs.length) with
    | false =>
      rw [hdd] at c4
      rw [seq_ret ((if_true ((or_f c1).trans c4)).trans rfl), Bool.false_and, Bool.and_false]
    | true =>
      rw [hdd] at c4
      rw [seq_go ((if_false ((or_f c1).trans c4)).trans rfl), c5, Bool.true_and, Bool.true_and]
theorem len_s {e : G.Env} (H : Hd L h) (hm : Rp h m) (h1 : e[1]? = some (some m)) : uFun fLen (uaCons (uVar 1) uaNil) e = some (.tmp (.p (nI L.length)), e) := by
  have hl := rp_len hm
  rw [H.len] at hl
  simp [uFun, uaCons, uaNil, uVar, h1, rd, rdL, fLen, hl]
theorem due_ok (O : Ok n L R) (H : Hd L h) (hm : Rp h m) {d : PyData} (hd : Pl d) : D_law_due [.p (wD b L R), m, .p d] = some (.p (.bool (ringD L R h d)), [some (.p (wD b L R)), some m, some (.p d)]) := by
  refine fn_go (n := 4) (k := 3) (np := 3) (f := m_law_due) (ms := [.p (wD b L R), m, .p d]) (Eq.refl 3) (e := [some (.p (wD b L R)), some m, some (.p d), none]) ?_
  show m_law_due [some (.p (wD b L R)), some m, some (.p d), none] = _
  unfold m_law_due
  by_cases hls : ∃ ds, d = .list ds
  rotate_left
  · have hk : isLd d = false := by
      cases d with
      | list ds => exact absurd ⟨ds, rfl⟩ hls
      | _ => rfl
    have c := not_go (isl_ok (e := [some (.p (wD b L R)), some m, some (.p d), none]) (i := 2) rfl false hk)
    rw [seq_ret ((if_true c).trans rfl), ringD_no hk]
  obtain ⟨ds, rfl⟩ := hls
  obtain ⟨hdl, hds⟩ := hd ds rfl
  have c0 := not_go (isl_ok (e := [some (.p (wD b L R)), some m, some (.p (.list ds)), none]) (i := 2) rfl true rfl)
  rw [seq_go ((if_false c0).trans rfl)]
  have c1 := anyU (lcB (w := .p (wD b L R)) (m := m) (t := []) (u := uOrV (uNotV (uIsi [.int] (uVar 3))) (uOrV (uIsi [.bl] (uVar 3)) (uNotV (uChn dLe dLt (uC (.int 0)) (uVar 3) (uFun fLen (uaCons (uVar 1) uaNil)))))) (fun x => !okI L.length x) (ds := ds) (by omega) fun x hx => by
    have hnS := hds x hx
    have hl := len_s (e := [some (.p (wD b L R)), some m, some (.p (.list ds)), some (.p x)]) H hm rfl
    cases x with
    | int i =>
      have hc := chn_go (i := i) (e := [some (.p (wD b L R)), some m, some (.p (.list ds)), some (.p (.int i))]) rfl hl
      generalize uChn _ _ _ _ _ = U at hc ⊢
      simp [uOrV, uNotV, uIsi, uVar, rd, tyM, tyD, isT, truM, hc, okI]
    | dict _ => simp [noS] at hnS
    | _ => simp [uOrV, uNotV, uIsi, uVar, rd, tyM, tyD, isT, truM, okI])
  rw [← List.not_all_eq_any_not] at c1
  cases hr : ds.all (okI L.length) with
  | false =>
    rw [hr] at c1
    rw [seq_ret ((if_true c1).trans rfl)]
    simp [ringD, hr]
  | true =>
    rw [hr] at c1
    rw [seq_go ((if_false c1).trans rfl)]
    obtain ⟨he, hlt⟩ := nums_eq ds hr
    generalize hxs : numsOf ds = xs at he hlt
    have hxl : xs.length = ds.length := by rw [he, List.length_map]
    have hrd : ringD L R h (.list ds) = ringP L R h xs := by simp [ringD, hr, hxs]
    rw [hrd]
    clear hxs hrd c0 c1 hr
    subst he
    exact ret_go (call3 (isring_ok O H hm hlt (by omega)) (k := 2) rfl rfl rfl (by decide))
end
end Hc

/-! rings found: a search layer by layer -/
namespace Hc
open PySem PySem.Spec PyProof.Rows L2 G
/-- one can be led to by one step or more -/
inductive Rch (nx : Nat → List Nat) : Nat → Nat → Prop
  | one {i j : Nat} : j ∈ nx i → Rch nx i j
  | more {i j k : Nat} : Rch nx i j → k ∈ nx j → Rch nx i k
def bf1 (h : Nat) (s : List (Nat × Nat) × List Nat) (l : Nat) : List (Nat × Nat) × List Nat := if (s.1.lookup l).isSome then s else (s.1 ++ [(l, h)], s.2 ++ [l])
def bf2 (nx : Nat → List Nat) (s : List (Nat × Nat) × List Nat) (h : Nat) : List (Nat × Nat) × List Nat := (nx h).foldl (bf1 h) s
def keysA (A : List (Nat × Nat)) : List Nat := A.map fun p => p.1
theorem look_key : ∀ {A : List (Nat × Nat)} {l : Nat}, (A.lookup l).isSome = true ↔ l ∈ keysA A
  | [], l => by simp [keysA]
  | (k, v) :: A, l => by
    unfold List.lookup
    by_cases q : l = k
    · subst q; simp [keysA]
    · have : (l == k) = false := by simpa using q
      rw [this]
      simp only
      rw [look_key (A := A) (l := l)]
      simp [keysA, q]
theorem look_some : ∀ {A : List (Nat × Nat)} {l v : Nat}, A.lookup l = some v → ∃ t : Nat, A[t]? = some (l, v)
  | [], l, v, h => by cases h
  | (k, w) :: A, l, v, h => by
    unfold List.lookup at h
    by_cases q : l = k
    · subst q
      simp at h
      exact ⟨0, by rw [h]; rfl⟩
    · have : (l == k) = false := by simpa using q
      rw [this] at h
      obtain ⟨t, ht⟩ := look_some (A := A) h
      exact ⟨t + 1, ht⟩
theorem nd_len : ∀ (N : Nat) (xs : List Nat), xs.Nodup → (∀ x, x ∈ xs → x < N) → xs.length ≤ N
  | 0, xs, _, h => by
    cases xs with
    | nil => exact Nat.le_refl _
    | cons x _ => exact absurd (h x (List.mem_cons_self ..)) (by omega)
  | N + 1, xs, nd, h => by
    have ih := nd_len N (xs.erase N) (nd.erase N) fun x hx => by
      have := (nd.mem_erase_iff).mp hx
      have := h x this.2
      omega
    have := List.length_erase (a := N) (l := xs)
    split at this <;> omega
structure Inv (nx : Nat → List Nat) (N i : Nat) (A : List (Nat × Nat)) (W : Nat → Prop) : Prop where
  nd : (keysA A).Nodup
  lt : ∀ p, p ∈ A → p.1 < N ∧ p.2 < N
  par : ∀ (t : Nat) (p : Nat × Nat), A[t]? = some p → p.1 ∈ nx p.2 ∧ (p.2 = i ∨ ∃ (t' q : Nat), t' < t ∧ A[t']? = some (p.2, q))
  cls : ∀ x, (x = i ∨ x ∈ keysA A) → W x ∨ ∀ y, y ∈ nx x → y ∈ keysA A
theorem mem_keys {A : List (Nat × Nat)} {x : Nat} : x ∈ keysA A ↔ ∃ (t q : Nat), A[t]? = some (x, q) := by
  constructor
  · intro h
    obtain ⟨p, hp, rfl⟩ := List.mem_map.mp h
    obtain ⟨t, ht, e⟩ := List.mem_iff_getElem.mp hp
    exact ⟨t, p.2, by rw [List.getElem?_eq_getElem ht, e]⟩
  · rintro ⟨t, q, h⟩
    exact List.mem_map.mpr ⟨(x, q), List.mem_of_getElem? h, rfl⟩
structure SI (nx : Nat → List Nat) (N i : Nat) (B : Nat → Prop) (s : List (Nat × Nat) × List Nat) : Prop where
  inv : Inv nx N i s.1 (fun x => B x ∨ x ∈ s.2)
  lat : ∀ x, x ∈ s.2 → x ∈ keysA s.1
theorem keys_app (A : List (Nat × Nat)) (p : Nat × Nat) : keysA (A ++ [p]) = keysA A ++ [p.1] := by simp [keysA]
theorem bf1_si {nx : Nat → List Nat} {N i : Nat} {B : Nat → Prop} {s : List (Nat × Nat) × List Nat} {h l : Nat} (S : SI nx N i B s) (hh : h = i ∨ h ∈ keysA s.1) (hN : h < N) (hl : l ∈ nx h) (hlN : l < N) :
    SI nx N i B (bf1 h s l) ∧ l ∈ keysA (bf1 h s l).1 ∧ (∀ x, x ∈ keysA s.1 → x ∈ keysA (bf1 h s l).1) := by
  unfold bf1
  by_cases q : (s.1.lookup l).isSome = true
  · rw [if_pos q]
    exact ⟨S, look_key.mp q, fun x hx => hx⟩
  · rw [if_neg q]
    have hn : l ∉ keysA s.1 := fun z => q (look_key.mpr z)
    have I := S.inv
    refine ⟨⟨⟨?_, ?_, ?_, ?_⟩, ?_⟩, ?_, ?_⟩
    · show (keysA (s.1 ++ [(l, h)])).Nodup
      rw [keys_app]
      refine List.nodup_append.mpr ⟨I.nd, by simp, fun a ha b hb => ?_⟩
      rw [List.mem_singleton.mp hb]
      rintro rfl
      exact hn ha
    · intro p hp
      rcases List.mem_append.mp hp with z | z
      · exact I.lt p z
      · rw [List.mem_singleton.mp z]; exact ⟨hlN, hN⟩
    · intro t p hp
      show p.1 ∈ nx p.2 ∧ (p.2 = i ∨ ∃ (t' q : Nat), t' < t ∧ (s.1 ++ [(l, h)])[t']? = some (p.2, q))
      by_cases ht : t < s.1.length
      · rw [List.getElem?_append_left ht] at hp
        obtain ⟨h1, h2⟩ := I.par t p hp
        refine ⟨h1, ?_⟩
        rcases h2 with z | ⟨t', q', z1, z2⟩
        · exact .inl z
        · exact .inr ⟨t', q', z1, by rw [List.getElem?_append_left (by omega)]; exact z2⟩
      · have ht2 : t = s.1.length := by
          have := (List.getElem?_eq_some_iff.mp hp).1
          simp at this
          omega
        rw [ht2, List.getElem?_append_right (Nat.le_refl _), Nat.sub_self] at hp
        cases hp
        refine ⟨hl, ?_⟩
        rcases hh with z | z
        · exact .inl z
        · obtain ⟨t', q', z⟩ := mem_keys.mp z
          have zl := (List.getElem?_eq_some_iff.mp z).1
          exact .inr ⟨t', q', by omega, by rw [List.getElem?_append_left zl]; exact z⟩
    · intro x hx
      show (B x ∨ x ∈ s.2 ++ [l]) ∨ ∀ y, y ∈ nx x → y ∈ keysA (s.1 ++ [(l, h)])
      have hx : x = i ∨ x ∈ keysA (s.1 ++ [(l, h)]) := hx
      rw [keys_app] at hx ⊢
      have old : ∀ z, (z = i ∨ z ∈ keysA s.1) → (B z ∨ z ∈ s.2 ++ [l]) ∨ ∀ y, y ∈ nx z → y ∈ keysA s.1 ++ [l] := fun z hz => by
        rcases I.cls z hz with w | w
        · rcases w with w | w
          · exact .inl (.inl w)
          · exact .inl (.inr (List.mem_append.mpr (.inl w)))
        · exact .inr fun y hy => List.mem_append.mpr (.inl (w y hy))
      rcases hx with z | z
      · exact old x (.inl z)
      · rcases List.mem_append.mp z with z | z
        · exact old x (.inr z)
        · exact .inl (.inr (List.mem_append.mpr (.inr z)))
    · intro x hx
      show x ∈ keysA (s.1 ++ [(l, h)])
      rw [keys_app]
      rcases List.mem_append.mp hx with z | z
      · exact List.mem_append.mpr (.inl (S.lat x z))
      · exact List.mem_append.mpr (.inr z)
    · show l ∈ keysA (s.1 ++ [(l, h)])
      rw [keys_app]
      exact List.mem_append.mpr (.inr (List.mem_singleton.mpr rfl))
    · intro x hx
      show x ∈ keysA (s.1 ++ [(l, h)])
      rw [keys_app]
      exact List.mem_append.mpr (.inl hx)
theorem bf1_len {h l c : Nat} {s : List (Nat × Nat) × List Nat} (e : s.1.length = c + s.2.length) : (bf1 h s l).1.length = c + (bf1 h s l).2.length := by
  unfold bf1
  split
  · exact e
  · simp; omega
theorem fold_si {nx : Nat → List Nat} {N i : Nat} {B : Nat → Prop} {h c : Nat} (hN : h < N) (hx : ∀ a, a < N → ∀ b, b ∈ nx a → b < N) : ∀ (ls : List Nat) (s : List (Nat × Nat) × List Nat), SI nx N i B s → (h = i ∨ h ∈ keysA s.1) → (∀ l, l ∈ ls → l ∈ nx h) → s.1.length = c + s.2.length →
    SI nx N i B (ls.foldl (bf1 h) s) ∧ (∀ l, l ∈ ls → l ∈ keysA (ls.foldl (bf1 h) s).1) ∧ (∀ x, x ∈ keysA s.1 → x ∈ keysA (ls.foldl (bf1 h) s).1) ∧ (ls.foldl (bf1 h) s).1.length = c + (ls.foldl (bf1 h) s).2.length
  | [], s, S, hh, hl, e => by
    refine ⟨S, ?_, ?_, e⟩
    · intro l z
      cases z
    · intro x hx
      exact hx
  | l :: ls, s, S, hh, hl, e => by
    have hl0 := hl l (List.mem_cons_self ..)
    obtain ⟨S1, m1, k1⟩ := bf1_si S hh hN hl0 (hx h hN l hl0)
    obtain ⟨S2, m2, k2, e2⟩ := fold_si hN hx ls (bf1 h s l) S1 (hh.imp id (k1 h)) (fun y hy => hl y (List.mem_cons_of_mem _ hy)) (bf1_len e)
    exact ⟨S2, fun y hy => by
      rcases List.mem_cons.mp hy with rfl | hy
      · exact k2 _ m1
      · exact m2 y hy, fun x hx => k2 x (k1 x hx), e2⟩
theorem lay_si {nx : Nat → List Nat} {N i c : Nat} (hx : ∀ a, a < N → ∀ b, b ∈ nx a → b < N) : ∀ (xs : List Nat) (s : List (Nat × Nat) × List Nat), SI nx N i (fun x => x ∈ xs) s → (∀ x, x ∈ xs → (x = i ∨ x ∈ keysA s.1) ∧ x < N) → s.1.length = c + s.2.length →
    SI nx N i (fun _ => False) (xs.foldl (bf2 nx) s) ∧ (xs.foldl (bf2 nx) s).1.length = c + (xs.foldl (bf2 nx) s).2.length
  | [], s, S, hh, e => ⟨⟨⟨S.inv.nd, S.inv.lt, S.inv.par, fun x hx => (S.inv.cls x hx).imp (fun z => z.imp (fun z => by cases z) id) id⟩, S.lat⟩, e⟩
  | h :: xs, s, S, hh, e => by
    obtain ⟨h1, h2⟩ := hh h (List.mem_cons_self ..)
    obtain ⟨S1, m1, k1, e1⟩ := fold_si h2 hx (nx h) s S h1 (fun l hl => hl) e
    have S2 : SI nx N i (fun x => x ∈ xs) ((nx h).foldl (bf1 h) s) := ⟨⟨S1.inv.nd, S1.inv.lt, S1.inv.par, fun x hx => by
      rcases S1.inv.cls x hx with (z | z) | z
      · rcases List.mem_cons.mp z with rfl | z
        · exact .inr m1
        · exact .inl (.inl z)
      · exact .inl (.inr z)
      · exact .inr z⟩, S1.lat⟩
    exact lay_si hx xs ((nx h).foldl (bf1 h) s) S2 (fun x hx => ⟨((hh x (List.mem_cons_of_mem _ hx)).1).imp id (k1 x), (hh x (List.mem_cons_of_mem _ hx)).2⟩) e1
/-- what stands when a layer is done, and the next is to be gone through -/
structure Bf (nx : Nat → List Nat) (N i : Nat) (A : List (Nat × Nat)) (xs : List Nat) : Prop where
  inv : Inv nx N i A (fun x => x ∈ xs)
  lay : ∀ x, x ∈ xs → (x = i ∨ x ∈ keysA A) ∧ x < N
theorem Bf.len {nx : Nat → List Nat} {N i : Nat} {A : List (Nat × Nat)} {xs : List Nat} (b : Bf nx N i A xs) : A.length ≤ N := by
  have := nd_len N (keysA A) b.inv.nd fun x hx => by
    obtain ⟨p, hp, rfl⟩ := List.mem_map.mp hx
    exact (b.inv.lt p hp).1
  rwa [keysA, List.length_map] at this
theorem bf_start (nx : Nat → List Nat) {N i : Nat} (hi : i < N) : Bf nx N i [] [i] := by
  refine ⟨⟨List.nodup_nil, ?_, ?_, ?_⟩, ?_⟩
  · intro p hp
    cases hp
  · intro t p hp
    rw [List.getElem?_nil] at hp
    cases hp
  · intro x hx
    rcases hx with rfl | z
    · exact .inl (List.mem_singleton.mpr rfl)
    · cases z
  · intro x hx
    rw [List.mem_singleton.mp hx]
    exact ⟨.inl rfl, hi⟩
theorem bf_step {nx : Nat → List Nat} {N i : Nat} (hx : ∀ a, a < N → ∀ b, b ∈ nx a → b < N) {A : List (Nat × Nat)} {xs : List Nat} (b : Bf nx N i A xs) : Bf nx N i (xs.foldl (bf2 nx) (A, [])).1 (xs.foldl (bf2 nx) (A, [])).2 ∧ (xs.foldl (bf2 nx) (A, [])).1.length = A.length + (xs.foldl (bf2 nx) (A, [])).2.length := by
  have S : SI nx N i (fun x => x ∈ xs) (A, []) := ⟨⟨b.inv.nd, b.inv.lt, b.inv.par, fun x hx => (b.inv.cls x hx).imp .inl id⟩, fun x hx => by cases hx⟩
  obtain ⟨S1, e1⟩ := lay_si (c := A.length) hx xs (A, []) S b.lay rfl
  refine ⟨⟨⟨S1.inv.nd, S1.inv.lt, S1.inv.par, fun x hx => (S1.inv.cls x hx).imp (fun z => z.elim (fun f => f.elim) id) id⟩, fun x hx => ⟨.inr (S1.lat x hx), ?_⟩⟩, e1⟩
  obtain ⟨p, hp, rfl⟩ := List.mem_map.mp (S1.lat x hx)
  exact (S1.inv.lt p hp).1
theorem bf_end {nx : Nat → List Nat} {N i : Nat} {A : List (Nat × Nat)} (b : Bf nx N i A []) (j : Nat) : j ∈ keysA A ↔ Rch nx i j := by
  constructor
  · intro h
    obtain ⟨t, q, ht⟩ := mem_keys.mp h
    have key : ∀ (n t q j : Nat), t < n → A[t]? = some (j, q) → Rch nx i j := by
      intro n
      induction n with
      | zero => intro t q j h; omega
      | succ n ih =>
        intro t q j h ht
        obtain ⟨h1, h2⟩ := b.inv.par t _ ht
        rcases h2 with z | ⟨t', q', z1, z2⟩
        · have z : q = i := z
          subst z
          exact .one h1
        · exact .more (ih t' q' q (by omega) z2) h1
    exact key (t + 1) t q j (by omega) ht
  · intro h
    induction h with
    | one h => exact (b.inv.cls i (.inl rfl)).elim (fun z => by cases z) fun z => z _ h
    | more _ h ih => exact (b.inv.cls _ (.inr ih)).elim (fun z => by cases z) fun z => z _ h
end Hc

/-! rings found: the program's search -/
namespace Hc
open PySem PySem.Spec PyProof.Rows L2 G
def aKs (N : Nat) : List Key := (List.range N).map fun (i : Nat) => .inl (i : Int)
def aDs (nx : Nat → List Nat) (N : Nat) : List PyData := (List.range N).map fun (i : Nat) => .list ((nx i).map nI)
def aM (nx : Nat → List Nat) (N : Nat) : M := .fk (aKs N) (aDs nx N)
def dA (A : List (Nat × Nat)) : M := .dk (A.map fun p => .inl (p.1 : Int)) (A.map fun p => iN p.2)
theorem look_map {α κ : Type} [DecidableEq κ] (f : α → κ) (g : α → M) (inj : ∀ a b, f a = f b → a = b) : ∀ (xs : List α) (x : α), x ∈ xs → lookM (xs.map f) (xs.map g) (f x) = some (g x)
  | [], x, h => by cases h
  | y :: ys, x, h => by
    rw [List.map_cons, List.map_cons, lookM]
    by_cases q : f y = f x
    · rw [if_pos q, inj _ _ q]
    · rw [if_neg q]
      rcases List.mem_cons.mp h with rfl | h
      · exact absurd rfl q
      · exact look_map f g inj ys x h
theorem inl_inj (a b : Nat) (h : (Sum.inl (a : Int) : Key) = .inl (b : Int)) : a = b := by
  have : (a : Int) = b := Sum.inl.inj h
  omega
theorem look_a {nx : Nat → List Nat} {N i : Nat} (hi : i < N) : lookM (aKs N) ((aDs nx N).map .p) (.inl (i : Int)) = some (.p (.list ((nx i).map nI))) := by
  have := look_map (fun i : Nat => (Sum.inl (i : Int) : Key)) (fun i => M.p (.list ((nx i).map nI))) inl_inj (List.range N) i (List.mem_range.mpr hi)
  unfold aKs aDs
  rw [List.map_map]
  exact this
theorem look_A (i : Nat) : ∀ A : List (Nat × Nat), lookM (A.map fun p => (Sum.inl (p.1 : Int) : Key)) (A.map fun p => iN p.2) (.inl (i : Int)) = (A.lookup i).map iN
  | [] => rfl
  | (k, v) :: A => by
    rw [List.map_cons, List.map_cons, lookM]
    unfold List.lookup
    by_cases q : i = k
    · subst q
      simp
    · have h1 : ¬ (Sum.inl (k : Int) : Key) = .inl (i : Int) := fun z => q (inl_inj _ _ z).symm
      have h2 : (i == k) = false := by simpa using q
      rw [if_neg h1, h2]
      exact look_A i A
theorem put_A (i v : Nat) : ∀ A : List (Nat × Nat), A.lookup i = none → putM (A.map fun p => (Sum.inl (p.1 : Int) : Key)) (A.map fun p => iN p.2) (.inl (i : Int)) (iN v) = ((A ++ [(i, v)]).map fun p => (Sum.inl (p.1 : Int) : Key), (A ++ [(i, v)]).map fun p => iN p.2)
  | [], h => rfl
  | (k, w) :: A, h => by
    unfold List.lookup at h
    by_cases q : i = k
    · subst q
      simp at h
    · have h1 : ¬ (Sum.inl (k : Int) : Key) = .inl (i : Int) := fun z => q (inl_inj _ _ z).symm
      have h2 : (i == k) = false := by simpa using q
      rw [h2] at h
      rw [List.map_cons, List.map_cons, putM, if_neg h1, put_A i v A h]
      rfl
abbrev bE8 (a : M) (i : Nat) (A : List (Nat × Nat)) (l4 : List Nat) (o3 o5 o6 o7 : Option M) : G.Env := [some a, some (iN i), some (dA A), o3, some (.l (l4.map iN)), o5, o6, o7]
theorem in_dA {A : List (Nat × Nat)} {l : Nat} : inM (iN l) (dA A) = some (A.lookup l).isSome := by
  show inK (dA A) (iN l) = _
  show (keyD (nI l)).map (fun k => (lookM _ _ k).isSome) = _
  show some (lookM (A.map fun p => (Sum.inl (p.1 : Int) : Key)) (A.map fun p => iN p.2) (.inl (l : Int))).isSome = _
  rw [look_A]
  cases A.lookup l <;> rfl
theorem b2_run {a : M} {i h l : Nat} {s : List (Nat × Nat) × List Nat} (h1 : s.1.length ≤ 9000) (h2 : s.2.length ≤ 9000) (o3 o7 : Option M) :
    m_round_from_b2 (bE8 a i s.1 s.2 o3 (some (iN h)) (some (iN l)) o7) = some (.nx (bE8 a i (bf1 h s l).1 (bf1 h s l).2 o3 (some (iN h)) (some (iN l)) o7)) := by
  have c1 : uTruB (uIn true (uVar 6) (uVar 2)) (bE8 a i s.1 s.2 o3 (some (iN h)) (some (iN l)) o7) = some (!(s.1.lookup l).isSome, bE8 a i s.1 s.2 o3 (some (iN h)) (some (iN l)) o7) := by
    have := in_dA (A := s.1) (l := l)
    unfold bE8
    generalize dA s.1 = dm at this ⊢
    generalize s.2.map iN = lm
    simp [uTruB, uIn, uVar, rd, this]
  unfold m_round_from_b2 bf1
  cases hq : s.1.lookup l with
  | some v =>
    rw [hq] at c1
    rw [if_false c1]
    rfl
  | none =>
    rw [hq] at c1
    have hls : (s.1.map fun p => (Sum.inl (p.1 : Int) : Key)).length < sizeLine := by rw [sizeLine_eq, List.length_map]; omega
    have s1 : sSet 2 (uVar 6) (uVar 5) (bE8 a i s.1 s.2 o3 (some (iN h)) (some (iN l)) o7) = some (.nx (bE8 a i (s.1 ++ [(l, h)]) s.2 o3 (some (iN h)) (some (iN l)) o7)) := by
      have hp := put_A l h s.1 hq
      unfold bE8 dA
      generalize s.2.map iN = lm
      generalize (s.1.map fun p => (Sum.inl (p.1 : Int) : Key)) = ks at hp hls ⊢
      generalize (s.1.map fun p => iN p.2) = vs at hp ⊢
      simp [sSet, sSetL, sPutD, uVar, G.take, takeS, frz, rd, hls, keyD, hp]
    have s2 : sExpr (uApp 4 (uVar 6)) (bE8 a i (s.1 ++ [(l, h)]) s.2 o3 (some (iN h)) (some (iN l)) o7) = some (.nx (bE8 a i (s.1 ++ [(l, h)]) (s.2 ++ [l]) o3 (some (iN h)) (some (iN l)) o7)) := by
      have hl : (s.2.map iN).length < sizeLine := by rw [sizeLine_eq, List.length_map]; omega
      have hap : (s.2 ++ [l]).map iN = s.2.map iN ++ [iN l] := by rw [List.map_append]; rfl
      unfold bE8
      rw [hap]
      generalize dA (s.1 ++ [(l, h)]) = dm
      generalize s.2.map iN = lm at hl ⊢
      simp [sExpr, uApp, uVar, G.take, takeS, frz, hl]
    rw [if_true c1, seq_go s1]
    exact s2
theorem bf1_le (h l : Nat) (s : List (Nat × Nat) × List Nat) : (bf1 h s l).1.length ≤ s.1.length + 1 ∧ (bf1 h s l).2.length ≤ s.2.length + 1 := by
  unfold bf1
  split
  · omega
  · simp
theorem b3_loop {a : M} {i h : Nat} (o3 o7 : Option M) : ∀ (ls : List Nat) (s : List (Nat × Nat) × List Nat) (o6 : Option M), s.1.length + ls.length ≤ 9000 → s.2.length + ls.length ≤ 9000 →
    ∃ o6', forL (.sl 6) m_round_from_b2 (ls.map nI) (bE8 a i s.1 s.2 o3 (some (iN h)) o6 o7) = some (.nx (bE8 a i (ls.foldl (bf1 h) s).1 (ls.foldl (bf1 h) s).2 o3 (some (iN h)) o6' o7))
  | [], s, o6, h1, h2 => ⟨o6, rfl⟩
  | l :: ls, s, o6, h1, h2 => by
    rw [List.length_cons] at h1 h2
    have hb := b2_run (a := a) (i := i) (h := h) (l := l) (s := s) (by omega) (by omega) o3 o7
    have hle := bf1_le h l s
    obtain ⟨o6', ih⟩ := b3_loop o3 o7 ls (bf1 h s l) (some (iN l)) (by omega) (by omega)
    refine ⟨o6', ?_⟩
    have ea : asg (.sl 6) (.p (nI l)) (bE8 a i s.1 s.2 o3 (some (iN h)) o6 o7) = some (bE8 a i s.1 s.2 o3 (some (iN h)) (some (iN l)) o7) := by simp [asg]
    rw [List.map_cons, forL, ea, Option.bind_some, hb, Option.bind_some]
    simp only [stE_eq]
    exact ih
theorem fold_le (h : Nat) : ∀ (ls : List Nat) (s : List (Nat × Nat) × List Nat), (ls.foldl (bf1 h) s).1.length ≤ s.1.length + ls.length ∧ (ls.foldl (bf1 h) s).2.length ≤ s.2.length + ls.length
  | [], s => ⟨Nat.le_refl _, Nat.le_refl _⟩
  | l :: ls, s => by
    have := bf1_le h l s
    have := fold_le h ls (bf1 h s l)
    rw [List.foldl_cons, List.length_cons]
    omega
theorem lay_loop {nx : Nat → List Nat} {N i : Nat} (hx : ∀ a, a < N → (nx a).length ≤ 100) (o3 o7 : Option M) : ∀ (xs : List Nat) (s : List (Nat × Nat) × List Nat) (o5 o6 : Option M), (∀ x, x ∈ xs → x < N) → s.1.length + 100 * xs.length ≤ 9000 → s.2.length + 100 * xs.length ≤ 9000 →
    ∃ o5' o6', forL (.sl 5) m_round_from_b3 (xs.map nI) (bE8 (aM nx N) i s.1 s.2 o3 o5 o6 o7) = some (.nx (bE8 (aM nx N) i (xs.foldl (bf2 nx) s).1 (xs.foldl (bf2 nx) s).2 o3 o5' o6' o7))
  | [], s, o5, o6, hN, h1, h2 => ⟨o5, o6, rfl⟩
  | x :: xs, s, o5, o6, hN, h1, h2 => by
    rw [List.length_cons] at h1 h2
    have hxN := hN x (List.mem_cons_self ..)
    have hxl := hx x hxN
    have hle := fold_le x (nx x) s
    obtain ⟨p6, hb⟩ := b3_loop (a := aM nx N) (i := i) (h := x) o3 o7 (nx x) s o6 (by omega) (by omega)
    obtain ⟨q5, q6, ih⟩ := lay_loop hx o3 o7 xs (bf2 nx s x) (some (iN x)) p6 (fun y hy => hN y (List.mem_cons_of_mem _ hy)) (by unfold bf2; omega) (by unfold bf2; omega)
    refine ⟨q5, q6, ?_⟩
    have ea : asg (.sl 5) (.p (nI x)) (bE8 (aM nx N) i s.1 s.2 o3 o5 o6 o7) = some (bE8 (aM nx N) i s.1 s.2 o3 (some (iN x)) o6 o7) := by simp [asg]
    have it : uiSeq (uItem (uVar 0) (uVar 5)) (bE8 (aM nx N) i s.1 s.2 o3 (some (iN x)) o6 o7) = some ((nx x).map nI, bE8 (aM nx N) i s.1 s.2 o3 (some (iN x)) o6 o7) := by
      have hl : itemD (aM nx N) (iN x) = some (.p (.list ((nx x).map nI))) := by
        show (keyD (nI x)).bind (lookM _ _) = _
        exact look_a hxN
      have hd : isD (aM nx N) = true := rfl
      unfold bE8
      generalize aM nx N = am at hl hd ⊢
      generalize dA s.1 = dm
      generalize s.2.map iN = lm
      generalize (nx x).map nI = ns at hl ⊢
      simp [uiSeq, uItem, uVar, rd, hd, hl, giveM, G.take, frz, seqD_ll]
    have hbody : m_round_from_b3 (bE8 (aM nx N) i s.1 s.2 o3 (some (iN x)) o6 o7) = some (.nx (bE8 (aM nx N) i (bf2 nx s x).1 (bf2 nx s x).2 o3 (some (iN x)) p6 o7)) := (for_go it).trans hb
    rw [List.map_cons, forL, ea, Option.bind_some, hbody, Option.bind_some]
    simp only [stE_eq]
    exact ih
/-- a row of numbers in whatever hand -/
def Nm (xs : List Nat) (m : M) : Prop := m = .l (xs.map iN) ∨ m = .p (.list (xs.map nI))
theorem nm_len {xs : List Nat} {m : M} (h : Nm xs m) : lenM m = some xs.length := by
  rcases h with rfl | rfl
  · show some (xs.map iN).length = _
    rw [List.length_map]
  · show some (xs.map nI).length = _
    rw [List.length_map]
theorem nm_frz {xs : List Nat} {m : M} (h : Nm xs m) : frz m = some (.list (xs.map nI)) := by
  rcases h with rfl | rfl
  · have := frzL_map (xs.map nI)
    rw [List.map_map] at this
    show (frzL (xs.map iN)).map _ = _
    rw [show frzL (xs.map iN) = some (xs.map nI) from this]
    rfl
  · rfl
theorem b4_run {nx : Nat → List Nat} {N i : Nat} (hx : ∀ a, a < N → (nx a).length ≤ 100) {A : List (Nat × Nat)} {xs : List Nat} {m : M} (hm : Nm xs m) (hN : ∀ x, x ∈ xs → x < N) (hA : A.length ≤ 50) (hxs : xs.length ≤ 50) (o4 o5 o6 o7 : Option M) :
    ∃ m' o4' o5' o6', Nm (xs.foldl (bf2 nx) (A, [])).2 m' ∧ m_round_from_b4 [some (aM nx N), some (iN i), some (dA A), some m, o4, o5, o6, o7] = some (.nx [some (aM nx N), some (iN i), some (dA (xs.foldl (bf2 nx) (A, [])).1), some m', o4', o5', o6', o7]) := by
  obtain ⟨p5, p6, hl⟩ := lay_loop (nx := nx) (N := N) (i := i) hx (some (.p (.list (xs.map nI)))) o7 xs (A, []) o5 o6 hN (by simp; omega) (by simp; omega)
  have hf := nm_frz hm
  have s1 : sAsg (.sl 4) (uLst uaNil) [some (aM nx N), some (iN i), some (dA A), some m, o4, o5, o6, o7] = some (.nx [some (aM nx N), some (iN i), some (dA A), some m, some (.l []), o5, o6, o7]) := by
    simp [sAsg, uLst, uaNil, takeL, G.take, asg]
  have it : uiSeq (uVar 3) [some (aM nx N), some (iN i), some (dA A), some m, some (.l []), o5, o6, o7] = some (xs.map nI, bE8 (aM nx N) i A [] (some (.p (.list (xs.map nI)))) o5 o6 o7) := by
    unfold bE8
    generalize aM nx N = am
    generalize dA A = dm
    simp [uiSeq, uVar, G.take, takeS, hf, frz, seqD_ll]
  have s2 := (for_go (p := .sl 5) (body := m_round_from_b3) it).trans hl
  generalize xs.foldl (bf2 nx) (A, []) = s' at s2 ⊢
  have hf2 : frz (.l (s'.2.map iN)) = some (.list (s'.2.map nI)) := nm_frz (.inl rfl)
  refine ⟨.p (.list (s'.2.map nI)), some (.p (.list (s'.2.map nI))), p5, p6, .inr rfl, ?_⟩
  unfold m_round_from_b4
  rw [seq_go s1]
  refine (seq_go s2).trans ?_
  unfold bE8
  generalize aM nx N = am
  generalize dA s'.1 = dm
  generalize s'.2.map iN = lm at hf2 ⊢
  simp [sAsg, uVar, G.take, takeS, hf2, asg]
theorem wh_run {nx : Nat → List Nat} {N i : Nat} (hN : N ≤ 45) (hx : ∀ a, a < N → (nx a).length ≤ 100) (hb : ∀ a, a < N → ∀ b, b ∈ nx a → b < N) : ∀ (k : Nat) (A : List (Nat × Nat)) (xs : List Nat) (m : M) (o4 o5 o6 o7 : Option M) (f : Nat), Bf nx N i A xs → xs.length ≤ 50 → Nm xs m → N + 1 ≤ A.length + k → k < f →
    ∃ A' m' o4' o5' o6', Bf nx N i A' [] ∧ whL (uTruB (uBin fGt (uFun fLen (uaCons (uVar 3) uaNil)) (uC (.int 0)))) m_round_from_b4 f [some (aM nx N), some (iN i), some (dA A), some m, o4, o5, o6, o7] = some (.nx [some (aM nx N), some (iN i), some (dA A'), some m', o4', o5', o6', o7]) := by
  intro k
  induction k with
  | zero =>
    intro A xs m o4 o5 o6 o7 f B hl hm hk hf
    have := B.len
    omega
  | succ k ih =>
    intro A xs m o4 o5 o6 o7 f B hl hm hk hf
    obtain ⟨f, rfl⟩ : ∃ g, f = g + 1 := ⟨f - 1, by omega⟩
    have hlen := nm_len hm
    have c1 : uTruB (uBin fGt (uFun fLen (uaCons (uVar 3) uaNil)) (uC (.int 0))) [some (aM nx N), some (iN i), some (dA A), some m, o4, o5, o6, o7] = some (decide ((0 : Int) < xs.length), [some (aM nx N), some (iN i), some (dA A), some m, o4, o5, o6, o7]) := by
      generalize aM nx N = am
      generalize dA A = dm
      simp [uTruB, uBin, uFun, uaCons, uaNil, uVar, rdL, rd, fLen, hlen, uC, lift2, frz, iB]
    rw [whL, c1, Option.bind_some]
    cases xs with
    | nil =>
      exact ⟨A, m, o4, o5, o6, B, rfl⟩
    | cons x xs =>
      have hpos : decide ((0 : Int) < ((x :: xs).length : Nat)) = true := decide_eq_true (by rw [List.length_cons]; omega)
      rw [hpos]
      simp only [if_true]
      have hlenA := B.len
      obtain ⟨m', p4, p5, p6, hm', hbody⟩ := b4_run (i := i) (A := A) hx hm (fun y hy => (B.lay y hy).2) (by omega) hl o4 o5 o6 o7
      obtain ⟨B', e'⟩ := bf_step hb B
      rw [hbody, Option.bind_some]
      simp only [stE_eq]
      generalize (x :: xs).foldl (bf2 nx) (A, []) = s' at hm' B' e' ⊢
      by_cases hz : s'.2 = []
      · rw [hz] at hm' B'
        obtain ⟨f, rfl⟩ : ∃ g, f = g + 1 := ⟨f - 1, by omega⟩
        have hlen := nm_len hm'
        have c2 : uTruB (uBin fGt (uFun fLen (uaCons (uVar 3) uaNil)) (uC (.int 0))) [some (aM nx N), some (iN i), some (dA s'.1), some m', p4, p5, p6, o7] = some (false, [some (aM nx N), some (iN i), some (dA s'.1), some m', p4, p5, p6, o7]) := by
          generalize aM nx N = am
          generalize dA s'.1 = dm
          simp [uTruB, uBin, uFun, uaCons, uaNil, uVar, rdL, rd, fLen, hlen, uC, lift2, frz, iB]
        refine ⟨s'.1, m', p4, p5, p6, B', ?_⟩
        rw [whL, c2, Option.bind_some]
        rfl
      · have hp : 0 < s'.2.length := List.length_pos_iff.mpr hz
        have hl' := B'.len
        exact ih s'.1 s'.2 m' p4 p5 p6 o7 f B' (by omega) hm' (by omega) (by omega)
end Hc

namespace Hc
open PySem PySem.Spec PyProof.Rows L2 G
def ch (nx : Nat → List Nat) : List Nat → Prop
  | x :: y :: r => x ∈ nx y ∧ ch nx (y :: r)
  | _ => True
theorem lookup_of : ∀ {A : List (Nat × Nat)} {t h q : Nat}, (keysA A).Nodup → A[t]? = some (h, q) → A.lookup h = some q
  | [], t, h, q, nd, e => by simp at e
  | (k, v) :: A, 0, h, q, nd, e => by
    simp at e
    obtain ⟨rfl, rfl⟩ := e
    unfold List.lookup
    simp
  | (k, v) :: A, t + 1, h, q, nd, e => by
    have e : A[t]? = some (h, q) := e
    have nd' := List.nodup_cons.mp nd
    have hne : h ≠ k := fun z => nd'.1 (z ▸ mem_keys.mpr ⟨t, q, e⟩)
    unfold List.lookup
    have : (h == k) = false := by simpa using hne
    rw [this]
    exact lookup_of nd'.2 e
theorem nd_at : ∀ {A : List (Nat × Nat)} {t t' h q q' : Nat}, (keysA A).Nodup → A[t]? = some (h, q) → A[t']? = some (h, q') → t = t'
  | [], t, t', h, q, q', nd, e, e' => by simp at e
  | (k, v) :: A, 0, 0, h, q, q', nd, e, e' => rfl
  | (k, v) :: A, 0, t' + 1, h, q, q', nd, e, e' => by
    simp at e
    have e' : A[t']? = some (h, q') := e'
    exact absurd (mem_keys.mpr ⟨t', q', e'⟩) (e.1 ▸ (List.nodup_cons.mp nd).1)
  | (k, v) :: A, t + 1, 0, h, q, q', nd, e, e' => by
    simp at e'
    have e : A[t]? = some (h, q) := e
    exact absurd (mem_keys.mpr ⟨t, q, e⟩) (e'.1 ▸ (List.nodup_cons.mp nd).1)
  | (k, v) :: A, t + 1, t' + 1, h, q, q', nd, e, e' => by
    have e : A[t]? = some (h, q) := e
    have e' : A[t']? = some (h, q') := e'
    rw [nd_at (List.nodup_cons.mp nd).2 e e']
abbrev wE (a : M) (i : Nat) (A : List (Nat × Nat)) (o3 o4 o6 : Option M) (here : Nat) (found : List Nat) : G.Env := [some a, some (iN i), some (dA A), o3, o4, some (iN here), o6, some (.l (found.map iN))]
theorem item_dA {A : List (Nat × Nat)} {h q : Nat} (hq : A.lookup h = some q) : itemD (dA A) (iN h) = some (iN q) := by
  show (keyD (nI h)).bind (lookM _ _) = _
  show lookM (A.map fun p => (Sum.inl (p.1 : Int) : Key)) (A.map fun p => iN p.2) (.inl (h : Int)) = _
  rw [look_A, hq]
  rfl
theorem wk_cond (a : M) (i : Nat) (A : List (Nat × Nat)) (o3 o4 o6 : Option M) (here : Nat) (found : List Nat) : uTruB (uBin (lift2 dNe) (uVar 5) (uVar 1)) (wE a i A o3 o4 o6 here found) = some (!decide (here = i), wE a i A o3 o4 o6 here found) := by
  unfold wE
  generalize dA A = dm
  generalize found.map iN = fm
  simp [uTruB, uBin, uVar, rd, lift2, frz, dNe_int]
  by_cases q : here = i
  · simp [q]
  · have : ¬ (here : Int) = i := by omega
    simp [q, this]
theorem wk_body {a : M} {i : Nat} {A : List (Nat × Nat)} {o3 o4 o6 : Option M} {here q : Nat} {found : List Nat} (hq : A.lookup here = some q) (hl : found.length ≤ 2000) : m_round_from_b1 (wE a i A o3 o4 o6 here found) = some (.nx (wE a i A o3 o4 o6 q (found ++ [here]))) := by
  have hit := item_dA hq
  have hd : isD (dA A) = true := rfl
  have hlt : (found.map iN).length < sizeLine := by rw [sizeLine_eq, List.length_map]; omega
  have hap : (found ++ [here]).map iN = found.map iN ++ [iN here] := by rw [List.map_append]; rfl
  unfold m_round_from_b1 wE
  rw [hap]
  generalize dA A = dm at hit hd ⊢
  generalize found.map iN = fm at hlt ⊢
  simp [sSeq, sExpr, uApp, uVar, G.take, takeS, frz, hlt, stE_eq, sAsg, uItem, rd, hd, hit, giveM, asg]
theorem wk_run {nx : Nat → List Nat} {N i : Nat} {A : List (Nat × Nat)} (B : Bf nx N i A []) (a : M) (o3 o4 o6 : Option M) : ∀ (n t here q : Nat) (found : List Nat) (f : Nat), t < n → A[t]? = some (here, q) → t + 3 ≤ f → found.length + t ≤ 1000 →
    ∃ ps, whL (uTruB (uBin (lift2 dNe) (uVar 5) (uVar 1))) m_round_from_b1 f (wE a i A o3 o4 o6 here found) = some (.nx (wE a i A o3 o4 o6 i (found ++ ps))) ∧ ch nx (ps ++ [i]) ∧ (ps ++ [i]).head? = some here ∧ ps.Nodup ∧ ∀ x, x ∈ ps → x ≠ i ∧ ∃ t' q' : Nat, t' ≤ t ∧ A[t']? = some (x, q') := by
  intro n
  induction n with
  | zero => intro t here q found f h; omega
  | succ n ih =>
    intro t here q found f ht hat hf hl
    obtain ⟨f, rfl⟩ : ∃ g, f = g + 1 := ⟨f - 1, by omega⟩
    have c := wk_cond a i A o3 o4 o6 here found
    by_cases hi : here = i
    · rw [decide_eq_true hi] at c
      refine ⟨[], ?_, trivial, by rw [hi]; rfl, List.nodup_nil, fun x hx => by cases hx⟩
      rw [whL, c, Option.bind_some, List.append_nil, hi]
      rfl
    · rw [decide_eq_false hi] at c
      have hlk := lookup_of B.inv.nd hat
      have hb := wk_body (a := a) (i := i) (o3 := o3) (o4 := o4) (o6 := o6) (found := found) hlk (by omega)
      obtain ⟨h1, h2⟩ := B.inv.par t _ hat
      have h1 : here ∈ nx q := h1
      have h2 : q = i ∨ ∃ (t' q' : Nat), t' < t ∧ A[t']? = some (q, q') := h2
      have go : whL (uTruB (uBin (lift2 dNe) (uVar 5) (uVar 1))) m_round_from_b1 (f + 1) (wE a i A o3 o4 o6 here found) = whL (uTruB (uBin (lift2 dNe) (uVar 5) (uVar 1))) m_round_from_b1 f (wE a i A o3 o4 o6 q (found ++ [here])) := by
        rw [whL, c, Option.bind_some]
        simp only [Bool.not_false, if_true]
        rw [hb, Option.bind_some]
        simp only [stE_eq]
        rfl
      rcases h2 with rfl | ⟨t', q', z1, z2⟩
      · obtain ⟨f, rfl⟩ : ∃ g, f = g + 1 := ⟨f - 1, by omega⟩
        have c2 := wk_cond a q A o3 o4 o6 q (found ++ [here])
        rw [decide_eq_true rfl] at c2
        refine ⟨[here], ?_, ⟨h1, trivial⟩, rfl, by simp, fun x hx => ?_⟩
        · rw [go, whL, c2, Option.bind_some]
          rfl
        · rw [List.mem_singleton.mp hx]
          exact ⟨hi, t, q, Nat.le_refl _, hat⟩
      · obtain ⟨ps, p1, p2, p3, p4, p5⟩ := ih t' q q' (found ++ [here]) f (by omega) z2 (by omega) (by rw [List.length_append, List.length_singleton]; omega)
        refine ⟨here :: ps, ?_, ?_, rfl, ?_, fun x hx => ?_⟩
        · rw [go, p1, List.append_assoc]
          rfl
        · show ch nx (here :: (ps ++ [i]))
          cases hps : ps ++ [i] with
          | nil => simp at hps
          | cons y r =>
            rw [hps] at p2 p3
            have : y = q := Option.some.inj p3
            exact ⟨this ▸ h1, p2⟩
        · refine List.nodup_cons.mpr ⟨fun z => ?_, p4⟩
          obtain ⟨_, t2, q2, w1, w2⟩ := p5 here z
          have := nd_at B.inv.nd w2 hat
          omega
        · rcases List.mem_cons.mp hx with rfl | hx
          · exact ⟨hi, t, q, Nat.le_refl _, hat⟩
          · obtain ⟨w0, t2, q2, w1, w2⟩ := p5 x hx
            exact ⟨w0, t2, q2, by omega, w2⟩
def oM : Option (List Nat) → M
  | none => .p .none
  | some r => .l (r.map iN)
theorem round_from_ok {nx : Nat → List Nat} {N i : Nat} (hN : N ≤ 45) (hx : ∀ a, a < N → (nx a).length ≤ 100) (hb : ∀ a, a < N → ∀ b, b ∈ nx a → b < N) (hi : i < N) :
    ∃ o, D_round_from [aM nx N, iN i] = some (oM o, [some (aM nx N), some (iN i)]) ∧ ((o = none ∧ ¬ Rch nx i i) ∨ ∃ ps, o = some (i :: ps.reverse) ∧ Rch nx i i ∧ ch nx (i :: (ps ++ [i])) ∧ ps.Nodup ∧ i ∉ ps ∧ ∀ x, x ∈ ps → x < N) := by
  have hFU : FUEL = 999999 + 1 := rfl
  obtain ⟨A, m', o4, o5, o6, B, hw⟩ := wh_run (i := i) hN hx hb (N + 1) [] [i] (.l [iN i]) none none none none FUEL (bf_start nx hi) (by simp) (.inl rfl) (by simp) (by rw [hFU]; omega)
  have s1 : sPar 2 3 (uaCons uDk (uaCons (uLst (uaCons (uVar 1) uaNil)) uaNil)) [some (aM nx N), some (iN i), none, none, none, none, none, none] = some (.nx [some (aM nx N), some (iN i), some (dA []), some (.l [iN i]), none, none, none, none]) := by
    generalize aM nx N = am
    have : dA [] = .dk [] [] := rfl
    rw [this]
    simp [sPar, uaCons, uaNil, uDk, uLst, uVar, takeL, G.take, takeS, frz]
  have s2 : sWhile (uTruB (uBin fGt (uFun fLen (uaCons (uVar 3) uaNil)) (uC (.int 0)))) m_round_from_b4 [some (aM nx N), some (iN i), some (dA []), some (.l [iN i]), none, none, none, none] = some (.nx [some (aM nx N), some (iN i), some (dA A), some m', o4, o5, o6, none]) := hw
  have c3 : uTruB (uIn true (uVar 1) (uVar 2)) [some (aM nx N), some (iN i), some (dA A), some m', o4, o5, o6, none] = some (!(A.lookup i).isSome, [some (aM nx N), some (iN i), some (dA A), some m', o4, o5, o6, none]) := by
    have := in_dA (A := A) (l := i)
    generalize aM nx N = am
    generalize dA A = dm at this ⊢
    simp [uTruB, uIn, uVar, rd, this]
  have hend := bf_end B i
  cases hlk : A.lookup i with
  | none =>
    rw [hlk] at c3
    have hno : ¬ Rch nx i i := fun z => by
      have := look_key.mpr (hend.mpr z)
      rw [hlk] at this
      cases this
    refine ⟨none, fn_go (n := 8) (k := 2) (np := 2) (f := m_round_from) (ms := [aM nx N, iN i]) (Eq.refl 2) (e := [some (aM nx N), some (iN i), some (dA A), some m', o4, o5, o6, none]) ?_, .inl ⟨rfl, hno⟩⟩
    show m_round_from [some (aM nx N), some (iN i), none, none, none, none, none, none] = _
    unfold m_round_from
    rw [seq_go s1, seq_go s2]
    exact seq_ret ((if_true c3).trans rfl)
  | some p =>
    rw [hlk] at c3
    have hyes : Rch nx i i := hend.mp (look_key.mp (by rw [hlk]; rfl))
    obtain ⟨t0, ht0⟩ := look_some hlk
    obtain ⟨h1, h2⟩ := B.inv.par t0 _ ht0
    have h1 : i ∈ nx p := h1
    have h2 : p = i ∨ ∃ (t' q' : Nat), t' < t0 ∧ A[t']? = some (p, q') := h2
    have hAl := B.len
    have ht0l := (List.getElem?_eq_some_iff.mp ht0).1
    have hback : ∃ ps, sWhile (uTruB (uBin (lift2 dNe) (uVar 5) (uVar 1))) m_round_from_b1 (wE (aM nx N) i A (some m') o4 o6 p [i]) = some (.nx (wE (aM nx N) i A (some m') o4 o6 i ([i] ++ ps))) ∧ ch nx (i :: (ps ++ [i])) ∧ ps.Nodup ∧ i ∉ ps ∧ ∀ x, x ∈ ps → x < N := by
      rcases h2 with rfl | ⟨t', q', z1, z2⟩
      · refine ⟨[], ?_, ⟨h1, trivial⟩, List.nodup_nil, by simp, fun x hx => by cases hx⟩
        have c := wk_cond (aM nx N) p A (some m') o4 o6 p [p]
        rw [decide_eq_true rfl] at c
        show whL _ _ FUEL _ = _
        rw [hFU, whL, c, Option.bind_some]
        rfl
      · obtain ⟨ps, p1, p2, p3, p4, p5⟩ := wk_run B (aM nx N) (some m') o4 o6 (t' + 1) t' p q' [i] FUEL (by omega) z2 (by rw [hFU]; omega) (by simp; omega)
        refine ⟨ps, p1, ?_, p4, fun z => (p5 i z).1 rfl, fun x hx => ?_⟩
        · cases hps : ps ++ [i] with
          | nil => simp at hps
          | cons y r =>
            rw [hps] at p2 p3
            have : y = p := Option.some.inj p3
            exact ⟨this ▸ h1, p2⟩
        · obtain ⟨_, t2, q2, _, w2⟩ := p5 x hx
          exact (B.inv.lt _ (List.mem_of_getElem? w2)).1
    obtain ⟨ps, s5, b1, b2, b3, b4⟩ := hback
    have hpl := nd_len N ps b2 b4
    have s4 : sPar 7 5 (uaCons (uLst (uaCons (uVar 1) uaNil)) (uaCons (uItem (uVar 2) (uVar 1)) uaNil)) [some (aM nx N), some (iN i), some (dA A), some m', o4, o5, o6, none] = some (.nx (wE (aM nx N) i A (some m') o4 o6 p [i])) := by
      have hit := item_dA hlk
      have hd : isD (dA A) = true := rfl
      unfold wE
      generalize aM nx N = am
      generalize dA A = dm at hit hd ⊢
      simp [sPar, uLst, uaCons, uaNil, uItem, uVar, rd, hd, hit, giveM, takeL, G.take, takeS, frz]
    have s6 : sRet (uBin fAdd (uLst (uaCons (uVar 1) uaNil)) (uRevT (uVar 7))) (wE (aM nx N) i A (some m') o4 o6 i ([i] ++ ps)) = some (.rt (.l ((i :: ps.reverse).map iN)) (wE (aM nx N) i A (some m') o4 o6 i ([i] ++ ps))) := by
      have hr : revT (.l (([i] ++ ps).map iN)) = some (.l ((ps.reverse.map nI).map .p)) := by
        have ha := allP_map (([i] ++ ps).map nI)
        rw [List.map_map] at ha
        show (allP (([i] ++ ps).map iN)).map _ = _
        rw [show allP (([i] ++ ps).map iN) = some (([i] ++ ps).map nI) from ha]
        show some (M.l (((([i] ++ ps).map nI).drop 1).reverse.map M.p)) = _
        rw [List.map_append]
        show some (M.l ((ps.map nI).reverse.map M.p)) = _
        rw [← List.map_reverse]
      have cat : fAdd (.l [iN i]) (.l ((ps.reverse.map nI).map .p)) = some (.l ((i :: ps.reverse).map iN)) := by
        have h := (by
          have a2 := allP_map (ps.reverse.map nI)
          have f2 := frzL_map (ps.reverse.map nI)
          have hz : 1 + (ps.reverse.map nI).length ≤ sizeLine := len_le_line (by rw [List.length_map, List.length_reverse]; omega)
          generalize (ps.reverse.map nI) = ds at a2 f2 hz ⊢
          generalize hdm : ds.map M.p = dm at a2 f2 ⊢
          have hz' : ds.length + 1 ≤ sizeLine := by omega
          simp [fAdd, lift2, frz, frzL, f2, iI, catL, catO, allP, a2, hz', Nat.add_comm, hdm] : fAdd (.l [iN i]) (.l ((ps.reverse.map nI).map .p)) = some (.l (iN i :: (ps.reverse.map nI).map .p)))
        rw [h, List.map_map]
        rfl
      unfold wE
      generalize aM nx N = am
      generalize dA A = dm
      generalize ([i] ++ ps).map iN = fm at hr ⊢
      generalize (ps.reverse.map nI).map M.p = rm at hr cat
      generalize (i :: ps.reverse).map iN = zm at cat ⊢
      generalize fAdd = F at cat ⊢
      simp [sRet, uBin, uLst, uaCons, uaNil, uVar, uRevT, takeL, G.take, takeS, frz, rd, hr, cat, mv]
    refine ⟨some (i :: ps.reverse), fn_go (n := 8) (k := 2) (np := 2) (f := m_round_from) (ms := [aM nx N, iN i]) (Eq.refl 2) (e := wE (aM nx N) i A (some m') o4 o6 i ([i] ++ ps)) ?_, .inr ⟨ps, rfl, hyes, b1, b2, b3, b4⟩⟩
    show m_round_from [some (aM nx N), some (iN i), none, none, none, none, none, none] = _
    unfold m_round_from
    rw [seq_go s1, seq_go s2, seq_go ((if_false c3).trans rfl), seq_go s4, seq_go s5]
    exact s6
end Hc

namespace Hc
open PySem PySem.Spec PyProof.Rows L2 G
theorem put_map {α κ : Type} [DecidableEq κ] (f : α → κ) (g : α → M) (inj : ∀ a b, f a = f b → a = b) (x : α) : ∀ ds : List α, x ∉ ds → putM (ds.map f) (ds.map g) (f x) (g x) = ((ds ++ [x]).map f, (ds ++ [x]).map g)
  | [], h => rfl
  | d :: ds, h => by
    have hne : ¬ f d = f x := fun z => h (inj _ _ z ▸ List.mem_cons_self ..)
    rw [List.map_cons, List.map_cons, putM, if_neg hne, put_map f g inj x ds fun z => h (List.mem_cons_of_mem _ z)]
    rfl
/-- a call of two, the second in whatever hand -/
theorem call2 {F : Fn} {w : PyData} {m r : M} {e : G.Env} (hF : F [.p w, m] = some (r, [some (.p w), some m])) (h0 : e[0]? = some (some (.p w))) (h1 : e[1]? = some (some m)) :
    uCall F (uaCons (uVar 0) (uaCons (uVar 1) uaNil)) e = some (.tmp r, e) := by
  have hb : (e.set 1 none).set 1 (some m) = e := by
    rw [List.set_set]
    exact st_set_self h1
  cases m with
  | p d => simp [uCall, uaCons, uaNil, uVar, h0, h1, passL, passOp, hF, backL, stM_eq]
  | _ => simp [uCall, uaCons, uaNil, uVar, h0, h1, passL, passOp, hF, backL, stM_eq, hb]
section
variable {n : Nat} {L : List (Nat × Nat)} {R : List (List Nat)} {h : List (Option Nat)} {b : Bool} {m : M}
theorem nextsP_len (O : Ok n L R) (i : Nat) : (nextsP L R h i).length ≤ 100 := by
  unfold nextsP
  split
  · refine Nat.le_trans (List.length_filter_le ..) ?_
    rw [List.length_take]
    by_cases hr : otherP (L.getD i (0, 0)) ‹Nat› < R.length
    · rw [List.getD_eq_getElem?_getD, List.getElem?_eq_getElem hr]
      have := (O.rk _ (List.getElem_mem hr)).2
      show min _ (R[otherP (L.getD i (0, 0)) ‹Nat›]).length ≤ 100
      omega
    · rw [List.getD_eq_getElem?_getD, List.getElem?_eq_none (by omega)]
      exact Nat.le_trans (Nat.min_le_right _ _) (Nat.zero_le _)
  · exact Nat.zero_le _
theorem dc_run (O : Ok n L R) (H : Hd L h) (hm : Rp h m) : ∀ (is ds : List Nat), (∀ i, i ∈ is → i < L.length ∧ i ∉ ds) → is.Nodup →
    dcL (.sl 2) uYes (uVar 2) (uFrz (uCall D_nexts (uaCons (uVar 0) (uaCons (uVar 1) (uaCons (uVar 2) uaNil))))) [2] (is.map nI) [some (.p (wD b L R)), some m, none] (ds.map fun (i : Nat) => (Sum.inl (i : Int) : Key)) (ds.map fun i => M.p (.list ((nextsP L R h i).map nI)))
      = some (((ds ++ is).map fun (i : Nat) => (Sum.inl (i : Int) : Key), (ds ++ is).map fun i => M.p (.list ((nextsP L R h i).map nI))), [some (.p (wD b L R)), some m, none])
  | [], ds, hi, nd => by rw [List.append_nil]; rfl
  | i :: is, ds, hi, nd => by
    obtain ⟨h1, h2⟩ := hi i (List.mem_cons_self ..)
    have nd' := List.nodup_cons.mp nd
    have ih := dc_run O H hm is (ds ++ [i]) (fun j hj => ⟨(hi j (List.mem_cons_of_mem _ hj)).1, fun z => by
      rcases List.mem_append.mp z with z | z
      · exact (hi j (List.mem_cons_of_mem _ hj)).2 z
      · rw [List.mem_singleton.mp z] at hj; exact nd'.1 hj⟩) nd'.2
    have hc := frz_ok (call3 (nexts_ok (b := b) O H hm h1) (e := [some (.p (wD b L R)), some m, some (iN i)]) (k := 2) rfl rfl rfl (by decide)) (nm_frz (.inl rfl))
    have hp := put_map (fun (i : Nat) => (Sum.inl (i : Int) : Key)) (fun i => M.p (.list ((nextsP L R h i).map nI))) inl_inj i ds h2
    rw [List.map_cons, dcL]
    have ea : asg (.sl 2) (.p (nI i)) [some (.p (wD b L R)), some m, none] = some [some (.p (wD b L R)), some m, some (iN i)] := by simp [asg]
    rw [ea, Option.bind_some, show ∀ e, uYes e = some (true, e) from fun _ => rfl, Option.bind_some]
    simp only [if_true]
    rw [show uVar 2 [some (.p (wD b L R)), some m, some (iN i)] = some (.slot 2, [some (.p (wD b L R)), some m, some (iN i)]) from rfl, Option.bind_some]
    have hk : rdK [some (.p (wD b L R)), some m, some (iN i)] (.slot 2) = some (Sum.inl (i : Int)) := rfl
    generalize uFrz _ = U at hc ih ⊢
    simp only []
    rw [hk, Option.bind_some, hc, Option.bind_some]
    simp only [G.take, Option.bind_some]
    have hw : wipeE [some (.p (wD b L R)), some m, some (iN i)] [2] = [some (.p (wD b L R)), some m, none] := rfl
    rw [hw, hp]
    simp only []
    rw [ih, List.append_assoc]
    rfl
theorem all_nexts_ok (O : Ok n L R) (H : Hd L h) (hm : Rp h m) : D_all_nexts [.p (wD b L R), m] = some (.dk (aKs L.length) ((aDs (nextsP L R h) L.length).map .p), [some (.p (wD b L R)), some m]) := by
  have hLl := O.ll
  have hl := len_w0 (L := L) (R := R) (b := b) (e := [some (.p (wD b L R)), some m, none]) rfl
  have hr := r1_ok (ua := uaCons (uFun fLen (uaCons (uItem (uVar 0) (uC (.int 0))) uaNil)) uaNil) (env := [some (.p (wD b L R)), some m, none]) (e := [some (.p (wD b L R)), some m, none]) (j := L.length) (by
    generalize uFun _ _ = U at hl ⊢
    simp [uaCons, uaNil, hl]) (rg_ok L.length (by omega))
  rw [rgD_nI] at hr
  have hd := dc_run (b := b) O H hm (List.range L.length) [] (fun i hi => ⟨List.mem_range.mp hi, List.not_mem_nil⟩) List.nodup_range
  refine fn_go (n := 3) (k := 2) (np := 2) (f := m_all_nexts) (ms := [.p (wD b L R), m]) (Eq.refl 2) (e := [some (.p (wD b L R)), some m, none]) ?_
  show m_all_nexts [some (.p (wD b L R)), some m, none] = _
  unfold m_all_nexts
  refine ret_go ?_
  unfold uDc
  rw [hr, Option.bind_some]
  have hc : (decide (((List.range L.length).map nI).length ≤ sizeLine) && plainAt [some (.p (wD b L R)), some m, none] [2]) = true := by
    rw [Bool.and_eq_true]
    exact ⟨decide_eq_true (by rw [List.length_map, List.length_range, sizeLine_eq]; omega), rfl⟩
  simp only []
  rw [if_pos hc]
  have hw : wipeE [some (.p (wD b L R)), some m, none] [2] = [some (.p (wD b L R)), some m, none] := rfl
  rw [hw]
  have hd : dcL _ _ _ _ _ _ _ [] [] = _ := hd
  rw [hd, Option.bind_some]
  unfold aKs aDs
  rw [List.map_map]
  rfl
def oD : Option (List Nat) → PyData
  | none => .none
  | some r => .list (r.map nI)
theorem frz_oM (o : Option (List Nat)) : frz (oM o) = some (oD o) := by
  cases o with
  | none => rfl
  | some r => exact nm_frz (.inl rfl)
theorem frzL_oM {α : Type} (o : α → Option (List Nat)) : ∀ xs : List α, frzL (xs.map fun i => oM (o i)) = some (xs.map fun i => oD (o i))
  | [] => rfl
  | x :: xs => by simp [frzL, frz_oM, frzL_oM o xs]
structure Rgs (nx : Nat → List Nat) (N : Nat) (is : List Nat) (rg : Nat → List Nat) : Prop where
  srt : is.Pairwise (· < ·)
  mem : ∀ i, i ∈ is ↔ (i < N ∧ Rch nx i i)
  rg : ∀ i, i ∈ is → ∃ ps : List Nat, rg i = i :: ps.reverse ∧ ch nx (i :: (ps ++ [i])) ∧ ps.Nodup ∧ i ∉ ps ∧ ∀ x, x ∈ ps → x < N
theorem all_rounds_ok (O : Ok n L R) (H : Hd L h) : ∃ is rg, Rgs (nextsP L R h) L.length is rg ∧ ∀ (b : Bool) (m : M), Rp h m → D_all_rounds [.p (wD b L R), m] = some (.l (is.map fun i => M.p (.list ((rg i).map nI))), [some (.p (wD b L R)), some m]) := by
  have hLl := O.ll
  have hx : ∀ a, a < L.length → (nextsP L R h a).length ≤ 100 := fun a _ => nextsP_len O a
  have hb : ∀ a, a < L.length → ∀ c, c ∈ nextsP L R h a → c < L.length := fun a _ c hc => nextsP_lt O hc
  have key : ∀ i, ∃ o, i < L.length → D_round_from [aM (nextsP L R h) L.length, iN i] = some (oM o, [some (aM (nextsP L R h) L.length), some (iN i)]) ∧ ((o = none ∧ ¬ Rch (nextsP L R h) i i) ∨ ∃ ps, o = some (i :: ps.reverse) ∧ Rch (nextsP L R h) i i ∧ ch (nextsP L R h) (i :: (ps ++ [i])) ∧ ps.Nodup ∧ i ∉ ps ∧ ∀ x, x ∈ ps → x < L.length) := fun i => by
    by_cases hi : i < L.length
    · obtain ⟨o, ho⟩ := round_from_ok (by omega) hx hb hi
      exact ⟨o, fun _ => ho⟩
    · exact ⟨none, fun z => absurd z hi⟩
  obtain ⟨o, ho⟩ := Classical.axiomOfChoice key
  refine ⟨(List.range L.length).filter fun i => (o i).isSome, fun i => (o i).getD [], ⟨?_, ?_, ?_⟩, fun b m hm => ?_⟩
  · exact List.Pairwise.filter _ List.pairwise_lt_range
  · intro i
    rw [List.mem_filter, List.mem_range]
    constructor
    · rintro ⟨h1, h2⟩
      refine ⟨h1, ?_⟩
      rcases (ho i h1).2 with ⟨z, _⟩ | ⟨_, _, z, _⟩
      · rw [z] at h2; cases h2
      · exact z
    · rintro ⟨h1, h2⟩
      refine ⟨h1, ?_⟩
      rcases (ho i h1).2 with ⟨_, z⟩ | ⟨_, z, _⟩
      · exact absurd h2 z
      · rw [z]; rfl
  · intro i hi
    obtain ⟨h1, h2⟩ := List.mem_filter.mp hi
    rcases (ho i (List.mem_range.mp h1)).2 with ⟨z, _⟩ | ⟨ps, z, _, z2⟩
    · rw [z] at h2; cases h2
    · exact ⟨ps, by rw [z]; rfl, z2⟩
  · have hn := all_nexts_ok (b := b) O H hm
    have s1 := asg_at (i := 2) (call2 hn (e := [some (.p (wD b L R)), some m, none, none, none, none]) rfl rfl) (by simp)
    have ik : uiKeys 2 [some (.p (wD b L R)), some m, some (.dk (aKs L.length) ((aDs (nextsP L R h) L.length).map .p)), none, none, none] = some ((List.range L.length).map nI, [some (.p (wD b L R)), some m, some (aM (nextsP L R h) L.length), none, none, none]) := by
      have ha := allP_map (aDs (nextsP L R h) L.length)
      have hk : (aKs L.length).map keyP = (List.range L.length).map nI := by
        unfold aKs
        rw [List.map_map]
        rfl
      unfold aM
      generalize (aDs (nextsP L R h) L.length).map M.p = mm at ha ⊢
      generalize aDs (nextsP L R h) L.length = dd at ha ⊢
      generalize aKs L.length = kk at hk ⊢
      simp [uiKeys, ha, hk]
    have l1 := lc_go (env := [some (.p (wD b L R)), some m, some (aM (nextsP L R h) L.length), none, none, none]) (p := .sl 4) (t := uYes) (u := uCall D_round_from (uaCons (uVar 2) (uaCons (uVar 4) uaNil))) (vs := [4]) nI (fun _ => true) (fun i => oM (o i)) (List.range L.length) fun i hi => by
      have hr := (ho i (List.mem_range.mp hi)).1
      refine ⟨[some (.p (wD b L R)), some m, some (aM (nextsP L R h) L.length), none, some (iN i), none], [some (.p (wD b L R)), some m, some (aM (nextsP L R h) L.length), none, some (iN i), none], by simp [asg], rfl, fun _ => ⟨(.tmp (oM (o i)), [some (.p (wD b L R)), some m, some (aM (nextsP L R h) L.length), none, some (iN i), none]), _, ?_, rfl, rfl⟩, fun z => by cases z⟩
      unfold aM at hr ⊢
      generalize aKs L.length = kk at hr ⊢
      generalize aDs (nextsP L R h) L.length = dd at hr ⊢
      simp [uCall, uaCons, uaNil, uVar, passL, passOp, hr, backL, stM_eq]
    rw [List.filter_eq_self.mpr (fun _ _ => rfl)] at l1
    have h2 := lc_to ik (by rw [List.length_map, List.length_range]; omega) rfl rfl l1 (e3 := [some (.p (wD b L R)), some m, some (aM (nextsP L R h) L.length), none, none, none]) rfl
    have s2 := asg_at (i := 3) h2 (by simp)
    have it : uiSeq (uVar 3) [some (.p (wD b L R)), some m, some (aM (nextsP L R h) L.length), some (.l ((List.range L.length).map fun i => oM (o i))), none, none] = some ((List.range L.length).map fun i => oD (o i), [some (.p (wD b L R)), some m, some (aM (nextsP L R h) L.length), some (.p (.list ((List.range L.length).map fun i => oD (o i)))), none, none]) := by
      have hf := frzL_oM o (List.range L.length)
      generalize (List.range L.length).map (fun i => oM (o i)) = mm at hf ⊢
      generalize (List.range L.length).map (fun i => oD (o i)) = dd at hf ⊢
      generalize aM (nextsP L R h) L.length = am
      simp [uiSeq, uVar, G.take, takeS, frz, hf, seqD_ll]
    have l2 := lc_go (env := [some (.p (wD b L R)), some m, some (aM (nextsP L R h) L.length), some (.p (.list ((List.range L.length).map fun i => oD (o i)))), none, none]) (p := .sl 5) (t := uTruB (uBin fIsNot (uVar 5) (uC .none))) (u := uVar 5) (vs := [5]) (fun i => oD (o i)) (fun i => (o i).isSome) (fun i => M.p (oD (o i))) (List.range L.length) fun i hi => by
      generalize (List.range L.length).map (fun i => oD (o i)) = dd
      refine ⟨[some (.p (wD b L R)), some m, some (aM (nextsP L R h) L.length), some (.p (.list dd)), none, some (.p (oD (o i)))], [some (.p (wD b L R)), some m, some (aM (nextsP L R h) L.length), some (.p (.list dd)), none, some (.p (oD (o i)))], by simp [asg], ?_, fun _ => ⟨_, [some (.p (wD b L R)), some m, some (aM (nextsP L R h) L.length), some (.p (.list dd)), none, some (.p (oD (o i)))], rfl, rfl, rfl⟩, fun _ => rfl⟩
      have hn : fIsNot (.p (oD (o i))) (.p .none) = some (.p (.bool (o i).isSome)) := by
        cases o i <;> rfl
      generalize aM (nextsP L R h) L.length = am
      generalize fIsNot = F at hn ⊢
      simp [uTruB, uBin, uVar, uC, rd, hn]
    have h3 := lc_to it (by rw [List.length_map, List.length_range]; omega) rfl rfl l2 (e3 := [some (.p (wD b L R)), some m, some (aM (nextsP L R h) L.length), some (.p (.list ((List.range L.length).map fun i => oD (o i)))), none, none]) rfl
    have hz : ((List.range L.length).filter fun i => (o i).isSome).map (fun i => M.p (oD (o i))) = ((List.range L.length).filter fun i => (o i).isSome).map fun i => M.p (.list (((o i).getD []).map nI)) := by
      refine List.map_congr_left fun i hi => ?_
      have := (List.mem_filter.mp hi).2
      cases ho : o i with
      | none => rw [ho] at this; cases this
      | some r => rfl
    rw [hz] at h3
    refine fn_go (n := 6) (k := 2) (np := 2) (f := m_all_rounds) (ms := [.p (wD b L R), m]) (Eq.refl 2) (e := [some (.p (wD b L R)), some m, some (aM (nextsP L R h) L.length), some (.p (.list ((List.range L.length).map fun i => oD (o i)))), none, none]) ?_
    show m_all_rounds [some (.p (wD b L R)), some m, none, none, none, none] = _
    unfold m_all_rounds
    rw [seq_go s1]
    refine (seq_go s2).trans ?_
    exact ret_go h3
end
end Hc

namespace Hc
open PySem PySem.Spec PyProof.Rows L2 G
theorem isort_id : ∀ xs : List Nat, xs.Pairwise (· < ·) → isort (xs.map fun (i : Nat) => (i : Int)) = xs.map fun (i : Nat) => (i : Int)
  | [], _ => rfl
  | [x], _ => rfl
  | x :: y :: r, h => by
    have h' := List.pairwise_cons.mp h
    have ih := isort_id (y :: r) h'.2
    show ins (x : Int) (isort ((y :: r).map fun (i : Nat) => (i : Int))) = _
    rw [ih]
    have : (x : Int) ≤ (y : Int) := by have := h'.1 y (List.mem_cons_self ..); omega
    show ins (x : Int) ((y : Int) :: r.map fun (i : Nat) => (i : Int)) = _
    unfold ins
    rw [if_pos this]
    rfl
theorem srt_ext : ∀ (xs ys : List Nat), xs.Pairwise (· < ·) → ys.Pairwise (· < ·) → (∀ i, i ∈ xs ↔ i ∈ ys) → xs = ys
  | [], [], _, _, _ => rfl
  | [], y :: ys, _, _, h => absurd ((h y).mpr (List.mem_cons_self ..)) List.not_mem_nil
  | x :: xs, [], _, _, h => absurd ((h x).mp (List.mem_cons_self ..)) List.not_mem_nil
  | x :: xs, y :: ys, h1, h2, h => by
    have a := List.pairwise_cons.mp h1
    have b := List.pairwise_cons.mp h2
    have hxy : x = y := by
      rcases List.mem_cons.mp ((h x).mp (List.mem_cons_self ..)) with z | z
      · exact z
      · rcases List.mem_cons.mp ((h y).mpr (List.mem_cons_self ..)) with w | w
        · exact w.symm
        · have := a.1 y w
          have := b.1 x z
          omega
    subst hxy
    rw [srt_ext xs ys a.2 b.2 fun i => ⟨fun hi => by
      rcases List.mem_cons.mp ((h i).mp (List.mem_cons_of_mem _ hi)) with z | z
      · subst z; have := a.1 i hi; omega
      · exact z, fun hi => by
      rcases List.mem_cons.mp ((h i).mpr (List.mem_cons_of_mem _ hi)) with z | z
      · subst z; have := b.1 i hi; omega
      · exact z⟩]
theorem least_le : ∀ (r : List Int) (x : Int), least x r ≤ x ∧ (∀ y, y ∈ r → least x r ≤ y) ∧ (least x r = x ∨ least x r ∈ r)
  | [], x => by
    refine ⟨Int.le_refl _, ?_, .inl rfl⟩
    intro y hy
    cases hy
  | y :: r, x => by
    by_cases q : y < x
    · have e : least x (y :: r) = least y r := by
        show least (if y < x then y else x) r = _
        rw [if_pos q]
      obtain ⟨h1, h2, h3⟩ := least_le r y
      rw [e]
      refine ⟨by omega, fun z hz => ?_, ?_⟩
      · rcases List.mem_cons.mp hz with rfl | hz
        · exact h1
        · exact h2 z hz
      · rcases h3 with z | z
        · exact .inr (List.mem_cons.mpr (.inl z))
        · exact .inr (List.mem_cons_of_mem _ z)
    · have e : least x (y :: r) = least x r := by
        show least (if y < x then y else x) r = _
        rw [if_neg q]
      obtain ⟨h1, h2, h3⟩ := least_le r x
      rw [e]
      refine ⟨h1, fun z hz => ?_, ?_⟩
      · rcases List.mem_cons.mp hz with rfl | hz
        · omega
        · exact h2 z hz
      · rcases h3 with z | z
        · exact .inl z
        · exact .inr (List.mem_cons_of_mem _ z)
section
variable {n : Nat} {L : List (Nat × Nat)} {R : List (List Nat)} {h : List (Option Nat)} {nx : Nat → List Nat} {N : Nat} {is : List Nat} {rg : Nat → List Nat}
theorem Rgs.len (Y : Rgs nx N is rg) {i : Nat} (hi : i ∈ is) : 0 < (rg i).length ∧ (rg i).length ≤ N + 1 := by
  obtain ⟨ps, e, _, h1, _, h2⟩ := Y.rg i hi
  have := nd_len N ps h1 h2
  rw [e, List.length_cons, List.length_reverse]
  omega
theorem Rgs.isl (Y : Rgs nx N is rg) : is.length ≤ N := nd_len N is (Y.srt.imp fun h => Nat.ne_of_lt h) fun x hx => ((Y.mem x).mp hx).1
theorem frz_rs (is : List Nat) (rg : Nat → List Nat) : frz (.l (is.map fun i => M.p (.list ((rg i).map nI)))) = some (.list (is.map fun i => .list ((rg i).map nI))) := by
  have := frzL_map (is.map fun i => PyData.list ((rg i).map nI))
  rw [List.map_map] at this
  show (frzL (is.map fun i => M.p (.list ((rg i).map nI)))).map _ = _
  rw [show frzL (is.map fun i => M.p (.list ((rg i).map nI))) = some (is.map fun i => .list ((rg i).map nI)) from this]
  rfl
theorem ringed_of {b : Bool} {m : M} (Y : Rgs nx N is rg) (hN : N ≤ 45) (ha : D_all_rounds [.p (wD b L R), m] = some (.l (is.map fun i => M.p (.list ((rg i).map nI))), [some (.p (wD b L R)), some m])) :
    D_ringed [.p (wD b L R), m] = some (.l (is.map iN), [some (.p (wD b L R)), some m]) := by
  have hc := call2 ha (e := [some (.p (wD b L R)), some m, none]) rfl rfl
  have hf := frz_rs is rg
  have it : uiSeq (uCall D_all_rounds (uaCons (uVar 0) (uaCons (uVar 1) uaNil))) [some (.p (wD b L R)), some m, none] = some (is.map fun i => .list ((rg i).map nI), [some (.p (wD b L R)), some m, none]) := by
    generalize uCall _ _ = U at hc ⊢
    generalize is.map (fun i => M.p (.list ((rg i).map nI))) = mm at hc hf
    have hp : ∀ d, frz (.p d) = some d := fun _ => rfl
    simp [uiSeq, hc, G.take, hf, hp, seqD_ll]
  have l1 : lcL (.sl 2) uYes (uItem (uVar 2) (uC (.int 0))) [2] (is.map fun i => .list ((rg i).map nI)) [some (.p (wD b L R)), some m, none] = some (is.map iN, [some (.p (wD b L R)), some m, none]) := by
    have aux : ∀ js : List Nat, (∀ i, i ∈ js → i ∈ is) → lcL (.sl 2) uYes (uItem (uVar 2) (uC (.int 0))) [2] (js.map fun i => .list ((rg i).map nI)) [some (.p (wD b L R)), some m, none] = some ((js.filter fun _ => true).map iN, [some (.p (wD b L R)), some m, none]) := fun js hj => by
      refine lc_go (fun i => PyData.list ((rg i).map nI)) (fun _ => true) iN js fun i hi => ?_
      obtain ⟨ps, e, _⟩ := Y.rg i (hj i hi)
      refine ⟨[some (.p (wD b L R)), some m, some (.p (.list ((rg i).map nI)))], [some (.p (wD b L R)), some m, some (.p (.list ((rg i).map nI)))], by simp [asg], rfl, fun _ => ⟨(.tmp (iN i), [some (.p (wD b L R)), some m, some (.p (.list ((rg i).map nI)))]), _, ?_, rfl, rfl⟩, fun z => by cases z⟩
      have hi0 : itemM (.p (.list ((rg i).map nI))) 0 = some (iN i) := by
        rw [e]
        show (atI _ ((0 : Nat) : Int)).map _ = _
        rw [atI_nat]
        rfl
      have hd : isD (.p (.list ((rg i).map nI))) = false := rfl
      generalize PyData.list ((rg i).map nI) = dd at hi0 hd ⊢
      simp [uItem, uVar, uC, rd, hd, itemI, hi0, giveM]
    have := aux is fun i hi => hi
    rwa [List.filter_eq_self.mpr (fun _ _ => rfl)] at this
  have hlc := lc_to it (by rw [List.length_map]; have := Y.isl; omega) rfl rfl l1 (e3 := [some (.p (wD b L R)), some m, none]) rfl
  have hs : fSorted [.l (is.map iN)] = some (.l (is.map iN)) := by
    have ha := allP_map (is.map nI)
    rw [List.map_map] at ha
    have ha : allP (is.map iN) = some (is.map nI) := ha
    show (lsM (.l (is.map iN))).bind _ = _
    show (allP (is.map iN)).bind _ = _
    rw [ha, Option.bind_some, intsOf_nat]
    show some (M.l ((isort (is.map fun (i : Nat) => (i : Int))).map fun i => M.p (.int i))) = _
    rw [isort_id is Y.srt, List.map_map]
    rfl
  refine fn_go (n := 3) (k := 2) (np := 2) (f := m_ringed) (ms := [.p (wD b L R), m]) (Eq.refl 2) (e := [some (.p (wD b L R)), some m, none]) ?_
  show m_ringed [some (.p (wD b L R)), some m, none] = _
  unfold m_ringed
  refine ret_go ?_
  generalize uLc _ _ _ _ _ = U at hlc ⊢
  generalize is.map iN = mm at hlc hs ⊢
  simp [uFun, uaCons, uaNil, hlc, rdL, rd, hs]
theorem ring_in_of {b : Bool} {m : M} (Y : Rgs nx N is rg) (hN : N ≤ 45) (ha : D_all_rounds [.p (wD b L R), m] = some (.l (is.map fun i => M.p (.list ((rg i).map nI))), [some (.p (wD b L R)), some m])) :
    ∃ r, D_ring_in [.p (wD b L R), m] = some (.p r, [some (.p (wD b L R)), some m]) ∧ ((is = [] ∧ r = .none) ∨ ∃ j, j ∈ is ∧ (∀ i, i ∈ is → (rg j).length ≤ (rg i).length) ∧ r = .list ((rg j).map nI)) := by
  have hc := call2 ha (e := [some (.p (wD b L R)), some m, none, none, none]) rfl rfl
  have s1 := asg_at (i := 2) hc (by simp)
  have hf := frz_rs is rg
  have hil := Y.isl
  generalize hdd : is.map (fun i => PyData.list ((rg i).map nI)) = dd at hf
  generalize is.map (fun i => M.p (.list ((rg i).map nI))) = mm at s1 hf
  have it1 : uiSeq (uVar 2) [some (.p (wD b L R)), some m, some (.l mm), none, none] = some (dd, [some (.p (wD b L R)), some m, some (.p (.list dd)), none, none]) := by
    have hp : frz (.p (.list dd)) = some (.list dd) := rfl
    simp [uiSeq, uVar, G.take, takeS, hf, hp, seqD_ll]
  have lens : lcL (.sl 4) uYes (uFun fLen (uaCons (uVar 4) uaNil)) [4] dd [some (.p (wD b L R)), some m, some (.p (.list dd)), none, none] = some (is.map fun i => iN (rg i).length, [some (.p (wD b L R)), some m, some (.p (.list dd)), none, none]) := by
    have := lc_go (env := [some (.p (wD b L R)), some m, some (.p (.list dd)), none, none]) (p := .sl 4) (t := uYes) (u := uFun fLen (uaCons (uVar 4) uaNil)) (vs := [4]) (fun i => PyData.list ((rg i).map nI)) (fun _ => true) (fun i => iN (rg i).length) is fun i hi => by
      refine ⟨[some (.p (wD b L R)), some m, some (.p (.list dd)), none, some (.p (.list ((rg i).map nI)))], [some (.p (wD b L R)), some m, some (.p (.list dd)), none, some (.p (.list ((rg i).map nI)))], by simp [asg], rfl, fun _ => ⟨(.tmp (iN (rg i).length), [some (.p (wD b L R)), some m, some (.p (.list dd)), none, some (.p (.list ((rg i).map nI)))]), _, ?_, rfl, rfl⟩, fun z => by cases z⟩
      have hl := nm_len (xs := rg i) (m := .p (.list ((rg i).map nI))) (.inr rfl)
      generalize PyData.list ((rg i).map nI) = d2 at hl ⊢
      simp [uFun, uaCons, uaNil, uVar, rdL, rd, fLen, hl]
    rw [List.filter_eq_self.mpr (fun _ _ => rfl), hdd] at this
    exact this
  have hl1 : dd.length = is.length := by rw [← hdd, List.length_map]
  have hlc := lc_to it1 (by omega) rfl rfl lens (e3 := [some (.p (wD b L R)), some m, some (.p (.list dd)), none, none]) rfl
  let ns : List Int := is.map fun i => ((rg i).length : Int)
  let least0 : Int := match ns with
    | [] => 0
    | x :: r => least x r
  have s2 : sAsg (.sl 3) (uMinD (uLc (uiSeq (uVar 2)) (.sl 4) uYes (uFun fLen (uaCons (uVar 4) uaNil)) [4]) (uC (.int 0))) [some (.p (wD b L R)), some m, some (.l mm), none, none] = some (.nx [some (.p (wD b L R)), some m, some (.p (.list dd)), some (.p (.int least0)), none]) := by
    have hl : lsM (.l (is.map fun i => iN (rg i).length)) = some (is.map fun i => nI (rg i).length) := by
      have ha := allP_map (is.map fun i => nI (rg i).length)
      rw [List.map_map] at ha
      exact ha
    have hi : intsOf (is.map fun i => nI (rg i).length) = some ns := by
      have := intsOf_nat (is.map fun i => (rg i).length)
      rw [List.map_map, List.map_map] at this
      exact this
    refine asg_at (m := .p (.int least0)) (e := [some (.p (wD b L R)), some m, some (.p (.list dd)), none, none]) ?_ (by simp)
    generalize uLc _ _ _ _ _ = U at hlc ⊢
    generalize is.map (fun i => iN (rg i).length) = m1 at hlc hl
    generalize is.map (fun i => nI (rg i).length) = d1 at hl hi
    simp only [uMinD, hlc, Option.bind_some, uC, rd, hl, hi]
    rfl
  have c3 : uTruB (uBin fGt (uVar 3) (uC (.int 0))) [some (.p (wD b L R)), some m, some (.p (.list dd)), some (.p (.int least0)), none] = some (decide (0 < least0), [some (.p (wD b L R)), some m, some (.p (.list dd)), some (.p (.int least0)), none]) := by
    generalize least0 = z
    simp [uTruB, uBin, uVar, uC, rd, lift2, frz, iB]
  cases his : is with
  | nil =>
    have hz : least0 = 0 := by
      show (match is.map fun i => ((rg i).length : Int) with | [] => (0 : Int) | x :: r => least x r) = 0
      rw [his]
      rfl
    refine ⟨.none, fn_go (n := 5) (k := 2) (np := 2) (f := m_ring_in) (ms := [.p (wD b L R), m]) (Eq.refl 2) (e := [some (.p (wD b L R)), some m, some (.p (.list dd)), some (.p (.int least0)), none]) ?_, .inl ⟨rfl, rfl⟩⟩
    show m_ring_in [some (.p (wD b L R)), some m, none, none, none] = _
    unfold m_ring_in
    rw [seq_go s1]
    refine (seq_go s2).trans ?_
    rw [hz] at c3 ⊢
    refine ret_go ?_
    simp only [uIf, c3]
    rfl
  | cons i0 is' =>
    rw [← his]
    have hne : is ≠ [] := by rw [his]; simp
    have hz : (∀ i, i ∈ is → least0 ≤ (rg i).length) ∧ ∃ j, j ∈ is ∧ least0 = (rg j).length := by
      have e : least0 = least ((rg i0).length : Int) (is'.map fun i => ((rg i).length : Int)) := by
        show (match is.map fun i => ((rg i).length : Int) with | [] => (0 : Int) | x :: r => least x r) = _
        rw [his]
        rfl
      obtain ⟨h1, h2, h3⟩ := least_le (is'.map fun i => ((rg i).length : Int)) ((rg i0).length : Int)
      rw [← e] at h1 h2 h3
      rw [his]
      refine ⟨fun i hi => ?_, ?_⟩
      · rcases List.mem_cons.mp hi with rfl | hi
        · exact h1
        · exact h2 _ (List.mem_map.mpr ⟨i, hi, rfl⟩)
      · rcases h3 with z | z
        · exact ⟨i0, List.mem_cons_self .., z⟩
        · obtain ⟨j, hj, e⟩ := List.mem_map.mp z
          exact ⟨j, List.mem_cons_of_mem _ hj, e.symm⟩
    obtain ⟨hmin, j0, hj0, hj0e⟩ := hz
    have hpos : 0 < least0 := by have := (Y.len hj0).1; omega
    rw [decide_eq_true hpos] at c3
    have it2 : uiSeq (uVar 2) [some (.p (wD b L R)), some m, some (.p (.list dd)), some (.p (.int least0)), none] = some (dd, [some (.p (wD b L R)), some m, some (.p (.list dd)), some (.p (.int least0)), none]) := by
      generalize least0 = z
      simp [uiSeq, uVar, G.take, takeS, frz, seqD_ll]
    have l2 := lc_go (env := [some (.p (wD b L R)), some m, some (.p (.list dd)), some (.p (.int least0)), none]) (p := .sl 4) (t := uTruB (uBin (lift2 dEq) (uFun fLen (uaCons (uVar 4) uaNil)) (uVar 3))) (u := uVar 4) (vs := [4]) (fun i => PyData.list ((rg i).map nI)) (fun i => decide (((rg i).length : Int) = least0)) (fun i => M.p (.list ((rg i).map nI))) is fun i hi => by
      have hl := nm_len (xs := rg i) (m := .p (.list ((rg i).map nI))) (.inr rfl)
      generalize PyData.list ((rg i).map nI) = d2 at hl ⊢
      generalize least0 = z
      refine ⟨[some (.p (wD b L R)), some m, some (.p (.list dd)), some (.p (.int z)), some (.p d2)], [some (.p (wD b L R)), some m, some (.p (.list dd)), some (.p (.int z)), some (.p d2)], by simp [asg], ?_, fun _ => ⟨_, [some (.p (wD b L R)), some m, some (.p (.list dd)), some (.p (.int z)), some (.p d2)], rfl, rfl, rfl⟩, fun _ => rfl⟩
      simp [uTruB, uBin, uFun, uaCons, uaNil, uVar, rdL, rd, fLen, hl, lift2, frz, dEq_int]
      by_cases q : ((rg i).length : Int) = z
      · simp [q]
      · simp [q]
    rw [hdd] at l2
    have h3 := lc_to it2 (by omega) rfl rfl l2 (e3 := [some (.p (wD b L R)), some m, some (.p (.list dd)), some (.p (.int least0)), none]) rfl
    cases hfil : is.filter (fun i => decide (((rg i).length : Int) = least0)) with
    | nil =>
      have : j0 ∈ is.filter (fun i => decide (((rg i).length : Int) = least0)) := List.mem_filter.mpr ⟨hj0, decide_eq_true hj0e.symm⟩
      rw [hfil] at this
      cases this
    | cons j js =>
      have hj : j ∈ is.filter (fun i => decide (((rg i).length : Int) = least0)) := by rw [hfil]; exact List.mem_cons_self ..
      obtain ⟨hj1, hj2⟩ := List.mem_filter.mp hj
      have hj2 := of_decide_eq_true hj2
      rw [hfil] at h3
      refine ⟨.list ((rg j).map nI), fn_go (n := 5) (k := 2) (np := 2) (f := m_ring_in) (ms := [.p (wD b L R), m]) (Eq.refl 2) (e := [some (.p (wD b L R)), some m, some (.p (.list dd)), some (.p (.int least0)), none]) ?_, .inr ⟨j, hj1, fun i hi => by have := hmin i hi; omega, rfl⟩⟩
      show m_ring_in [some (.p (wD b L R)), some m, none, none, none] = _
      unfold m_ring_in
      rw [seq_go s1]
      refine (seq_go s2).trans ?_
      refine ret_go ?_
      have hi0 : itemM (.l ((j :: js).map fun i => M.p (.list ((rg i).map nI)))) 0 = some (.p (.list ((rg j).map nI))) := by
        show atI _ ((0 : Nat) : Int) = _
        rw [atI_nat]
        rfl
      have hd : isD (.l ((j :: js).map fun i => M.p (.list ((rg i).map nI)))) = false := rfl
      generalize uLc _ _ _ _ _ = U at h3 ⊢
      generalize (j :: js).map (fun i => M.p (.list ((rg i).map nI))) = m3 at h3 hi0 hd
      generalize least0 = z at c3 h3 ⊢
      simp only [uIf, c3, Option.bind_some, if_true]
      simp [uItem, h3, uC, rd, hd, itemI, hi0, giveM]
theorem is_free_of {b : Bool} {m : M} (Y : Rgs nx N is rg) (hN : N ≤ 45) (ha : D_all_rounds [.p (wD b L R), m] = some (.l (is.map fun i => M.p (.list ((rg i).map nI))), [some (.p (wD b L R)), some m])) :
    D_is_free [.p (wD b L R), m] = some (.p (.bool is.isEmpty), [some (.p (wD b L R)), some m]) := by
  obtain ⟨r, h1, h2⟩ := ring_in_of Y hN ha
  have hc := call2 h1 (e := [some (.p (wD b L R)), some m]) rfl rfl
  refine fn_go (n := 2) (k := 2) (np := 2) (f := m_is_free) (ms := [.p (wD b L R), m]) (Eq.refl 2) (e := [some (.p (wD b L R)), some m]) ?_
  show m_is_free [some (.p (wD b L R)), some m] = _
  unfold m_is_free
  refine ret_go ?_
  have hi : fIs (.p r) (.p .none) = some (.p (.bool is.isEmpty)) := by
    rcases h2 with ⟨rfl, rfl⟩ | ⟨j, hj, _, rfl⟩
    · rfl
    · have : is.isEmpty = false := by
        cases is with
        | nil => cases hj
        | cons _ _ => rfl
      rw [this]
      rfl
  generalize uCall _ _ = U at hc ⊢
  generalize fIs = F at hi ⊢
  simp [uBin, hc, uC, rd, hi]
/-- all that the library tells of rings -/
theorem rings_ok (O : Ok n L R) (H : Hd L h) : ∃ is rg, Rgs (nextsP L R h) L.length is rg ∧ ∀ (b : Bool) (m : M), Rp h m →
    D_ringed [.p (wD b L R), m] = some (.l (is.map iN), [some (.p (wD b L R)), some m]) ∧
    (∃ r, D_ring_in [.p (wD b L R), m] = some (.p r, [some (.p (wD b L R)), some m]) ∧ ((is = [] ∧ r = .none) ∨ ∃ j, j ∈ is ∧ (∀ i, i ∈ is → (rg j).length ≤ (rg i).length) ∧ r = .list ((rg j).map nI))) ∧
    D_is_free [.p (wD b L R), m] = some (.p (.bool is.isEmpty), [some (.p (wD b L R)), some m]) := by
  obtain ⟨is, rg, Y, ha⟩ := all_rounds_ok O H
  have hN : L.length ≤ 45 := by have := O.ll; omega
  exact ⟨is, rg, Y, fun b m hm => ⟨ringed_of Y hN (ha b m hm), ring_in_of Y hN (ha b m hm), is_free_of Y hN (ha b m hm)⟩⟩
end
end Hc

/-! the law's core: what is left when each with nothing next that's left goes -/
namespace Hc
open PySem PySem.Spec PyProof.Rows L2 G
def coreS (nx : Nat → List Nat) (l : List Nat) : List Nat := l.filter fun i => (nx i).any fun j => decide (j ∈ l)
def coreN (nx : Nat → List Nat) : Nat → List Nat → List Nat
  | 0, l => l
  | k + 1, l => coreN nx k (coreS nx l)
theorem coreS_sub {nx : Nat → List Nat} {l : List Nat} {i : Nat} (h : i ∈ coreS nx l) : i ∈ l := (List.mem_filter.mp h).1
theorem coreN_len (nx : Nat → List Nat) : ∀ (k : Nat) (l : List Nat), coreN nx k l = [] ∨ (coreN nx k l).length + k ≤ l.length ∨ coreS nx (coreN nx k l) = coreN nx k l
  | 0, l => .inr (.inl (Nat.le_refl _))
  | k + 1, l => by
    by_cases q : coreS nx l = l
    · have : ∀ k, coreN nx k l = l := fun k => by
        induction k with
        | zero => rfl
        | succ k ih => show coreN nx k (coreS nx l) = l; rw [q, ih]
      right; right
      rw [this (k + 1), q]
    · have hlt : (coreS nx l).length < l.length := by
        rcases Nat.lt_or_ge (coreS nx l).length l.length with z | z
        · exact z
        · exact absurd (List.filter_eq_self.mpr (List.length_filter_eq_length_iff.mp (Nat.le_antisymm (List.length_filter_le ..) z))) q
      rcases coreN_len nx k (coreS nx l) with z | z | z
      · exact .inl z
      · exact .inr (.inl (by show (coreN nx k (coreS nx l)).length + (k + 1) ≤ l.length; omega))
      · exact .inr (.inr z)
theorem rch_trans {nx : Nat → List Nat} {a b c : Nat} (h : Rch nx a b) (h' : Rch nx b c) : Rch nx a c := by
  induction h' with
  | one e => exact .more h e
  | more _ e ih => exact .more ih e
theorem rch_head {nx : Nat → List Nat} {a c : Nat} (h : Rch nx a c) : ∃ b, b ∈ nx a ∧ (b = c ∨ Rch nx b c) := by
  induction h with
  | one e => exact ⟨_, e, .inl rfl⟩
  | more _ e ih =>
    obtain ⟨b, h1, h2⟩ := ih
    rcases h2 with rfl | h2
    · exact ⟨b, h1, .inr (.one e)⟩
    · exact ⟨b, h1, .inr (.more h2 e)⟩
theorem core_keep {nx : Nat → List Nat} {l : List Nat} (h : ∀ i, Rch nx i i → i ∈ l) : ∀ i, Rch nx i i → i ∈ coreS nx l := fun i hi => by
  refine List.mem_filter.mpr ⟨h i hi, List.any_eq_true.mpr ?_⟩
  obtain ⟨b, h1, h2⟩ := rch_head hi
  refine ⟨b, h1, decide_eq_true (h b ?_)⟩
  rcases h2 with rfl | h2
  · exact hi
  · exact rch_trans h2 (.one h1)
theorem core_keepN {nx : Nat → List Nat} : ∀ (k : Nat) (l : List Nat), (∀ i, Rch nx i i → i ∈ l) → ∀ i, Rch nx i i → i ∈ coreN nx k l
  | 0, l, h => h
  | k + 1, l, h => core_keepN k (coreS nx l) (core_keep h)
theorem core_cyc {nx : Nat → List Nat} {N : Nat} {l : List Nat} (hl : ∀ i, i ∈ l → i < N) (hf : coreS nx l = l) (hne : l ≠ []) : ∃ i, i < N ∧ Rch nx i i := by
  have nxt : ∀ i, i ∈ l → ∃ j, j ∈ nx i ∧ j ∈ l := fun i hi => by
    rw [← hf] at hi
    obtain ⟨j, h1, h2⟩ := List.any_eq_true.mp (List.mem_filter.mp hi).2
    exact ⟨j, h1, of_decide_eq_true h2⟩
  have go : ∀ k : Nat, (∃ i, i < N ∧ Rch nx i i) ∨ ∃ (xs : List Nat) (y : Nat), xs.length = k + 1 ∧ xs.Nodup ∧ y ∈ l ∧ (∀ a, a ∈ xs → a ∈ l ∧ (a = y ∨ Rch nx a y)) := fun k => by
    induction k with
    | zero =>
      obtain ⟨y, hy⟩ := List.exists_mem_of_ne_nil l hne
      exact .inr ⟨[y], y, rfl, by simp, hy, fun a ha => by rw [List.mem_singleton.mp ha]; exact ⟨hy, .inl rfl⟩⟩
    | succ k ih =>
      rcases ih with z | ⟨xs, y, h1, h2, h3, h4⟩
      · exact .inl z
      · obtain ⟨z, hz1, hz2⟩ := nxt y h3
        by_cases q : z ∈ xs
        · refine .inl ⟨z, hl z hz2, ?_⟩
          rcases (h4 z q).2 with rfl | w
          · exact .one hz1
          · exact .more w hz1
        · refine .inr ⟨z :: xs, z, by rw [List.length_cons, h1], List.nodup_cons.mpr ⟨q, h2⟩, hz2, fun a ha => ?_⟩
          rcases List.mem_cons.mp ha with rfl | ha
          · exact ⟨hz2, .inl rfl⟩
          · refine ⟨(h4 a ha).1, .inr ?_⟩
            rcases (h4 a ha).2 with rfl | w
            · exact .one hz1
            · exact .more w hz1
  rcases go N with z | ⟨xs, y, h1, h2, _, h4⟩
  · exact z
  · have := nd_len N xs h2 fun a ha => hl a (h4 a ha).1
    omega
theorem coreN_sub {nx : Nat → List Nat} : ∀ (k : Nat) (l : List Nat) (i : Nat), i ∈ coreN nx k l → i ∈ l
  | 0, l, i, h => h
  | k + 1, l, i, h => coreS_sub (coreN_sub k (coreS nx l) i h)
/-- none is left just where none leads to itself -/
theorem core_iff {nx : Nat → List Nat} {N : Nat} {l : List Nat} (hl : ∀ i, i ∈ l → i < N) (hc : ∀ i, Rch nx i i → i ∈ l) : coreN nx l.length l = [] ↔ ∀ i, ¬ Rch nx i i := by
  constructor
  · intro h i hi
    have := core_keepN l.length l hc i hi
    rw [h] at this
    cases this
  · intro h
    rcases coreN_len nx l.length l with z | z | z
    · exact z
    · exact List.length_eq_zero_iff.mp (by omega)
    · by_cases q : coreN nx l.length l = []
      · exact q
      · obtain ⟨i, _, hi⟩ := core_cyc (fun i hi => hl i (coreN_sub _ _ i hi)) z q
        exact absurd hi (h i)
section
variable {n : Nat} {L : List (Nat × Nat)} {R : List (List Nat)} {h : List (Option Nat)} {b : Bool} {m : M}
theorem cyc_open {i : Nat} (r : Rch (nextsP L R h) i i) : ∃ p, h[i]? = some (some p) := by
  obtain ⟨b, h1, _⟩ := rch_head r
  unfold nextsP at h1
  split at h1
  · exact ⟨_, ‹_›⟩
  · cases h1
theorem pairs_map (f : Nat → PyData) : ∀ is : List Nat, pairsD (is.map fun i => .tuple [nI i, f i]) = some (is.map fun (i : Nat) => ((Sum.inl (i : Int) : Key), f i))
  | [] => rfl
  | i :: is => by
    rw [List.map_cons, pairsD, pairs_map f is]
    rfl
theorem merge_map (f : Nat → PyData) : ∀ (is ds : List Nat), (∀ i, i ∈ is → i ∉ ds) → is.Nodup → mergeD (ds.map fun (i : Nat) => (Sum.inl (i : Int) : Key)) (ds.map fun i => M.p (f i)) (is.map fun (i : Nat) => ((Sum.inl (i : Int) : Key), f i)) = ((ds ++ is).map fun (i : Nat) => (Sum.inl (i : Int) : Key), (ds ++ is).map fun i => M.p (f i))
  | [], ds, h, nd => by rw [List.append_nil]; rfl
  | i :: is, ds, h, nd => by
    have nd' := List.nodup_cons.mp nd
    rw [List.map_cons, mergeD, put_map (fun (i : Nat) => (Sum.inl (i : Int) : Key)) (fun i => M.p (f i)) inl_inj i ds (h i (List.mem_cons_self ..))]
    have := merge_map f is (ds ++ [i]) (fun j hj z => by
      rcases List.mem_append.mp z with z | z
      · exact h j (List.mem_cons_of_mem _ hj) z
      · rw [List.mem_singleton.mp z] at hj; exact nd'.1 hj) nd'.2
    simp only []
    rw [this, List.append_assoc]
    rfl
def aD (is : List Nat) (f : Nat → PyData) : M := .dk (is.map fun (i : Nat) => (Sum.inl (i : Int) : Key)) (is.map fun i => M.p (f i))
theorem item_aD {is : List Nat} {f : Nat → PyData} {i : Nat} (hi : i ∈ is) : itemD (aD is f) (iN i) = some (.p (f i)) := by
  show lookM (is.map fun (i : Nat) => (Sum.inl (i : Int) : Key)) (is.map fun i => M.p (f i)) (.inl (i : Int)) = _
  exact look_map (fun (i : Nat) => (Sum.inl (i : Int) : Key)) (fun i => M.p (f i)) inl_inj is i hi
abbrev nxD (L : List (Nat × Nat)) (R : List (List Nat)) (h : List (Option Nat)) (i : Nat) : PyData := .list ((nextsP L R h i).map nI)
theorem core_body (O : Ok n L R) (is0 : List Nat) {l : List Nat} {x : M} (hx : Nm l x) (hl : ∀ i, i ∈ l → i < L.length ∧ i ∈ is0) (hll : l.length ≤ 50) (o4 : Option M) :
    m_law_core_b1 [some (.p (wD b L R)), some m, some x, some (aD is0 (nxD L R h)), o4, none, none] = some (.nx [some (.p (wD b L R)), some m, some (.l ((coreS (nextsP L R h) l).map iN)), some (aD is0 (nxD L R h)), o4, none, none]) := by
  have hLl := O.ll
  have it : uiSeq (uVar 2) [some (.p (wD b L R)), some m, some x, some (aD is0 (nxD L R h)), o4, none, none] = some (l.map nI, [some (.p (wD b L R)), some m, some (.p (.list (l.map nI))), some (aD is0 (nxD L R h)), o4, none, none]) := by
    have hf := nm_frz hx
    have hp : ∀ d, frz (.p d) = some d := fun _ => rfl
    generalize aD is0 (nxD L R h) = am
    simp [uiSeq, uVar, G.take, takeS, hf, hp, seqD_ll]
  have l1 := lc_go (env := [some (.p (wD b L R)), some m, some (.p (.list (l.map nI))), some (aD is0 (nxD L R h)), o4, none, none]) (p := .sl 5) (t := uTru (uFun fAny (uaCons (uLc (uiSeq (uItem (uVar 3) (uVar 5))) (.sl 6) uYes (uIn false (uVar 6) (uVar 2)) [6]) uaNil))) (u := uVar 5) (vs := [5]) nI (fun i => (nextsP L R h i).any fun j => decide (j ∈ l)) iN l fun i hi => by
    have hia := item_aD (f := nxD L R h) (hl i hi).2
    have hd : isD (aD is0 (nxD L R h)) = true := rfl
    have hnl := nextsP_len (h := h) O i
    have hlr : ∀ j, j ∈ nextsP L R h i → j < L.length := fun j hj => nextsP_lt O hj
    generalize aD is0 (nxD L R h) = am at hia hd ⊢
    refine ⟨[some (.p (wD b L R)), some m, some (.p (.list (l.map nI))), some am, o4, some (iN i), none], [some (.p (wD b L R)), some m, some (.p (.list (l.map nI))), some am, o4, some (iN i), none], by simp [asg], ?_, fun _ => ⟨_, [some (.p (wD b L R)), some m, some (.p (.list (l.map nI))), some am, o4, some (iN i), none], rfl, rfl, rfl⟩, fun _ => rfl⟩
    have it2 : uiSeq (uItem (uVar 3) (uVar 5)) [some (.p (wD b L R)), some m, some (.p (.list (l.map nI))), some am, o4, some (iN i), none] = some ((nextsP L R h i).map nI, [some (.p (wD b L R)), some m, some (.p (.list (l.map nI))), some am, o4, some (iN i), none]) := by
      have hp : ∀ d, frz (.p d) = some d := fun _ => rfl
      simp [uiSeq, uItem, uVar, rd, hd, hia, giveM, G.take, hp, seqD_ll]
    have l2 := lc_go (env := [some (.p (wD b L R)), some m, some (.p (.list (l.map nI))), some am, o4, some (iN i), none]) (p := .sl 6) (t := uYes) (u := uIn false (uVar 6) (uVar 2)) (vs := [6]) nI (fun _ => true) (fun j => M.p (.bool (decide (j ∈ l)))) (nextsP L R h i) fun j hj => by
      have hin := inM_nat (y := j) (zs := l) fun z hz => by have := (hl z hz).1; omega
      generalize PyData.list (l.map nI) = ld at hin ⊢
      refine ⟨[some (.p (wD b L R)), some m, some (.p ld), some am, o4, some (iN i), some (iN j)], [some (.p (wD b L R)), some m, some (.p ld), some am, o4, some (iN i), some (iN j)], by simp [asg], rfl, fun _ => ⟨(.tmp (.p (.bool (decide (j ∈ l)))), [some (.p (wD b L R)), some m, some (.p ld), some am, o4, some (iN i), some (iN j)]), _, ?_, rfl, rfl⟩, fun z => by cases z⟩
      simp [uIn, uVar, rd, hin]
    rw [List.filter_eq_self.mpr (fun _ _ => rfl)] at l2
    exact anyU (lc_to it2 (by rw [List.length_map]; omega) rfl rfl l2 rfl)
  exact asg_at (lc_to it (by rw [List.length_map]; omega) rfl rfl l1 (e3 := [some (.p (wD b L R)), some m, some (.p (.list (l.map nI))), some (aD is0 (nxD L R h)), o4, none, none]) rfl) (by simp)
theorem coreS_len (nx : Nat → List Nat) (l : List Nat) : (coreS nx l).length ≤ l.length := List.length_filter_le ..
theorem core_loop (O : Ok n L R) (is0 : List Nat) : ∀ (ks : List PyData) (l : List Nat) (x : M) (o4 : Option M), Nm l x → (∀ i, i ∈ l → i < L.length ∧ i ∈ is0) → l.length ≤ 50 →
    ∃ x' o4', Nm (coreN (nextsP L R h) ks.length l) x' ∧ forL (.sl 4) m_law_core_b1 ks [some (.p (wD b L R)), some m, some x, some (aD is0 (nxD L R h)), o4, none, none] = some (.nx [some (.p (wD b L R)), some m, some x', some (aD is0 (nxD L R h)), o4', none, none])
  | [], l, x, o4, hx, hl, hll => ⟨x, o4, hx, rfl⟩
  | k :: ks, l, x, o4, hx, hl, hll => by
    have hb := core_body (b := b) (m := m) (h := h) O is0 hx hl hll (some (.p k))
    have := coreS_len (nextsP L R h) l
    obtain ⟨x', o4', h1, h2⟩ := core_loop O is0 ks (coreS (nextsP L R h) l) (.l ((coreS (nextsP L R h) l).map iN)) (some (.p k)) (.inl rfl) (fun i hi => hl i (coreS_sub hi)) (by omega)
    refine ⟨x', o4', h1, ?_⟩
    have ea : asg (.sl 4) (.p k) [some (.p (wD b L R)), some m, some x, some (aD is0 (nxD L R h)), o4, none, none] = some [some (.p (wD b L R)), some m, some x, some (aD is0 (nxD L R h)), some (.p k), none, none] := by simp [asg]
    rw [forL, ea, Option.bind_some, hb, Option.bind_some]
    simp only [stE_eq]
    exact h2
theorem core_ok (O : Ok n L R) (H : Hd L h) (hm : Rp h m) : ∃ c x, Nm c x ∧ D_law_core [.p (wD b L R), m] = some (x, [some (.p (wD b L R)), some m]) ∧ (c = [] ↔ ∀ i, ¬ Rch (nextsP L R h) i i) ∧ ∀ i, i ∈ c → i < L.length := by
  have hLl := O.ll
  have hlen := len_s (L := L) (e := [some (.p (wD b L R)), some m, none, none, none, none, none]) H hm rfl
  have hr := r1_ok (ua := uaCons (uFun fLen (uaCons (uVar 1) uaNil)) uaNil) (env := [some (.p (wD b L R)), some m, none, none, none, none, none]) (e := [some (.p (wD b L R)), some m, none, none, none, none, none]) (j := L.length) (by
    generalize uFun _ _ = U at hlen ⊢
    simp [uaCons, uaNil, hlen]) (rg_ok L.length (by omega))
  rw [rgD_nI] at hr
  let l0 := (List.range L.length).filter fun i => (h[i]?.getD none).isSome
  have l1 := lc_go (env := [some (.p (wD b L R)), some m, none, none, none, none, none]) (p := .sl 5) (t := uTruB (uBin fIsNot (uItem (uVar 1) (uVar 5)) (uC .none))) (u := uVar 5) (vs := [5]) nI (fun i => (h[i]?.getD none).isSome) iN (List.range L.length) fun i hi => by
    have hil : i < h.length := by rw [H.len]; exact List.mem_range.mp hi
    refine ⟨[some (.p (wD b L R)), some m, none, none, none, some (iN i), none], [some (.p (wD b L R)), some m, none, none, none, some (iN i), none], by simp [asg], ?_, fun _ => ⟨_, [some (.p (wD b L R)), some m, none, none, none, some (iN i), none], rfl, rfl, rfl⟩, fun _ => rfl⟩
    have hu := u_item hm hil (e := [some (.p (wD b L R)), some m, none, none, none, some (iN i), none]) (a := 1) (k := 5) rfl rfl
    have hn : fIsNot (.p (nO h[i])) (.p .none) = some (.p (.bool (h[i]?.getD none).isSome)) := by
      rw [List.getElem?_eq_getElem hil]
      show _ = some (M.p (.bool h[i].isSome))
      cases h[i] <;> rfl
    generalize uItem _ _ = U at hu ⊢
    generalize fIsNot = F at hn ⊢
    simp [uTruB, uBin, hu, uC, rd, hn]
  have hl0 : ∀ i, i ∈ l0 → i < L.length := fun i hi => List.mem_range.mp (List.mem_filter.mp hi).1
  have hl0n : l0.length ≤ L.length := by
    have := List.length_filter_le (fun i => (h[i]?.getD none).isSome) (List.range L.length)
    rw [List.length_range] at this
    exact this
  have nd0 : l0.Nodup := List.Pairwise.filter _ List.nodup_range
  have s1 := asg_at (i := 2) (lc_to hr (by rw [List.length_map, List.length_range]; omega) rfl rfl l1 (e3 := [some (.p (wD b L R)), some m, none, none, none, none, none]) rfl) (by simp)
  have s1 : sAsg (.sl 2) (uLc (uiR1 (uaCons (uFun fLen (uaCons (uVar 1) uaNil)) uaNil)) (.sl 5) (uTruB (uBin fIsNot (uItem (uVar 1) (uVar 5)) (uC .none))) (uVar 5) [5]) [some (.p (wD b L R)), some m, none, none, none, none, none] = some (.nx [some (.p (wD b L R)), some m, some (.l (l0.map iN)), none, none, none, none]) := s1
  have it2 : uiSeq (uVar 2) [some (.p (wD b L R)), some m, some (.l (l0.map iN)), none, none, none, none] = some (l0.map nI, [some (.p (wD b L R)), some m, some (.p (.list (l0.map nI))), none, none, none, none]) := by
    have hf := nm_frz (xs := l0) (m := .l (l0.map iN)) (.inl rfl)
    have hp : ∀ d, frz (.p d) = some d := fun _ => rfl
    generalize M.l (l0.map iN) = x at hf ⊢
    simp [uiSeq, uVar, G.take, takeS, hf, hp, seqD_ll]
  have l2 : lcL (.sl 5) uYes (uTup (uaCons (uVar 5) (uaCons (uFrz (uCall D_law_after (uaCons (uVar 0) (uaCons (uVar 1) (uaCons (uVar 5) uaNil))))) uaNil))) [5] (l0.map nI) [some (.p (wD b L R)), some m, some (.p (.list (l0.map nI))), none, none, none, none] = some (l0.map (fun i => M.p (.tuple [nI i, nxD L R h i])), [some (.p (wD b L R)), some m, some (.p (.list (l0.map nI))), none, none, none, none]) := by
    have aux : ∀ ld : PyData, lcL (.sl 5) uYes (uTup (uaCons (uVar 5) (uaCons (uFrz (uCall D_law_after (uaCons (uVar 0) (uaCons (uVar 1) (uaCons (uVar 5) uaNil))))) uaNil))) [5] (l0.map nI) [some (.p (wD b L R)), some m, some (.p ld), none, none, none, none] = some ((l0.filter fun _ => true).map (fun i => M.p (.tuple [nI i, nxD L R h i])), [some (.p (wD b L R)), some m, some (.p ld), none, none, none, none]) := fun ld => by
      refine lc_go nI (fun _ => true) _ l0 fun i hi => ?_
      have hc := frz_ok (call3 (after_ok (b := b) O H hm (hl0 i hi)) (e := [some (.p (wD b L R)), some m, some (.p ld), none, none, some (iN i), none]) (k := 5) rfl rfl rfl (by decide)) (nm_frz (.inl rfl))
      refine ⟨[some (.p (wD b L R)), some m, some (.p ld), none, none, some (iN i), none], [some (.p (wD b L R)), some m, some (.p ld), none, none, some (iN i), none], by simp [asg], rfl, fun _ => ⟨(.tmp (.p (.tuple [nI i, nxD L R h i])), [some (.p (wD b L R)), some m, some (.p ld), none, none, some (iN i), none]), _, ?_, rfl, rfl⟩, fun z => by cases z⟩
      generalize uFrz _ = U at hc ⊢
      simp [uTup, uaCons, uaNil, uVar, hc, takeL, G.take, takeS, frz, mkT, allP]
    have := aux (.list (l0.map nI))
    rwa [List.filter_eq_self.mpr (fun _ _ => rfl)] at this
  have h2 := lc_to it2 (by rw [List.length_map]; omega) rfl rfl l2 (e3 := [some (.p (wD b L R)), some m, some (.p (.list (l0.map nI))), none, none, none, none]) rfl
  have s2 : sAsg (.sl 3) (uFun fDictP (uaCons (uLc (uiSeq (uVar 2)) (.sl 5) uYes (uTup (uaCons (uVar 5) (uaCons (uFrz (uCall D_law_after (uaCons (uVar 0) (uaCons (uVar 1) (uaCons (uVar 5) uaNil))))) uaNil))) [5]) uaNil)) [some (.p (wD b L R)), some m, some (.l (l0.map iN)), none, none, none, none] = some (.nx [some (.p (wD b L R)), some m, some (.p (.list (l0.map nI))), some (aD l0 (nxD L R h)), none, none, none]) := by
    have hD : fDictP [.l (l0.map fun i => M.p (.tuple [nI i, nxD L R h i]))] = some (aD l0 (nxD L R h)) := by
      have ha := allP_map (l0.map fun i => PyData.tuple [nI i, nxD L R h i])
      rw [List.map_map] at ha
      have ha : allP (l0.map fun i => M.p (.tuple [nI i, nxD L R h i])) = some (l0.map fun i => PyData.tuple [nI i, nxD L R h i]) := ha
      show (allP (l0.map fun i => M.p (.tuple [nI i, nxD L R h i]))).bind (fun ds => (pairsD ds).map fun ps => M.dk (mergeD [] [] ps).1 (mergeD [] [] ps).2) = _
      rw [ha, Option.bind_some, pairs_map]
      have hg := merge_map (nxD L R h) l0 [] (fun i _ => List.not_mem_nil) nd0
      have hg : mergeD [] [] (l0.map fun (i : Nat) => ((Sum.inl (i : Int) : Key), nxD L R h i)) = (l0.map fun (i : Nat) => (Sum.inl (i : Int) : Key), l0.map fun i => M.p (nxD L R h i)) := hg
      show some (M.dk (mergeD [] [] (l0.map fun (i : Nat) => ((Sum.inl (i : Int) : Key), nxD L R h i))).1 (mergeD [] [] (l0.map fun (i : Nat) => ((Sum.inl (i : Int) : Key), nxD L R h i))).2) = _
      rw [hg]
      rfl
    generalize uLc _ _ _ _ _ = U at h2 ⊢
    generalize (l0.map fun i => M.p (.tuple [nI i, nxD L R h i])) = mm at h2 hD
    generalize aD l0 (nxD L R h) = am at hD ⊢
    simp [sAsg, uFun, uaCons, uaNil, h2, rdL, rd, hD, G.take, asg]
  have hlen2 : lenM (.p (.list (l0.map nI))) = some l0.length := nm_len (.inr rfl)
  have hr3 := r1_ok (ua := uaCons (uFun fLen (uaCons (uVar 2) uaNil)) uaNil) (env := [some (.p (wD b L R)), some m, some (.p (.list (l0.map nI))), some (aD l0 (nxD L R h)), none, none, none]) (e := [some (.p (wD b L R)), some m, some (.p (.list (l0.map nI))), some (aD l0 (nxD L R h)), none, none, none]) (j := l0.length) (by
    generalize aD l0 (nxD L R h) = am
    generalize PyData.list (l0.map nI) = ld at hlen2 ⊢
    simp [uaCons, uaNil, uFun, uVar, rdL, rd, fLen, hlen2]) (rg_ok l0.length (by omega))
  obtain ⟨x', o4', hx', l3⟩ := core_loop (b := b) (m := m) (h := h) O l0 (rgD 0 l0.length) l0 (.p (.list (l0.map nI))) none (.inr rfl) (fun i hi => ⟨hl0 i hi, hi⟩) (by omega)
  have hkl : (rgD 0 (l0.length : Int)).length = l0.length := by rw [rgD_nI, List.length_map, List.length_range]
  rw [hkl] at hx'
  have go : ∀ (y : M) (e : G.Env), sRet (uVar 2) [some (.p (wD b L R)), some m, some x', some (aD l0 (nxD L R h)), o4', none, none] = some (.rt y e) → m_law_core [some (.p (wD b L R)), some m, none, none, none, none, none] = some (.rt y e) := fun y e he => by
    unfold m_law_core
    rw [seq_go s1]
    refine (seq_go s2).trans ?_
    exact (seq_go ((for_go hr3).trans l3)).trans he
  have fin : D_law_core [.p (wD b L R), m] = some (x', [some (.p (wD b L R)), some m]) := by
    generalize aD l0 (nxD L R h) = am at go
    rcases hx' with rfl | rfl
    · exact fn_go (n := 7) (k := 2) (np := 2) (f := m_law_core) (ms := [.p (wD b L R), m]) (Eq.refl 2) (e := [some (.p (wD b L R)), some m, none, some am, o4', none, none]) (go _ _ rfl)
    · exact fn_go (n := 7) (k := 2) (np := 2) (f := m_law_core) (ms := [.p (wD b L R), m]) (Eq.refl 2) (e := [some (.p (wD b L R)), some m, some (.p (.list ((coreN (nextsP L R h) l0.length l0).map nI))), some am, o4', none, none]) (go _ _ rfl)
  refine ⟨coreN (nextsP L R h) l0.length l0, x', hx', fin, core_iff hl0 fun i hi => ?_, fun i hi => hl0 i (coreN_sub _ _ i hi)⟩
  · obtain ⟨p, hp⟩ := cyc_open hi
    have hil := (List.getElem?_eq_some_iff.mp hp).1
    rw [H.len] at hil
    refine List.mem_filter.mpr ⟨List.mem_range.mpr hil, ?_⟩
    rw [hp]
    rfl
theorem law_free_ok (O : Ok n L R) (H : Hd L h) (hm : Rp h m) {is : List Nat} {rg : Nat → List Nat} (Y : Rgs (nextsP L R h) L.length is rg) : D_law_is_free [.p (wD b L R), m] = some (.p (.bool is.isEmpty), [some (.p (wD b L R)), some m]) := by
  have hLl := O.ll
  obtain ⟨c, x, hx, hc, hi, hcl⟩ := core_ok (b := b) O H hm
  have hiff : c.isEmpty = is.isEmpty := by
    have : c = [] ↔ is = [] := by
      rw [hi]
      constructor
      · intro z
        exact List.eq_nil_iff_forall_not_mem.mpr fun i hi => z i ((Y.mem i).mp hi).2
      · intro z i hi
        obtain ⟨p, hp⟩ := cyc_open hi
        have hil := (List.getElem?_eq_some_iff.mp hp).1
        rw [H.len] at hil
        have := (Y.mem i).mpr ⟨hil, hi⟩
        rw [z] at this
        cases this
    cases c <;> cases is <;> simp_all
  have hq : lift2 dEq x (.l []) = some (.p (.bool is.isEmpty)) := by
    have hf := nm_frz hx
    have o1 := (okD_nats (r := c) fun j hj => by have := hcl j hj; omega).1
    have o2 : okD (.list []) = true := (okD_nats (r := []) fun j hj => by cases hj).1
    unfold lift2
    rw [hf, Option.bind_some, show frz (.l []) = some (.list []) from rfl, Option.bind_some]
    unfold dEq
    rw [o1, o2, ← hiff]
    cases c <;> simp [PyData.eqv, PyData.eqvAll]
  have hu := call2 hc (e := [some (.p (wD b L R)), some m]) rfl rfl
  refine fn_go (n := 2) (k := 2) (np := 2) (f := m_law_is_free) (ms := [.p (wD b L R), m]) (Eq.refl 2) (e := [some (.p (wD b L R)), some m]) ?_
  show m_law_is_free [some (.p (wD b L R)), some m] = _
  unfold m_law_is_free
  refine ret_go ?_
  generalize uCall _ _ = U at hu ⊢
  generalize lift2 dEq = F at hq ⊢
  simp [uBin, hu, uLst, uaNil, takeL, rd, hq]
end
end Hc

namespace Hc
open PySem PySem.Spec PyProof.Rows L2 G
theorem take_idx (i : Nat) : ∀ r : List Nat, r.take (r.idxOf i) = r.takeWhile fun j => !decide (j = i)
  | [] => rfl
  | x :: r => by
    rw [List.idxOf_cons]
    by_cases q : x = i
    · subst q
      simp
    · have h1 : (x == i) = false := by simpa using q
      rw [h1, List.takeWhile_cons]
      simp only [q, decide_false, Bool.not_false, ↓reduceIte]
      show (x :: r).take (r.idxOf i + 1) = _
      rw [List.take_succ_cons, take_idx i r]
theorem nextsP_mem {L : List (Nat × Nat)} {R : List (List Nat)} {h : List (Option Nat)} {i p j : Nat} (hi : i < L.length) (hat : h[i]? = some (some p)) : j ∈ nextsP L R h i ↔ (j ∈ (R.getD (otherP L[i] p) []).takeWhile fun j => !decide (j = i)) ∧ h[j]? = some (some (otherP L[i] p)) := by
  rw [nextsP_some hi hat, take_idx, List.mem_filter]
  simp
theorem rch_imp {nx nx' : Nat → List Nat} (h : ∀ i j, j ∈ nx i → j ∈ nx' i) {a b : Nat} (r : Rch nx a b) : Rch nx' a b := by
  induction r with
  | one e => exact .one (h _ _ e)
  | more _ e ih => exact .more ih (h _ _ e)
theorem rgs_eq {nx nx' : Nat → List Nat} {N N' : Nat} {is is' : List Nat} {rg rg' : Nat → List Nat} (Y : Rgs nx N is rg) (Y' : Rgs nx' N' is' rg') (h : ∀ i, (i < N' ∧ Rch nx' i i) ↔ (i < N ∧ Rch nx i i)) : is' = is :=
  srt_ext is' is Y'.srt Y.srt fun i => by rw [Y'.mem, Y.mem, h]
/-! two neighbours exchanged -/
theorem swap_mem (P : Nat → Prop) {i x y j : Nat} {post : List Nat} (hi : ¬ P i) (hxy : P x ↔ P y) : ∀ pre : List Nat, (j ∈ ((pre ++ x :: y :: post).takeWhile fun j => !decide (j = i)) ∧ P j) ↔ (j ∈ ((pre ++ y :: x :: post).takeWhile fun j => !decide (j = i)) ∧ P j)
  | [] => by
    by_cases qx : x = i
    · have hx : ¬ P x := by rw [qx]; exact hi
      have hy : ¬ P y := fun z => hx (hxy.mpr z)
      by_cases qy : y = i
      · simp [List.takeWhile_cons, qx, qy]
      · simp only [List.nil_append, List.takeWhile_cons, qx, qy, decide_true, decide_false, Bool.not_true, Bool.not_false]
        simp
        rintro rfl
        exact hy
    · by_cases qy : y = i
      · have hy : ¬ P y := by rw [qy]; exact hi
        have hx : ¬ P x := fun z => hy (hxy.mp z)
        simp only [List.nil_append, List.takeWhile_cons, qx, qy, decide_true, decide_false, Bool.not_true, Bool.not_false]
        simp
        rintro rfl
        exact hx
      · simp only [List.nil_append, List.takeWhile_cons, qx, qy, decide_false, Bool.not_false, ↓reduceIte, List.mem_cons]
        constructor
        · rintro ⟨z | z | z, w⟩
          · exact ⟨.inr (.inl z), w⟩
          · exact ⟨.inl z, w⟩
          · exact ⟨.inr (.inr z), w⟩
        · rintro ⟨z | z | z, w⟩
          · exact ⟨.inr (.inl z), w⟩
          · exact ⟨.inl z, w⟩
          · exact ⟨.inr (.inr z), w⟩
  | a :: pre => by
    have ih := swap_mem P (j := j) (post := post) hi hxy pre
    by_cases q : a = i
    · simp [List.takeWhile_cons, q]
    · simp only [List.cons_append, List.takeWhile_cons, q, decide_false, Bool.not_false, ↓reduceIte, List.mem_cons]
      constructor
      · rintro ⟨z | z, w⟩
        · exact ⟨.inl z, w⟩
        · exact ⟨.inr (ih.mp ⟨z, w⟩).1, w⟩
      · rintro ⟨z | z, w⟩
        · exact ⟨.inl z, w⟩
        · exact ⟨.inr (ih.mpr ⟨z, w⟩).1, w⟩
section
variable {n : Nat} {L : List (Nat × Nat)} {R : List (List Nat)} {s : List Nat}
theorem ok_swap (O : Ok n L R) {w : Nat} (hw : w < n) {r' : List Nat} (hr : r'.Perm (R.getD w [])) : Ok n L (R.set w r') := by
  refine ⟨by rw [List.length_set, O.rl], O.n0, O.n8, O.ll, O.lt, fun v hv => ?_⟩
  by_cases q : v = w
  · subst q
    rw [List.getD_eq_getElem?_getD, List.getElem?_set_self (by rw [O.rl]; exact hv)]
    exact hr.trans (O.pm v hv)
  · rw [List.getD_eq_getElem?_getD, List.getElem?_set_ne (fun z => q z.symm), ← List.getD_eq_getElem?_getD]
    exact O.pm v hv
theorem next_swap (O : Ok n L R) (S : Sd L s) {w x y : Nat} {pre post : List Nat} (hw : w < n) (hr : R.getD w [] = pre ++ x :: y :: post) (hxy : s[x]? = some w ↔ s[y]? = some w) (i j : Nat) :
    j ∈ nextsP L (R.set w (pre ++ y :: x :: post)) (s.map some) i ↔ j ∈ nextsP L R (s.map some) i := by
  by_cases hi : i < L.length
  · have hil : i < s.length := by rw [S.len]; exact hi
    have hat : (s.map some)[i]? = some (some s[i]) := by rw [List.getElem?_map, List.getElem?_eq_getElem hil]; rfl
    rw [nextsP_mem hi hat, nextsP_mem hi hat]
    by_cases q : otherP L[i] s[i] = w
    · rw [q]
      have h1 : (R.set w (pre ++ y :: x :: post)).getD w [] = pre ++ y :: x :: post := by
        rw [List.getD_eq_getElem?_getD, List.getElem?_set_self (by rw [O.rl]; exact hw)]
        rfl
      rw [h1, hr]
      have hmap : ∀ k : Nat, (s.map some)[k]? = some (some w) ↔ s[k]? = some w := fun k => by
        rw [List.getElem?_map]
        cases s[k]? <;> simp
      have hni : ¬ s[i]? = some w := by
        rw [List.getElem?_eq_getElem hil]
        intro z
        have z := Option.some.inj z
        have h2 := (sd_hd S).two hi hat
        have h3 := (O.lt L[i] (List.getElem_mem hi)).1
        unfold otherP at q
        split at q <;> omega
      have := swap_mem (fun k => s[k]? = some w) (i := i) (j := j) (post := post) hni hxy pre
      rw [hmap]
      exact this.symm
    · have h1 : (R.set w (pre ++ y :: x :: post)).getD (otherP L[i] s[i]) [] = R.getD (otherP L[i] s[i]) [] := by
        rw [List.getD_eq_getElem?_getD, List.getElem?_set_ne (fun z => q z.symm), ← List.getD_eq_getElem?_getD]
      rw [h1]
  · have : (s.map some)[i]? = none := List.getElem?_eq_none (by rw [List.length_map, S.len]; omega)
    unfold nextsP
    rw [this]
/-! one thing more -/
theorem rch_more {nx nx' : Nat → List Nat} {N : Nat} (ha : ∀ i, i < N → ∀ j, j ≠ N → (j ∈ nx' i ↔ j ∈ nx i)) (hb : (∀ i, N ∉ nx' i) ∨ nx' N = []) (hc : ∀ i, i < N → ∀ j, j ∈ nx i → j < N) (i : Nat) : (i < N + 1 ∧ Rch nx' i i) ↔ (i < N ∧ Rch nx i i) := by
  have inN : ∀ {a b}, a < N → Rch nx a b → b < N := fun h r => by
    induction r with
    | one e => exact hc _ h _ e
    | more _ e ih => exact hc _ ih _ e
  have fwd : ∀ {a b}, a < N → Rch nx' a b → b ≠ N → Rch nx a b := fun {a b} h r => by
    induction r with
    | one e => exact fun z => .one ((ha _ h _ z).mp e)
    | @more j k r e ih =>
      intro z
      by_cases q : j = N
      · subst q
        rcases hb with hb | hb
        · cases r with
          | one e => exact absurd e (hb _)
          | more _ e => exact absurd e (hb _)
        · rw [hb] at e; cases e
      · have r' := ih q
        exact .more r' ((ha _ (inN h r') _ z).mp e)
  have first : ∀ {a b}, Rch nx' a b → nx' a ≠ [] := fun r => by
    induction r with
    | one e => intro z; rw [z] at e; cases e
    | more _ _ ih => exact ih
  constructor
  · rintro ⟨h1, h2⟩
    by_cases q : i = N
    · subst q
      rcases hb with hb | hb
      · cases h2 with
        | one e => exact absurd e (hb _)
        | more _ e => exact absurd e (hb _)
      · exact absurd hb (first h2)
    · exact ⟨by omega, fwd (by omega) h2 q⟩
  · rintro ⟨h1, h2⟩
    have bwd : ∀ {a b}, a < N → Rch nx a b → Rch nx' a b := fun h r => by
      induction r with
      | one e => exact .one ((ha _ h _ (by have := hc _ h _ e; omega)).mpr e)
      | more r e ih => exact .more ih ((ha _ (inN h r) _ (by have := hc _ (inN h r) _ e; omega)).mpr e)
    exact ⟨by omega, bwd h1 h2⟩
end
end Hc

namespace Hc
open PySem PySem.Spec PyProof.Rows L2 G
theorem tw_mem {i j : Nat} : ∀ {r : List Nat}, j ∈ (r.takeWhile fun j => !decide (j = i)) → j ≠ i ∧ j ∈ r
  | [], h => by cases h
  | x :: r, h => by
    by_cases q : x = i
    · simp [List.takeWhile_cons, q] at h
    · simp only [List.takeWhile_cons, q, decide_false, Bool.not_false, ↓reduceIte, List.mem_cons] at h
      rcases h with rfl | h
      · exact ⟨q, List.mem_cons_self ..⟩
      · exact ⟨(tw_mem h).1, List.mem_cons_of_mem _ (tw_mem h).2⟩
theorem tw_app {i : Nat} (t : List Nat) : ∀ {r : List Nat}, i ∈ r → ((r ++ t).takeWhile fun j => !decide (j = i)) = r.takeWhile fun j => !decide (j = i)
  | [], h => by cases h
  | x :: r, h => by
    by_cases q : x = i
    · simp [List.takeWhile_cons, q]
    · simp only [List.cons_append, List.takeWhile_cons, q, decide_false, Bool.not_false, ↓reduceIte]
      rcases List.mem_cons.mp h with z | z
      · exact absurd z.symm q
      · rw [tw_app t z]
section
variable {n : Nat} {L : List (Nat × Nat)} {R : List (List Nat)} {s : List Nat}
def moreR (f : List Nat → List Nat) (u v : Nat) (R : List (List Nat)) : List (List Nat) := (List.range R.length).map fun w => if w = u ∨ w = v then f (R.getD w []) else R.getD w []
theorem moreR_at (f : List Nat → List Nat) (u v : Nat) {w : Nat} (hw : w < R.length) : (moreR f u v R).getD w [] = if w = u ∨ w = v then f (R.getD w []) else R.getD w [] := by
  unfold moreR
  rw [List.getD_eq_getElem?_getD, List.getElem?_map, List.getElem?_range hw]
  rfl
theorem own_more (L : List (Nat × Nat)) (u v w : Nat) : own (L ++ [(u, v)]) w = own L w ++ if w = u ∨ w = v then [L.length] else [] := by
  unfold own
  rw [List.length_append, List.length_singleton, List.range_succ, List.filter_append]
  congr 1
  · refine List.filter_congr fun i hi => ?_
    have hi := List.mem_range.mp hi
    rw [List.getD_eq_getElem?_getD, List.getElem?_append_left hi, ← List.getD_eq_getElem?_getD]
  · have : (L ++ [(u, v)]).getD L.length (0, 0) = (u, v) := by
      rw [List.getD_eq_getElem?_getD, List.getElem?_append_right (Nat.le_refl _), Nat.sub_self]
      rfl
    simp only [List.filter_cons, this, List.filter_nil]
    by_cases q : w = u ∨ w = v
    · have q' : u = w ∨ v = w := q.imp Eq.symm Eq.symm
      simp [q, q']
    · have q' : ¬ (u = w ∨ v = w) := fun z => q (z.imp Eq.symm Eq.symm)
      simp [q, q']
theorem ok_more (O : Ok n L R) {u v : Nat} (huv : u < v) (hv : v < n) (hl : L.length ≤ 39) {f : List Nat → List Nat} (hf : ∀ r : List Nat, (f r).Perm (r ++ [L.length])) : Ok n (L ++ [(u, v)]) (moreR f u v R) := by
  refine ⟨by unfold moreR; rw [List.length_map, List.length_range, O.rl], O.n0, O.n8, by rw [List.length_append, List.length_singleton]; omega, fun p hp => ?_, fun w hw => ?_⟩
  · rcases List.mem_append.mp hp with z | z
    · exact O.lt p z
    · rw [List.mem_singleton.mp z]; exact ⟨huv, hv⟩
  · rw [moreR_at f u v (by rw [O.rl]; exact hw), own_more]
    by_cases q : w = u ∨ w = v
    · rw [if_pos q, if_pos q]
      exact (hf _).trans ((O.pm w hw).append_right _)
    · rw [if_neg q, if_neg q, List.append_nil]
      exact O.pm w hw
theorem sd_more (S : Sd L s) {u v who : Nat} (h : who = u ∨ who = v) : Sd (L ++ [(u, v)]) (s ++ [who]) := by
  refine ⟨by rw [List.length_append, List.length_append, S.len]; rfl, fun i p hp => ?_⟩
  by_cases hi : i < L.length
  · rw [List.getElem?_append_left hi] at hp
    rw [List.getElem?_append_left (by rw [S.len]; exact hi)]
    exact S.at_ i p hp
  · have hie : i = L.length := by
      have := (List.getElem?_eq_some_iff.mp hp).1
      simp at this
      omega
    rw [hie, List.getElem?_append_right (Nat.le_refl _), Nat.sub_self] at hp
    have hp : (u, v) = p := by simpa using hp
    rw [hie, List.getElem?_append_right (by rw [S.len]; exact Nat.le_refl _), S.len, Nat.sub_self, ← hp]
    rcases h with rfl | rfl
    · exact .inl rfl
    · exact .inr rfl
theorem more_at (S : Sd L s) (who : Nat) {j : Nat} (hj : j ≠ L.length) : ((s ++ [who]).map some)[j]? = (s.map some)[j]? := by
  rw [List.getElem?_map, List.getElem?_map]
  congr 1
  by_cases h : j < s.length
  · rw [List.getElem?_append_left h]
  · rw [List.getElem?_eq_none (by rw [List.length_append, List.length_singleton]; have := S.len; omega), List.getElem?_eq_none (by omega)]
/-- laid as the dearest, or as the least dear -/
def dearF (N : Nat) (r : List Nat) : List Nat := r ++ [N]
def cheapF (N : Nat) (r : List Nat) : List Nat := N :: r
theorem rings_more (O : Ok n L R) (S : Sd L s) {u v who : Nat} (huv : u < v) (hv : v < n) (hl : L.length ≤ 39) (hwho : who = u ∨ who = v) {f : List Nat → List Nat} (hf : f = dearF L.length ∨ f = cheapF L.length) (i : Nat) :
    (i < L.length + 1 ∧ Rch (nextsP (L ++ [(u, v)]) (moreR f u v R) ((s ++ [who]).map some)) i i) ↔ (i < L.length ∧ Rch (nextsP L R (s.map some)) i i) := by
  have hL' : (L ++ [(u, v)]).length = L.length + 1 := by rw [List.length_append]; rfl
  have r_lt : ∀ w, w < n → ∀ j, j ∈ R.getD w [] → j < L.length := fun w hw j hj => own_lt ((O.pm w hw).mem_iff.mp hj)
  have small : ∀ i, (hi : i < L.length) → (s.map some)[i]? = some (some (s[i]'(by rw [S.len]; exact hi))) := fun i hi => by
    rw [List.getElem?_map, List.getElem?_eq_getElem (by rw [S.len]; exact hi)]
    rfl
  -- who lacks
  have mem' : ∀ i, (hi : i < L.length) → ∀ j, j ∈ nextsP (L ++ [(u, v)]) (moreR f u v R) ((s ++ [who]).map some) i ↔ (j ∈ ((moreR f u v R).getD (otherP L[i] (s[i]'(by rw [S.len]; exact hi))) []).takeWhile fun j => !decide (j = i)) ∧ ((s ++ [who]).map some)[j]? = some (some (otherP L[i] (s[i]'(by rw [S.len]; exact hi)))) := fun i hi j => by
    have := nextsP_mem (L := L ++ [(u, v)]) (R := moreR f u v R) (h := (s ++ [who]).map some) (i := i) (j := j) (by rw [hL']; omega) ((more_at S who (by omega)).trans (small i hi))
    rw [List.getElem_append_left hi] at this
    exact this
  have tw : ∀ i, (hi : i < L.length) → ∀ w, w < n → i ∈ R.getD w [] → ∀ j, j ≠ L.length → ((j ∈ ((moreR f u v R).getD w []).takeWhile fun j => !decide (j = i)) ↔ j ∈ (R.getD w []).takeWhile fun j => !decide (j = i)) := fun i hi w hw hiw j hj => by
    rw [moreR_at f u v (by rw [O.rl]; exact hw)]
    by_cases q : w = u ∨ w = v
    · rw [if_pos q]
      rcases hf with rfl | rfl
      · unfold dearF
        rw [tw_app _ hiw]
      · unfold cheapF
        have : ¬ L.length = i := by omega
        simp only [List.takeWhile_cons, this, decide_false, Bool.not_false, ↓reduceIte, List.mem_cons]
        exact ⟨fun z => z.elim (fun z => absurd z hj) id, .inr⟩
    · rw [if_neg q]
  refine rch_more (fun i hi j hj => ?_) ?_ (fun i hi j hj => nextsP_lt O hj) i
  · obtain ⟨hw, hiw⟩ := O.in_ hi (other_in L[i] (s[i]'(by rw [S.len]; exact hi)))
    rw [mem' i hi j, nextsP_mem hi (small i hi), tw i hi _ hw hiw j hj, more_at S who hj]
  · have atN : ((s ++ [who]).map some)[L.length]? = some (some who) := by
      rw [List.getElem?_map, List.getElem?_append_right (by rw [S.len]; exact Nat.le_refl _), S.len, Nat.sub_self]
      rfl
    have LN : (L ++ [(u, v)])[L.length]'(by rw [hL']; omega) = (u, v) := by
      rw [List.getElem_append_right (Nat.le_refl _)]
      simp
    have memN : ∀ j, j ∈ nextsP (L ++ [(u, v)]) (moreR f u v R) ((s ++ [who]).map some) L.length ↔ (j ∈ ((moreR f u v R).getD (otherP (u, v) who) []).takeWhile fun j => !decide (j = L.length)) ∧ ((s ++ [who]).map some)[j]? = some (some (otherP (u, v) who)) := fun j => by
      have := nextsP_mem (L := L ++ [(u, v)]) (R := moreR f u v R) (h := (s ++ [who]).map some) (i := L.length) (j := j) (by rw [hL']; omega) atN
      rw [LN] at this
      exact this
    rcases hf with hf | hf
    · refine .inl fun i hi => ?_
      by_cases q : i < L.length
      · obtain ⟨hw, hiw⟩ := O.in_ q (other_in L[i] (s[i]'(by rw [S.len]; exact q)))
        have := ((mem' i q L.length).mp hi).1
        rw [moreR_at f u v (by rw [O.rl]; exact hw)] at this
        split at this
        · rw [hf] at this
          unfold dearF at this
          rw [tw_app _ hiw] at this
          have := r_lt _ hw _ (tw_mem this).2
          omega
        · have := r_lt _ hw _ (tw_mem this).2
          omega
      · by_cases q2 : i = L.length
        · subst q2
          exact (tw_mem ((memN L.length).mp hi).1).1 rfl
        · have : ((s ++ [who]).map some)[i]? = none := List.getElem?_eq_none (by rw [List.length_map, List.length_append, List.length_singleton, S.len]; omega)
          unfold nextsP at hi
          rw [this] at hi
          cases hi
    · refine .inr (List.eq_nil_iff_forall_not_mem.mpr fun j hj => ?_)
      have := ((memN j).mp hj).1
      have hwn : otherP (u, v) who < n := by
        rcases other_in (u, v) who with z | z <;> rw [z]
        · show u < n; omega
        · exact hv
      have huvw : otherP (u, v) who = u ∨ otherP (u, v) who = v := other_in (u, v) who
      rw [moreR_at f u v (by rw [O.rl]; exact hwn), if_pos huvw, hf] at this
      simp [cheapF, List.takeWhile_cons] at this
end
end Hc

/-! a wish without a ring goes on: one of the two can have a thing more -/
namespace Hc
open PySem PySem.Spec PyProof.Rows L2 G
section
variable {nx nx' : Nat → List Nat} {t : Nat}
theorem pass_t (hs : ∀ i, i ≠ t → ∀ j, j ≠ t → j ∈ nx' i → j ∈ nx i) {a b : Nat} (r : Rch nx' a b) (ha : a ≠ t) : (b ≠ t ∧ Rch nx a b) ∨ ((b = t ∨ Rch nx' t b) ∧ Rch nx' a t) := by
  induction r with
  | @one j e =>
    by_cases q : j = t
    · exact .inr ⟨.inl q, .one (q ▸ e)⟩
    · exact .inl ⟨q, .one (hs _ ha _ q e)⟩
  | @more j k r e ih =>
    rcases ih with ⟨h1, h2⟩ | ⟨h1, h2⟩
    · by_cases q : k = t
      · exact .inr ⟨.inl q, .more r (q ▸ e)⟩
      · exact .inl ⟨q, .more h2 (hs _ h1 _ q e)⟩
    · refine .inr ⟨.inr ?_, h2⟩
      rcases h1 with h1 | h1
      · exact .one (h1 ▸ e)
      · exact .more h1 e
theorem cyc_t (hs : ∀ i, i ≠ t → ∀ j, j ≠ t → j ∈ nx' i → j ∈ nx i) (hno : ∀ i, ¬ Rch nx i i) {x : Nat} (r : Rch nx' x x) : Rch nx' t t := by
  by_cases q : x = t
  · exact q ▸ r
  · rcases pass_t hs r q with ⟨_, h⟩ | ⟨h1, h2⟩
    · exact absurd h (hno x)
    · rcases h1 with h1 | h1
      · exact absurd h1 q
      · exact rch_trans h1 h2
theorem from_t (hs : ∀ i, i ≠ t → ∀ j, j ≠ t → j ∈ nx' i → j ∈ nx i) {b : Nat} (r : Rch nx' t b) (hb : b ≠ t) : ∃ a, a ∈ nx' t ∧ a ≠ t ∧ (a = b ∨ Rch nx a b) := by
  induction r with
  | @one j e => exact ⟨j, e, hb, .inl rfl⟩
  | @more j k r e ih =>
    by_cases q : j = t
    · exact ⟨k, q ▸ e, hb, .inl rfl⟩
    · obtain ⟨a, h1, h2, h3⟩ := ih q
      refine ⟨a, h1, h2, .inr ?_⟩
      have e' := hs _ q _ hb e
      rcases h3 with rfl | h3
      · exact .one e'
      · exact .more h3 e'
theorem round_t (hs : ∀ i, i ≠ t → ∀ j, j ≠ t → j ∈ nx' i → j ∈ nx i) (ht : t ∉ nx' t) (r : Rch nx' t t) : ∃ a i, a ∈ nx' t ∧ a ≠ t ∧ i ≠ t ∧ t ∈ nx' i ∧ (a = i ∨ Rch nx a i) := by
  cases r with
  | one e => exact absurd e ht
  | @more j _ r e =>
    have q : j ≠ t := fun z => ht (z ▸ e)
    obtain ⟨a, h1, h2, h3⟩ := from_t hs r q
    exact ⟨a, j, h1, h2, q, e, h3⟩
end
theorem tw_trans {i t a : Nat} : ∀ {r : List Nat}, t ∈ (r.takeWhile fun j => !decide (j = i)) → a ∈ (r.takeWhile fun j => !decide (j = t)) → a ∈ r.takeWhile fun j => !decide (j = i)
  | [], h, _ => by cases h
  | x :: r, h, h' => by
    by_cases q : x = i
    · simp [List.takeWhile_cons, q] at h
    · by_cases q2 : x = t
      · simp [List.takeWhile_cons, q2] at h'
      · simp only [List.takeWhile_cons, q, q2, decide_false, Bool.not_false, ↓reduceIte, List.mem_cons] at h h' ⊢
        rcases h' with z | z
        · exact .inl z
        · rcases h with w | w
          · exact absurd w.symm q2
          · exact .inr (tw_trans w z)
section
variable {n : Nat} {L : List (Nat × Nat)} {R : List (List Nat)} {h : List (Option Nat)}
theorem next_cond {i j : Nat} (hl : h.length = L.length) (hj : j ∈ nextsP L R h i) : ∃ (hi : i < L.length) (p : Nat), h[i]? = some (some p) ∧ (j ∈ (R.getD (otherP L[i] p) []).takeWhile fun j => !decide (j = i)) ∧ h[j]? = some (some (otherP L[i] p)) := by
  have hp : ∃ p, h[i]? = some (some p) := by
    unfold nextsP at hj
    split at hj
    · exact ⟨_, ‹_›⟩
    · cases hj
  obtain ⟨p, hp⟩ := hp
  have hi : i < L.length := by rw [← hl]; exact (List.getElem?_eq_some_iff.mp hp).1
  exact ⟨hi, p, hp, (nextsP_mem hi hp).mp hj⟩
theorem set_sub {t who : Nat} (hl : h.length = L.length) (i : Nat) (hi : i ≠ t) (j : Nat) (hj : j ≠ t) (hm : j ∈ nextsP L R (h.set t (some who)) i) : j ∈ nextsP L R h i := by
  obtain ⟨hil, p, h1, h2, h3⟩ := next_cond (by rw [List.length_set]; exact hl) hm
  rw [List.getElem?_set_ne (fun z => hi z.symm)] at h1
  rw [List.getElem?_set_ne (fun z => hj z.symm)] at h3
  exact (nextsP_mem hil h1).mpr ⟨h2, h3⟩
theorem no_self (hl : h.length = L.length) (t : Nat) : t ∉ nextsP L R h t := fun hm => by
  obtain ⟨_, _, _, h2, _⟩ := next_cond hl hm
  exact (tw_mem h2).1 rfl
/-- not a ring with either -/
theorem extend (H : Hd L h) (O : Ok n L R) {t : Nat} (ht : t < L.length) (hno : ∀ i, ¬ Rch (nextsP L R h) i i) : (∀ i, ¬ Rch (nextsP L R (h.set t (some L[t].1))) i i) ∨ (∀ i, ¬ Rch (nextsP L R (h.set t (some L[t].2))) i i) := by
  by_cases c1 : ∀ i, ¬ Rch (nextsP L R (h.set t (some L[t].1))) i i
  · exact .inl c1
  by_cases c2 : ∀ i, ¬ Rch (nextsP L R (h.set t (some L[t].2))) i i
  · exact .inr c2
  exfalso
  obtain ⟨x1, r1⟩ := Classical.not_forall.mp c1
  obtain ⟨x2, r2⟩ := Classical.not_forall.mp c2
  have r1 := Classical.not_not.mp r1
  have r2 := Classical.not_not.mp r2
  have hlt := (O.lt L[t] (List.getElem_mem ht)).1
  have hl := H.len
  have hth : t < h.length := by rw [hl]; exact ht
  have l1 : (h.set t (some L[t].1)).length = L.length := by rw [List.length_set]; exact hl
  have l2 : (h.set t (some L[t].2)).length = L.length := by rw [List.length_set]; exact hl
  obtain ⟨a1, i1, p1, p2, p3, p4, p5⟩ := round_t (set_sub hl) (no_self l1 t) (cyc_t (set_sub hl) hno r1)
  obtain ⟨a2, i2, q1, q2, q3, q4, q5⟩ := round_t (set_sub hl) (no_self l2 t) (cyc_t (set_sub hl) hno r2)
  -- who has it, to whom it lacks
  have o1 : otherP L[t] L[t].1 = L[t].2 := by unfold otherP; rw [if_pos rfl]
  have o2 : otherP L[t] L[t].2 = L[t].1 := by unfold otherP; rw [if_neg (by omega)]
  have s1 : (h.set t (some L[t].1))[t]? = some (some L[t].1) := List.getElem?_set_self hth
  have s2 : (h.set t (some L[t].2))[t]? = some (some L[t].2) := List.getElem?_set_self hth
  obtain ⟨_, p, b1, b2, b3⟩ := next_cond l1 p1
  rw [s1] at b1
  cases b1
  rw [o1] at b2 b3
  rw [List.getElem?_set_ne (fun z => p2 z.symm)] at b3
  obtain ⟨_, p, d1, d2, d3⟩ := next_cond l2 q1
  rw [s2] at d1
  cases d1
  rw [o2] at d2 d3
  rw [List.getElem?_set_ne (fun z => q2 z.symm)] at d3
  obtain ⟨e0, pe, e1, e2, e3⟩ := next_cond l1 p4
  rw [s1] at e3
  rw [List.getElem?_set_ne (fun z => p3 z.symm)] at e1
  have e3 : L[t].1 = otherP L[i1] pe := Option.some.inj (Option.some.inj e3)
  obtain ⟨f0, pf, f1, f2, f3⟩ := next_cond l2 q4
  rw [s2] at f3
  rw [List.getElem?_set_ne (fun z => q3 z.symm)] at f1
  have f3 : L[t].2 = otherP L[i2] pf := Option.some.inj (Option.some.inj f3)
  have g1 : a2 ∈ nextsP L R h i1 := (nextsP_mem e0 e1).mpr ⟨tw_trans e2 (e3 ▸ d2), e3 ▸ d3⟩
  have g2 : a1 ∈ nextsP L R h i2 := (nextsP_mem f0 f1).mpr ⟨tw_trans f2 (f3 ▸ b2), f3 ▸ b3⟩
  have w1 : Rch (nextsP L R h) a1 a2 := by
    rcases p5 with rfl | z
    · exact .one g1
    · exact .more z g1
  have w2 : Rch (nextsP L R h) a2 a1 := by
    rcases q5 with rfl | z
    · exact .one g2
    · exact .more z g2
  exact hno a1 (rch_trans w1 w2)
theorem hd_set (H : Hd L h) {t who : Nat} (ht : t < L.length) (hw : who = L[t].1 ∨ who = L[t].2) : Hd L (h.set t (some who)) := by
  refine ⟨by rw [List.length_set, H.len], fun i p hp => ?_⟩
  by_cases q : t = i
  · subst q
    rw [List.getElem?_set_self (by rw [H.len]; exact ht)]
    rw [List.getElem?_eq_getElem ht] at hp
    have hp := Option.some.inj hp
    rcases hw with rfl | rfl
    · exact .inr (.inl (by rw [hp]))
    · exact .inr (.inr (by rw [hp]))
  · rw [List.getElem?_set_ne q]
    exact H.at_ i p hp
end
end Hc

/-! wishes granted -/
namespace Hc
open PySem PySem.Spec PyProof.Rows L2 G
open Classical in
noncomputable def freeB (L : List (Nat × Nat)) (R : List (List Nat)) (h : List (Option Nat)) : Bool := decide (∀ i, ¬ Rch (nextsP L R h) i i)
section
variable {n : Nat} {L : List (Nat × Nat)} {R : List (List Nat)} {h : List (Option Nat)} {b : Bool} {m : M}
theorem freeB_iff : freeB L R h = true ↔ ∀ i, ¬ Rch (nextsP L R h) i i := by
  simp only [freeB, decide_eq_true_eq]
theorem free_is (H : Hd L h) {is : List Nat} {rg : Nat → List Nat} (Y : Rgs (nextsP L R h) L.length is rg) : is.isEmpty = freeB L R h := by
  have : is = [] ↔ ∀ i, ¬ Rch (nextsP L R h) i i := by
    constructor
    · intro z i hi
      obtain ⟨p, hp⟩ := cyc_open hi
      have hil := (List.getElem?_eq_some_iff.mp hp).1
      rw [H.len] at hil
      have := (Y.mem i).mpr ⟨hil, hi⟩
      rw [z] at this
      cases this
    · intro z
      exact List.eq_nil_iff_forall_not_mem.mpr fun i hi => z i ((Y.mem i).mp hi).2
  cases hf : freeB L R h with
  | true =>
    rw [this.mpr (freeB_iff.mp hf)]
    rfl
  | false =>
    cases his : is with
    | nil => rw [freeB_iff.mpr (this.mp his)] at hf; cases hf
    | cons _ _ => rfl
/-- what the library tells of a wish, of a standing -/
theorem free_ok (O : Ok n L R) (H : Hd L h) (hm : Rp h m) : D_is_free [.p (wD b L R), m] = some (.p (.bool (freeB L R h)), [some (.p (wD b L R)), some m]) ∧ D_law_is_free [.p (wD b L R), m] = some (.p (.bool (freeB L R h)), [some (.p (wD b L R)), some m]) ∧
    ∃ r, D_ring_in [.p (wD b L R), m] = some (.p r, [some (.p (wD b L R)), some m]) ∧ ((freeB L R h = true ∧ r = .none) ∨ (freeB L R h = false ∧ ∃ i ps, r = .list ((i :: ps.reverse).map nI) ∧ i < L.length ∧ ch (nextsP L R h) (i :: (ps ++ [i])) ∧ ps.Nodup ∧ i ∉ ps ∧ ∀ x, x ∈ ps → x < L.length)) := by
  obtain ⟨is, rg, Y, hr⟩ := rings_ok (h := h) O H
  have e := free_is H Y
  obtain ⟨_, ⟨r, h2, h3⟩, h4⟩ := hr b m hm
  refine ⟨by rw [← e]; exact h4, by rw [← e]; exact law_free_ok O H hm Y, r, h2, ?_⟩
  rcases h3 with ⟨z, rfl⟩ | ⟨j, hj, _, rfl⟩
  · exact .inl ⟨by rw [← e, z]; rfl, rfl⟩
  · obtain ⟨ps, e1, e2, e3, e4, e5⟩ := Y.rg j hj
    refine .inr ⟨?_, j, ps, by rw [e1], ((Y.mem j).mp hj).1, e2, e3, e4, e5⟩
    rw [← e]
    cases is with
    | nil => cases hj
    | cons _ _ => rfl
theorem fis_ring {r : PyData} (hr : (freeB L R h = true ∧ r = .none) ∨ (freeB L R h = false ∧ ∃ i ps, r = .list ((i :: ps.reverse).map nI) ∧ i < L.length ∧ ch (nextsP L R h) (i :: (ps ++ [i])) ∧ ps.Nodup ∧ i ∉ ps ∧ ∀ x, x ∈ ps → x < L.length)) : fIs (.p r) (.p .none) = some (.p (.bool (freeB L R h))) ∧ fIsNot (.p r) (.p .none) = some (.p (.bool (!freeB L R h))) := by
  rcases hr with ⟨e, rfl⟩ | ⟨e, i, ps, rfl, _⟩ <;> rw [e] <;> exact ⟨rfl, rfl⟩
theorem cat_lp {as bs : List PyData} (h : as.length + bs.length ≤ 1000) : fAdd (.l (as.map .p)) (.l (bs.map .p)) = some (.l ((as ++ bs).map .p)) := by
  have a1 := allP_map as
  have a2 := allP_map bs
  have f1 := frzL_map as
  have f2 := frzL_map bs
  have hz : as.length + bs.length ≤ sizeLine := len_le_line h
  generalize as.map M.p = m1 at *
  generalize bs.map M.p = m2 at *
  simp [fAdd, lift2, frz, f1, f2, iI, catL, catO, a1, a2, hz]
abbrev hM (h : List (Option Nat)) : M := .l (h.map fun x => .p (nO x))
theorem hM_eq (h : List (Option Nat)) : hM h = .l ((h.map nO).map M.p) := by
  unfold hM
  rw [List.map_map]
  rfl
theorem cut_rp (hm : Rp h m) (lo hi : Option Int) : ∃ z, cutM m lo hi = some z ∧ fList [z] = some (hM (cutL h lo hi)) := by
  have key : (cutL (h.map nO) lo hi) = (cutL h lo hi).map nO := by
    unfold cutL
    rw [List.length_map, List.map_take, List.map_drop]
  rcases hm with rfl | rfl | rfl
  · refine ⟨_, rfl, ?_⟩
    show some (M.l ((cutL (h.map nO) lo hi).map M.p)) = _
    rw [key, hM_eq]
  · refine ⟨_, rfl, ?_⟩
    show (allP ((cutL (h.map nO) lo hi).map M.p)).map _ = _
    rw [allP_map]
    show some (M.l ((cutL (h.map nO) lo hi).map M.p)) = _
    rw [key, hM_eq]
  · have e : M.l (h.map fun x => M.p (nO x)) = .l ((h.map nO).map M.p) := hM_eq h
    refine ⟨.l ((cutL (h.map nO) lo hi).map M.p), ?_, ?_⟩
    · rw [e]
      show (allP ((h.map nO).map M.p)).map _ = _
      rw [allP_map]
      rfl
    · show (allP ((cutL (h.map nO) lo hi).map M.p)).map _ = _
      rw [allP_map]
      show some (M.l ((cutL (h.map nO) lo hi).map M.p)) = _
      rw [key, hM_eq]
theorem wished_ok (H : Hd L h) (hl : L.length ≤ 40) (hm : Rp h m) {t who : Nat} (ht : t < L.length) : D_wished [m, iN t, iN who] = some (hM (h.set t (some who)), [some m, some (iN t), some (iN who)]) := by
  have hth : t < h.length := by rw [H.len]; exact ht
  obtain ⟨z1, c1, f1⟩ := cut_rp hm none (some (t : Int))
  obtain ⟨z2, c2, f2⟩ := cut_rp hm (some ((t : Int) + 1)) none
  rw [cut_pre, hM_eq] at f1
  rw [show (t : Int) + 1 = ((t + 1 : Nat) : Int) by omega, cut_suf, hM_eq] at f2
  have c2 : cutM m (some ((t : Int) + 1)) none = some z2 := c2
  have hhl := H.len
  have k1 := cat_lp (as := (h.take t).map nO) (bs := [nI who]) (by rw [List.length_map, List.length_take, List.length_singleton]; omega)
  have k2 := cat_lp (as := (h.take t).map nO ++ [nI who]) (bs := (h.drop (t + 1)).map nO) (by rw [List.length_append, List.length_map, List.length_map, List.length_take, List.length_drop, List.length_singleton]; omega)
  have hset : (h.take t).map nO ++ [nI who] ++ (h.drop (t + 1)).map nO = (h.set t (some who)).map nO := by
    have := set_cut h t (some who) hth
    rw [← this, List.map_append, List.map_append]
    rfl
  rw [hset] at k2
  have k1 : fAdd (.l (((h.take t).map nO).map M.p)) (.l [iN who]) = some (.l (((h.take t).map nO ++ [nI who]).map M.p)) := k1
  have a1 : fAdd (iN t) (.p (.int 1)) = some (.p (.int ((t : Int) + 1))) := rfl
  refine fn_go (n := 3) (k := 3) (np := 3) (f := m_wished) (ms := [m, iN t, iN who]) (Eq.refl 3) (e := [some m, some (iN t), some (iN who)]) ?_
  show m_wished [some m, some (iN t), some (iN who)] = _
  unfold m_wished
  refine ret_go ?_
  rw [hM_eq (h.set t (some who))]
  generalize M.l (((h.set t (some who)).map nO).map M.p) = zz at k2 ⊢
  generalize M.l (((h.take t).map nO).map M.p) = x1 at f1 k1
  generalize M.l (((h.drop (t + 1)).map nO).map M.p) = x2 at f2 k2
  generalize M.l (((h.take t).map nO ++ [nI who]).map M.p) = x3 at k1 k2
  generalize fAdd = F at k1 k2 a1 ⊢
  simp [uBin, uFun, uaCons, uaNil, uSl, uNo, uPart, uVar, uC, uLst, rd, rdL, c1, a1, c2, f1, f2, takeL, G.take, takeS, frz, k1, k2]
theorem hM_rp (h : List (Option Nat)) : Rp h (hM h) := .inr (.inr rfl)
/-- those who can have a thing more -/
noncomputable def sidesP (L : List (Nat × Nat)) (R : List (List Nat)) (h : List (Option Nat)) (t : Nat) : List Nat := [(L.getD t (0, 0)).1, (L.getD t (0, 0)).2].filter fun who => freeB L R (h.set t (some who))
theorem sides_ok (O : Ok n L R) (H : Hd L h) (hm : Rp h m) {t : Nat} (ht : t < L.length) : D_sides_of [.p (wD b L R), m, iN t] = some (.l ((sidesP L R h t).map iN), [some (.p (wD b L R)), some m, some (iN t)]) := by
  have hLl := O.ll
  have hg : L.getD t (0, 0) = L[t] := by
    rw [List.getD_eq_getElem?_getD, List.getElem?_eq_getElem ht]
    rfl
  have e1 := item_lot (b := b) ht
  have i1 : uiSeq (uItem (uItem (uVar 0) (uC (.int 0))) (uVar 2)) [some (.p (wD b L R)), some m, some (iN t), none] = some ([L[t].1, L[t].2].map nI, [some (.p (wD b L R)), some m, some (iN t), none]) := by
    have e2 : seqD (sq b [nI L[t].1, nI L[t].2]) = some [nI L[t].1, nI L[t].2] := seqD_sq b _
    simp [uiSeq, uItem, uVar, uC, rd, isD_w, isD_sq, itemI, item_w0, e1, giveM, G.take, frz, e2]
  have l1 := lc_go (env := [some (.p (wD b L R)), some m, some (iN t), none]) (p := .sl 3) (t := uTruB (uBin fIs (uCall D_ring_in (uaCons (uVar 0) (uaCons (uCall D_wished (uaCons (uVar 1) (uaCons (uVar 2) (uaCons (uVar 3) uaNil)))) uaNil))) (uC .none))) (u := uVar 3) (vs := [3]) nI (fun who => freeB L R (h.set t (some who))) iN [L[t].1, L[t].2] fun who hw => by
    have hw' : who = L[t].1 ∨ who = L[t].2 := by simpa using hw
    have H' := hd_set H ht hw'
    have hwi := wished_ok H hLl hm (who := who) ht
    obtain ⟨_, _, r, hr, hr2⟩ := free_ok (b := b) O H' (hM_rp (h.set t (some who)))
    have hfi := (fis_ring hr2).1
    generalize freeB L R (h.set t (some who)) = k at hfi ⊢
    refine ⟨[some (.p (wD b L R)), some m, some (iN t), some (iN who)], [some (.p (wD b L R)), some m, some (iN t), some (iN who)], by simp [asg], ?_, fun _ => ⟨_, [some (.p (wD b L R)), some m, some (iN t), some (iN who)], rfl, rfl, rfl⟩, fun _ => rfl⟩
    have u1 : uCall D_wished (uaCons (uVar 1) (uaCons (uVar 2) (uaCons (uVar 3) uaNil))) [some (.p (wD b L R)), some m, some (iN t), some (iN who)] = some (.tmp (hM (h.set t (some who))), [some (.p (wD b L R)), some m, some (iN t), some (iN who)]) := by
      generalize hM (h.set t (some who)) = z at hwi ⊢
      cases m with
      | p d => simp [uCall, uaCons, uaNil, uVar, passL, passOp, hwi, backL, stM_eq]
      | _ => simp [uCall, uaCons, uaNil, uVar, passL, passOp, hwi, backL, stM_eq]
    have u2 : uCall D_ring_in (uaCons (uVar 0) (uaCons (uCall D_wished (uaCons (uVar 1) (uaCons (uVar 2) (uaCons (uVar 3) uaNil)))) uaNil)) [some (.p (wD b L R)), some m, some (iN t), some (iN who)] = some (.tmp (.p r), [some (.p (wD b L R)), some m, some (iN t), some (iN who)]) := by
      generalize uCall D_wished _ = U at u1 ⊢
      generalize hM (h.set t (some who)) = z at u1 hr
      simp [uCall, uaCons, uaNil, uVar, u1, passL, passOp, hr, backL, stM_eq]
    generalize uCall D_ring_in _ = U at u2 ⊢
    generalize fIs = F at hfi ⊢
    simp [uTruB, uBin, u2, uC, rd, hfi]
  have hlc := lc_to i1 (by simp) rfl rfl l1 (e3 := [some (.p (wD b L R)), some m, some (iN t), none]) rfl
  have hs : sidesP L R h t = [L[t].1, L[t].2].filter fun who => freeB L R (h.set t (some who)) := by
    unfold sidesP
    rw [hg]
  rw [hs]
  refine fn_go (n := 4) (k := 3) (np := 3) (f := m_sides_of) (ms := [.p (wD b L R), m, iN t]) (Eq.refl 3) (e := [some (.p (wD b L R)), some m, some (iN t), none]) ?_
  show m_sides_of [some (.p (wD b L R)), some m, some (iN t), none] = _
  unfold m_sides_of
  exact ret_go hlc
/-- none goes without -/
theorem sides_ne (O : Ok n L R) (H : Hd L h) (hf : freeB L R h = true) {t : Nat} (ht : t < L.length) : ∃ who r, sidesP L R h t = who :: r ∧ (who = L[t].1 ∨ who = L[t].2) ∧ freeB L R (h.set t (some who)) = true := by
  have hg : L.getD t (0, 0) = L[t] := by
    rw [List.getD_eq_getElem?_getD, List.getElem?_eq_getElem ht]
    rfl
  unfold sidesP
  rw [hg]
  cases h1 : freeB L R (h.set t (some L[t].1)) with
  | true => exact ⟨L[t].1, _, by rw [List.filter_cons_of_pos (by simpa using h1)], .inl rfl, h1⟩
  | false =>
    have h2 : freeB L R (h.set t (some L[t].2)) = true := by
      rcases extend H O ht (freeB_iff.mp hf) with z | z
      · rw [freeB_iff.mpr z] at h1; cases h1
      · exact freeB_iff.mpr z
    refine ⟨L[t].2, [], ?_, .inr rfl, h2⟩
    rw [List.filter_cons_of_neg (by simp [h1]), List.filter_cons_of_pos (by simpa using h2), List.filter_nil]
end
end Hc

namespace Hc
open PySem PySem.Spec PyProof.Rows L2 G
theorem fn_nx {n k np : Nat} {f : S} {ms : List M} {e : G.Env} (hk : ms.length = k) (h : f (padE n ms) = some (.nx e)) : fnOf n k np f ms = some (.p .none, outsOf np ms e) := by
  unfold fnOf
  rw [if_pos hk, stE_eq, h]
theorem enumD_gen {α : Type} (g : α → PyData) (d : α) : ∀ (xs : List α) (i : Nat), enumD i (xs.map g) = (List.range xs.length).map fun w => .tuple [.int ((i + w : Nat)), g (xs.getD w d)]
  | [], i => rfl
  | r :: xs, i => by
    rw [List.map_cons, enumD, enumD_gen g d xs (i + 1), List.length_cons, List.range_succ_eq_map, List.map_cons, List.map_map]
    congr 1
    refine List.map_congr_left fun w _ => ?_
    show PyData.tuple [.int ((i + 1 + w : Nat)), g (xs.getD w d)] = .tuple [.int ((i + (w + 1) : Nat)), g ((r :: xs).getD (w + 1) d)]
    rw [show i + 1 + w = i + (w + 1) by omega]
    rfl
section
variable {n : Nat} {L : List (Nat × Nat)} {R : List (List Nat)} {h : List (Option Nat)} {b : Bool} {m : M}
theorem look_free_ok (O : Ok n L R) (H : Hd L h) (hm : Rp h m) (hf : freeB L R h = true) : D_look_free [.p (wD b L R), m] = some (.p .none, [some (.p (wD b L R)), some m]) := by
  obtain ⟨_, _, r, hr, hr2⟩ := free_ok (b := b) O H hm
  have hfi := (fis_ring hr2).2
  rw [hf] at hfi
  have s1 := asg_at (i := 2) (call2 hr (e := [some (.p (wD b L R)), some m, none]) rfl rfl) (by simp)
  refine fn_nx (n := 3) (k := 2) (np := 2) (f := m_look_free) (ms := [.p (wD b L R), m]) (Eq.refl 2) (e := [some (.p (wD b L R)), some m, some (.p r)]) ?_
  show m_look_free [some (.p (wD b L R)), some m, none] = _
  unfold m_look_free
  rw [seq_go s1]
  refine (if_false (e' := [some (.p (wD b L R)), some m, some (.p r)]) ?_).trans rfl
  generalize fIsNot = F at hfi ⊢
  simp [uTruB, uBin, uVar, uC, rd, hfi]
noncomputable def gstep (L : List (Nat × Nat)) (R : List (List Nat)) (h g : List (Option Nat)) (t : Nat) : List (Option Nat) := if h.getD t none = none then (match sidesP L R g t with
  | who :: _ => g.set t (some who)
  | [] => g) else g
structure Gd (L : List (Nat × Nat)) (R : List (List Nat)) (h g : List (Option Nat)) : Prop where
  hd : Hd L g
  fr : freeB L R g = true
  ex : ∀ (i p : Nat), h[i]? = some (some p) → g[i]? = some (some p)
theorem gstep_ok (O : Ok n L R) {g : List (Option Nat)} (Y : Gd L R h g) {t : Nat} (ht : t < L.length) (hl : h.length = L.length) : Gd L R h (gstep L R h g t) ∧ (∃ p, (gstep L R h g t)[t]? = some (some p)) ∧ ∀ (i p : Nat), g[i]? = some (some p) → i ≠ t → (gstep L R h g t)[i]? = some (some p) := by
  have htg : t < g.length := by rw [Y.hd.len]; exact ht
  have hth : t < h.length := by rw [hl]; exact ht
  unfold gstep
  by_cases q : h.getD t none = none
  · rw [if_pos q]
    obtain ⟨who, r, h1, h2, h3⟩ := sides_ne O Y.hd Y.fr ht
    rw [h1]
    simp only []
    refine ⟨⟨hd_set Y.hd ht h2, h3, fun i p hp => ?_⟩, ⟨who, List.getElem?_set_self htg⟩, fun i p hp hi => by rw [List.getElem?_set_ne (fun z => hi z.symm)]; exact hp⟩
    by_cases z : t = i
    · subst z
      rw [List.getD_eq_getElem?_getD, hp] at q
      cases q
    · rw [List.getElem?_set_ne z]
      exact Y.ex i p hp
  · rw [if_neg q]
    refine ⟨Y, ?_, fun i p hp _ => hp⟩
    rw [List.getD_eq_getElem?_getD, List.getElem?_eq_getElem hth] at q
    cases hv : h[t] with
    | none => rw [hv] at q; exact absurd rfl q
    | some p => exact ⟨p, Y.ex t p (by rw [List.getElem?_eq_getElem hth, hv])⟩
theorem b1_granted (O : Ok n L R) {g : List (Option Nat)} (Y : Gd L R h g) {t : Nat} (ht : t < L.length) (d : PyData) :
    m_granted_b1 [some (.p (wD b L R)), some (.p d), some (hM g), some (iN t), some (.p (nO (h.getD t none)))] = some (.nx [some (.p (wD b L R)), some (.p d), some (hM (gstep L R h g t)), some (iN t), some (.p (nO (h.getD t none)))]) := by
  have hi := isn_nO (h.getD t none)
  have c1 : uTruB (uBin fIs (uVar 4) (uC .none)) [some (.p (wD b L R)), some (.p d), some (hM g), some (iN t), some (.p (nO (h.getD t none)))] = some ((h.getD t none).isNone, [some (.p (wD b L R)), some (.p d), some (hM g), some (iN t), some (.p (nO (h.getD t none)))]) := by
    generalize nO (h.getD t none) = z at hi ⊢
    generalize fIs = F at hi ⊢
    simp [uTruB, uBin, uVar, uC, rd, hi]
  unfold m_granted_b1 gstep
  cases hv : h.getD t none with
  | some p =>
    rw [hv] at c1
    rw [if_neg (by simp)]
    exact (if_false c1).trans rfl
  | none =>
    rw [hv] at c1
    rw [if_pos rfl]
    obtain ⟨who, r, h1, h2, h3⟩ := sides_ne O Y.hd Y.fr ht
    have hs := sides_ok (b := b) O Y.hd (hM_rp g) ht
    have hw := wished_ok Y.hd O.ll (hM_rp g) (who := who) ht
    rw [h1] at hs ⊢
    simp only []
    refine (if_true c1).trans ?_
    have hi0 : itemM (.l ((who :: r).map iN)) 0 = some (iN who) := by
      show atI _ ((0 : Nat) : Int) = _
      rw [atI_nat]
      rfl
    have hdd : isD (.l ((who :: r).map iN)) = false := rfl
    generalize M.l ((who :: r).map iN) = sm at hs hi0 hdd
    unfold hM at hs hw ⊢
    generalize (g.map fun x => M.p (nO x)) = gm at hs hw ⊢
    generalize ((g.set t (some who)).map fun x => M.p (nO x)) = zm at hw ⊢
    simp [sAsg, uCall, uaCons, uaNil, uVar, uItem, uC, passL, passOp, hs, backL, stM_eq, rd, hdd, itemI, hi0, giveM, hw, G.take, asg]
theorem granted_loop (O : Ok n L R) (hl : h.length = L.length) (d : PyData) : ∀ (ts : List Nat) (g : List (Option Nat)) (o3 o4 : Option M), Gd L R h g → (∀ t, t ∈ ts → t < L.length) →
    ∃ o3' o4', forL (.tp [(.sl 3), (.sl 4)]) m_granted_b1 (ts.map fun t => .tuple [nI t, nO (h.getD t none)]) [some (.p (wD b L R)), some (.p d), some (hM g), o3, o4] = some (.nx [some (.p (wD b L R)), some (.p d), some (hM (ts.foldl (gstep L R h) g)), o3', o4'])
      ∧ Gd L R h (ts.foldl (gstep L R h) g) ∧ (∀ (i p : Nat), g[i]? = some (some p) → i ∉ ts → (ts.foldl (gstep L R h) g)[i]? = some (some p)) ∧ ∀ t, t ∈ ts → ts.Nodup → ∃ p, (ts.foldl (gstep L R h) g)[t]? = some (some p)
  | [], g, o3, o4, Y, ht => ⟨o3, o4, rfl, Y, fun i p hp _ => hp, fun t ht => by cases ht⟩
  | t :: ts, g, o3, o4, Y, ht => by
    have ht0 := ht t (List.mem_cons_self ..)
    have hb := b1_granted (b := b) O Y ht0 d
    obtain ⟨Y1, ⟨p0, hp0⟩, k1⟩ := gstep_ok O Y ht0 hl
    obtain ⟨o3', o4', h1, Y2, h2, h3⟩ := granted_loop O hl d ts (gstep L R h g t) (some (iN t)) (some (.p (nO (h.getD t none)))) Y1 fun x hx => ht x (List.mem_cons_of_mem _ hx)
    refine ⟨o3', o4', ?_, Y2, fun i p hp hi => ?_, fun x hx nd => ?_⟩
    · have ea : asg (.tp [(.sl 3), (.sl 4)]) (.p (.tuple [nI t, nO (h.getD t none)])) [some (.p (wD b L R)), some (.p d), some (hM g), o3, o4] = some [some (.p (wD b L R)), some (.p d), some (hM g), some (iN t), some (.p (nO (h.getD t none)))] := by simp [asg, asgL, tupE]
      rw [List.map_cons, forL, ea, Option.bind_some, hb, Option.bind_some]
      simp only [stE_eq]
      exact h1
    · exact h2 i p (k1 i p hp fun z => hi (z ▸ List.mem_cons_self ..)) fun z => hi (List.mem_cons_of_mem _ z)
    · have nd' := List.nodup_cons.mp nd
      rcases List.mem_cons.mp hx with rfl | hx
      · exact ⟨p0, h2 x p0 hp0 nd'.1⟩
      · exact h3 x hx nd'.2
theorem all_some : ∀ g : List (Option Nat), (∀ i, i < g.length → ∃ p, g[i]? = some (some p)) → ∃ s : List Nat, g = s.map some
  | [], h => ⟨[], rfl⟩
  | x :: g, h => by
    obtain ⟨p, hp⟩ := h 0 (by simp)
    obtain ⟨s, hs⟩ := all_some g fun i hi => by
      obtain ⟨p, hp⟩ := h (i + 1) (by simp; omega)
      exact ⟨p, by simpa using hp⟩
    refine ⟨p :: s, ?_⟩
    have : x = some p := by simpa using hp
    rw [this, hs]
    rfl
theorem hd_sd {s : List Nat} (H : Hd L (s.map some)) : Sd L s := by
  refine ⟨by have := H.len; rwa [List.length_map] at this, fun i p hp => ?_⟩
  have := H.at_ i p hp
  rw [List.getElem?_map] at this
  rcases this with z | z | z
  · cases hs : s[i]? <;> rw [hs] at z <;> simp at z
  · cases hs : s[i]? with
    | none => rw [hs] at z; simp at z
    | some v => rw [hs] at z; simp at z; rw [z]; exact .inl rfl
  · cases hs : s[i]? with
    | none => rw [hs] at z; simp at z
    | some v => rw [hs] at z; simp at z; rw [z]; exact .inr rfl
theorem granted_ok (O : Ok n L R) (H : Hd L h) (hf : freeB L R h = true) : ∃ s, Sd L s ∧ freeB L R (s.map some) = true ∧ (∀ (i p : Nat), h[i]? = some (some p) → s[i]? = some p) ∧ s.map some = (List.range L.length).foldl (gstep L R h) h ∧
    ∀ b, D_granted [.p (wD b L R), .p (.tuple (h.map nO))] = some (.p (sD s), [some (.p (wD b L R)), some (.p (.tuple (h.map nO)))]) := by
  have hLl := O.ll
  have Y0 : Gd L R h h := ⟨H, hf, fun i p hp => hp⟩
  have lo := fun (b : Bool) => granted_loop (b := b) O H.len (.tuple (h.map nO)) (List.range L.length) h none none Y0 fun t ht => List.mem_range.mp ht
  obtain ⟨_, _, _, Y, _, hall⟩ := lo true
  obtain ⟨s, hs⟩ := all_some ((List.range L.length).foldl (gstep L R h) h) fun i hi => hall i (List.mem_range.mpr (by rw [Y.hd.len] at hi; exact hi)) List.nodup_range
  refine ⟨s, hd_sd (hs ▸ Y.hd), hs ▸ Y.fr, fun i p hp => ?_, hs.symm, fun b => ?_⟩
  · have := Y.ex i p hp
    rw [hs, List.getElem?_map] at this
    cases hsi : s[i]? with
    | none => rw [hsi] at this; simp at this
    | some v => rw [hsi] at this; simp at this; rw [this]
  · obtain ⟨o3, o4, l1, _⟩ := lo b
    rw [hs] at l1
    have lf := look_free_ok (b := b) O H (m := .p (.tuple (h.map nO))) (.inl rfl) hf
    have s1 : sExpr (uCall D_look_free (uaCons (uVar 0) (uaCons (uVar 1) uaNil))) [some (.p (wD b L R)), some (.p (.tuple (h.map nO))), none, none, none] = some (.nx [some (.p (wD b L R)), some (.p (.tuple (h.map nO))), none, none, none]) := by
      have := call2 lf (e := [some (.p (wD b L R)), some (.p (.tuple (h.map nO))), none, none, none]) rfl rfl
      generalize uCall _ _ = U at this ⊢
      simp [sExpr, this]
    have s2 : sAsg (.sl 2) (uFun fList (uaCons (uVar 1) uaNil)) [some (.p (wD b L R)), some (.p (.tuple (h.map nO))), none, none, none] = some (.nx [some (.p (wD b L R)), some (.p (.tuple (h.map nO))), some (hM h), none, none]) := by
      have hfl : fList [.p (.tuple (h.map nO))] = some (hM h) := by
        show some (M.l ((h.map nO).map M.p)) = _
        rw [hM_eq]
      generalize hM h = z at hfl ⊢
      generalize PyData.tuple (h.map nO) = d at hfl ⊢
      simp [sAsg, uFun, uaCons, uaNil, uVar, rdL, rd, hfl, G.take, asg]
    have it : uiOf gEnum (uaCons (uVar 1) uaNil) [some (.p (wD b L R)), some (.p (.tuple (h.map nO))), some (hM h), none, none] = some ((List.range L.length).map fun t => .tuple [nI t, nO (h.getD t none)], [some (.p (wD b L R)), some (.p (.tuple (h.map nO))), some (hM h), none, none]) := by
      have he := enumD_gen nO none h 0
      rw [H.len] at he
      have he : enumD 0 (h.map nO) = (List.range L.length).map fun t => .tuple [nI t, nO (h.getD t none)] := by
        rw [he]
        refine List.map_congr_left fun w _ => ?_
        rw [Nat.zero_add]
      have sqt : ∀ ds, seqD (.tuple ds) = some ds := fun _ => rfl
      generalize hM h = z
      generalize h.map nO = ds at he ⊢
      simp [uiOf, uaCons, uaNil, uVar, takeL, G.take, takeS, frz, frzL, gEnum, sqt, he]
    have s4 : sRet (uFun fTuple (uaCons (uVar 2) uaNil)) [some (.p (wD b L R)), some (.p (.tuple (h.map nO))), some (hM (s.map some)), o3, o4] = some (.rt (.p (sD s)) [some (.p (wD b L R)), some (.p (.tuple (h.map nO))), some (hM (s.map some)), o3, o4]) := by
      have hft : fTuple [hM (s.map some)] = some (.p (sD s)) := by
        rw [hM_eq]
        show (allP (((s.map some).map nO).map M.p)).map _ = _
        rw [allP_map, nO_map]
        rfl
      generalize hM (s.map some) = z at hft ⊢
      simp [sRet, uFun, uaCons, uaNil, uVar, rdL, rd, hft, mv]
    refine fn_go (n := 5) (k := 2) (np := 2) (f := m_granted) (ms := [.p (wD b L R), .p (.tuple (h.map nO))]) (Eq.refl 2) (e := [some (.p (wD b L R)), some (.p (.tuple (h.map nO))), some (hM (s.map some)), o3, o4]) ?_
    show m_granted [some (.p (wD b L R)), some (.p (.tuple (h.map nO))), none, none, none] = _
    unfold m_granted
    rw [seq_go s1, seq_go s2]
    refine (seq_go ((for_go it).trans l1)).trans ?_
    exact s4
end
end Hc

/-! moves: a row walked, what rests, what has moved makes no ring -/
namespace Hc
open PySem PySem.Spec PyProof.Rows L2 G
section
variable {n : Nat} {L : List (Nat × Nat)} {R : List (List Nat)} {s : List Nat} {b : Bool}
theorem sd_give (S : Sd L s) (O : Ok n L R) {i : Nat} (hi : i < L.length) : Sd L (giveP L s i) := by
  rw [give_eq S hi]
  refine ⟨by rw [List.length_set, S.len], fun j p hp => ?_⟩
  by_cases z : i = j
  · subst z
    have hp' : L[i] = p := by
      rw [List.getElem?_eq_getElem hi] at hp
      exact Option.some.inj hp
    rw [List.getElem?_set_self (by rw [S.len]; exact hi), hp']
    have := O.lt p (by rw [← hp']; exact List.getElem_mem hi)
    unfold otherP
    split
    · exact .inr rfl
    · exact .inl rfl
  · rw [List.getElem?_set_ne z]
    exact S.at_ j p hp
/-- the law's own move -/
theorem gave_ok (O : Ok n L R) (S : Sd L s) {who : Nat} (hw : who < n) {i : Nat} {r : List Nat} (q : hadP R s who = i :: r) :
    D_law_gave [.p (wD true L R), .p (sD s), iN who] = some (.p (sD (giveP L s i)), [some (.p (wD true L R)), some (.p (sD s)), some (iN who)]) := by
  have hi := (had_lt O (who := who) (i := i) (s := s) (by rw [q]; exact List.mem_cons_self ..)).1
  have hs : i < s.length := by rw [S.len]; exact hi
  have h0 := had_ok (b := true) O S hw
  rw [q] at h0
  have hat : (s.map some)[i]? = some (some s[i]) := by rw [List.getElem?_map, List.getElem?_eq_getElem hs]; rfl
  have h1 := lacker_ok (b := true) O (sd_hd S) (sd_rp s) hi hat
  obtain ⟨x, g1, g2⟩ := give_cat (v := otherP L[i] s[i]) hs (by rw [S.len]; exact O.ll)
  have a1 : fAdd (iN i) (.p (.int 1)) = some (.p (.int ((i : Int) + 1))) := rfl
  have e : itemM (.l (iN i :: List.map iN r)) 0 = some (iN i) := by
    show atI _ _ = _
    exact atI_nat _ 0
  rw [give_eq S hi]
  simp [D_law_gave, fnOf, m_law_gave, padE, outsOf, stE_eq, stM_eq, sSeq, sAsg, uItem, uCall, uaCons, uaNil, uVar, uC, passL, passOp, h0, backL, rd, isD, itemI, e, giveM, G.take, asg, sRet, uBin, uSl, uNo, uPart, cut_s1, cut_s2, uTup, takeL, takeS, frz, mkT, allP, h1, g1, g2, a1, mv]
/-- a row that can be walked: the standing behind it, what was handed over -/
inductive Wk (L : List (Nat × Nat)) (R : List (List Nat)) : List Nat → List Nat → List Nat → List Nat → Prop
  | nil {s : List Nat} : Wk L R s [] s []
  | cons {s row s' ts r : List Nat} {who i : Nat} : hadP R s who = i :: r → Wk L R (giveP L s i) row s' ts → Wk L R s (who :: row) s' (i :: ts)
theorem Wk.sd (O : Ok n L R) {row s' ts : List Nat} (w : Wk L R s row s' ts) (S : Sd L s) : Sd L s' := by
  induction w with
  | nil => exact S
  | cons h _ ih => exact ih (sd_give S O (had_lt O (by rw [h]; exact List.mem_cons_self ..)).1)
theorem walked_loop (O : Ok n L R) (o1 o2 : Option M) : ∀ {row : List Nat} {s s' ts : List Nat} (fs : List Nat) (k : Nat) (o5 o6 o7 : Option M), Wk L R s row s' ts → Sd L s → (∀ w, w ∈ row → w < n) → fs.length + row.length ≤ 9000 →
    ∃ o5' o6' o7', forL (.tp [(.sl 5), (.sl 6)]) m_walked_b1 (enumD k (row.map nI)) [some (.p (wD b L R)), o1, o2, some (.p (sD s)), some (.l (fs.map iN)), o5, o6, o7] = some (.nx [some (.p (wD b L R)), o1, o2, some (.p (sD s')), some (.l ((fs ++ ts).map iN)), o5', o6', o7'])
  | [], s, s', ts, fs, k, o5, o6, o7, w, S, hr, hl => by
    cases w
    exact ⟨o5, o6, o7, by rw [List.append_nil]; rfl⟩
  | who :: row, s, s', ts, fs, k, o5, o6, o7, w, S, hr, hl => by
    cases w with
    | @cons _ _ _ ts r _ i q w =>
      rw [List.length_cons] at hl
      have hw := hr who (List.mem_cons_self ..)
      have hi := (had_lt O (who := who) (i := i) (s := s) (by rw [q]; exact List.mem_cons_self ..)).1
      have hn := next_ok (b := b) O S hw
      rw [q] at hn
      have hn : D_next_of [.p (wD b L R), .p (sD s), iN who] = some (iN i, [some (.p (wD b L R)), some (.p (sD s)), some (iN who)]) := hn
      have hh := handed_ok (b := b) O S hi
      obtain ⟨p5, p6, p7, ih⟩ := walked_loop O o1 o2 (fs ++ [i]) (k + 1) (some (.p (.int (k : Nat)))) (some (iN who)) (some (iN i)) w (sd_give S O hi) (fun x hx => hr x (List.mem_cons_of_mem _ hx)) (by rw [List.length_append, List.length_singleton]; omega)
      refine ⟨p5, p6, p7, ?_⟩
      have hlt : (fs.map iN).length < sizeLine := by rw [sizeLine_eq, List.length_map]; omega
      have hap : (fs ++ [i]).map iN = fs.map iN ++ [iN i] := by rw [List.map_append]; rfl
      have hbody : m_walked_b1 [some (.p (wD b L R)), o1, o2, some (.p (sD s)), some (.l (fs.map iN)), some (.p (.int (k : Nat))), some (iN who), o7] = some (.nx [some (.p (wD b L R)), o1, o2, some (.p (sD (giveP L s i))), some (.l ((fs ++ [i]).map iN)), some (.p (.int (k : Nat))), some (iN who), some (iN i)]) := by
        have hni : fIs (iN i) (.p .none) = some (.p (.bool false)) := rfl
        rw [hap]
        unfold m_walked_b1
        generalize fs.map iN = fm at hlt ⊢
        generalize wD b L R = W at hn hh ⊢
        generalize sD s = sd at hn hh ⊢
        generalize sD (giveP L s i) = sd' at hh ⊢
        generalize fIs = F at hni ⊢
        simp [sSeq, sAsg, uCall, uaCons, uaNil, uVar, uC, passL, passOp, hn, hh, backL, stM_eq, stE_eq, G.take, takeS, frz, asg, sIf, uTruB, uBin, rd, hni, sPass, sExpr, uApp, hlt]
      have ea : asg (.tp [(.sl 5), (.sl 6)]) (.p (.tuple [.int (k : Nat), nI who])) [some (.p (wD b L R)), o1, o2, some (.p (sD s)), some (.l (fs.map iN)), o5, o6, o7] = some [some (.p (wD b L R)), o1, o2, some (.p (sD s)), some (.l (fs.map iN)), some (.p (.int (k : Nat))), some (iN who), o7] := by simp [asg, asgL, tupE]
      rw [List.map_cons, enumD, forL, ea, Option.bind_some, hbody, Option.bind_some]
      simp only [stE_eq]
      rw [ih, List.append_assoc]
      rfl
theorem walked_ok (O : Ok n L R) (S : Sd L s) {row s' ts : List Nat} {m : M} (w : Wk L R s row s' ts) (hm : Nm row m) (hr : ∀ x, x ∈ row → x < n) (hl : row.length ≤ 9000) :
    D_walked [.p (wD b L R), .p (sD s), m] = some (.p (.tuple [sD s', .list (ts.map nI)]), [some (.p (wD b L R)), some (.p (sD s)), some (.p (.list (row.map nI)))]) := by
  obtain ⟨p5, p6, p7, lo⟩ := walked_loop (b := b) O (some (.p (sD s))) (some (.p (.list (row.map nI)))) [] 0 none none none w S hr (by simpa using hl)
  have hf := nm_frz hm
  have e1 : fTuple [.p (sD s)] = some (.p (sD s)) := rfl
  have s1 : sPar 3 4 (uaCons (uFun fTuple (uaCons (uVar 1) uaNil)) (uaCons (uLst uaNil) uaNil)) [some (.p (wD b L R)), some (.p (sD s)), some m, none, none, none, none, none] = some (.nx [some (.p (wD b L R)), some (.p (sD s)), some m, some (.p (sD s)), some (.l ([].map iN)), none, none, none]) := by
    generalize sD s = sd at e1 ⊢
    simp [sPar, uaCons, uaNil, uFun, uVar, rdL, rd, e1, uLst, takeL, G.take]
  have it : uiOf gEnum (uaCons (uVar 2) uaNil) [some (.p (wD b L R)), some (.p (sD s)), some m, some (.p (sD s)), some (.l ([].map iN)), none, none, none] = some (enumD 0 (row.map nI), [some (.p (wD b L R)), some (.p (sD s)), some (.p (.list (row.map nI))), some (.p (sD s)), some (.l ([].map iN)), none, none, none]) := by
    generalize row.map nI = rr at hf ⊢
    have hp : ∀ d, frz (.p d) = some d := fun _ => rfl
    simp [uiOf, uaCons, uaNil, uVar, takeL, G.take, takeS, hf, hp, frzL, gEnum, seqD_ll]
  refine fn_go (n := 8) (k := 3) (np := 3) (f := m_walked) (ms := [.p (wD b L R), .p (sD s), m]) (Eq.refl 3) (e := [some (.p (wD b L R)), some (.p (sD s)), some (.p (.list (row.map nI))), some (.p (sD s')), some (.p (.list (ts.map nI))), p5, p6, p7]) ?_
  show m_walked [some (.p (wD b L R)), some (.p (sD s)), some m, none, none, none, none, none] = _
  unfold m_walked
  rw [seq_go s1]
  refine (seq_go ((for_go it).trans lo)).trans ?_
  have hft : frz (.l (([] ++ ts).map iN)) = some (.list (ts.map nI)) := nm_frz (.inl rfl)
  generalize M.l (([] ++ ts).map iN) = lm at hft ⊢
  generalize PyData.list (row.map nI) = rr
  generalize PyData.list (ts.map nI) = tt at hft ⊢
  generalize sD s' = sd'
  generalize sD s = sd
  refine ret_go ?_
  have hp : ∀ d, frz (.p d) = some d := fun _ => rfl
  simp [uTup, uaCons, uaNil, uVar, takeL, G.take, takeS, hft, hp, mkT, allP]
/-- the call of it, the row in whatever hand -/
theorem call_row {F : Fn} {w st : PyData} {m r : M} {row : List Nat} {e : G.Env} {i j k : Nat} (hm : Nm row m) (hF : F [.p w, .p st, m] = some (r, [some (.p w), some (.p st), some (.p (.list (row.map nI)))])) (hi : e[i]? = some (some (.p w))) (hj : e[j]? = some (some (.p st))) (hk : e[k]? = some (some m)) :
    uCall F (uaCons (uVar i) (uaCons (uVar j) (uaCons (uVar k) uaNil))) e = some (.tmp r, e.set k (some (.p (.list (row.map nI))))) := by
  rcases hm with rfl | rfl
  · generalize PyData.list (row.map nI) = rr at hF ⊢
    generalize row.map iN = rm at hF hk
    simp [uCall, uaCons, uaNil, uVar, hi, hj, hk, passL, passOp, hF, backL, stM_eq]
  · have hs : e.set k (some (.p (.list (row.map nI)))) = e := st_set_self hk
    rw [hs]
    generalize PyData.list (row.map nI) = rr at hF hk ⊢
    simp [uCall, uaCons, uaNil, uVar, hi, hj, hk, passL, passOp, hF, backL, stM_eq]
theorem gone_ok (O : Ok n L R) (S : Sd L s) {row s' ts : List Nat} {m : M} (w : Wk L R s row s' ts) (hm : Nm row m) (hr : ∀ x, x ∈ row → x < n) (hl : row.length ≤ 9000) :
    D_gone [.p (wD b L R), .p (sD s), m] = some (.p (sD s'), [some (.p (wD b L R)), some (.p (sD s)), some (.p (.list (row.map nI)))]) := by
  have hc := call_row hm (walked_ok (b := b) O S w hm hr hl) (e := [some (.p (wD b L R)), some (.p (sD s)), some m]) (i := 0) (j := 1) (k := 2) rfl rfl rfl
  refine fn_go (n := 3) (k := 3) (np := 3) (f := m_gone) (ms := [.p (wD b L R), .p (sD s), m]) (Eq.refl 3) (e := [some (.p (wD b L R)), some (.p (sD s)), some (.p (.list (row.map nI)))]) ?_
  show m_gone [some (.p (wD b L R)), some (.p (sD s)), some m] = _
  unfold m_gone
  refine ret_go ?_
  have hi0 : itemM (.p (.tuple [sD s', .list (ts.map nI)])) 0 = some (.p (sD s')) := rfl
  have hd : isD (.p (.tuple [sD s', .list (ts.map nI)])) = false := rfl
  have hc : uCall D_walked (uaCons (uVar 0) (uaCons (uVar 1) (uaCons (uVar 2) uaNil))) [some (.p (wD b L R)), some (.p (sD s)), some m] = some (.tmp (.p (.tuple [sD s', .list (ts.map nI)])), [some (.p (wD b L R)), some (.p (sD s)), some (.p (.list (row.map nI)))]) := hc
  generalize uCall _ _ = U at hc ⊢
  generalize PyData.tuple [sD s', .list (ts.map nI)] = tt at hc hi0 hd
  simp [uItem, hc, uC, rd, hd, itemI, hi0, giveM]
theorem movers_ok (O : Ok n L R) (S : Sd L s) {row s' ts : List Nat} {m : M} (w : Wk L R s row s' ts) (hm : Nm row m) (hr : ∀ x, x ∈ row → x < n) (hl : row.length ≤ 9000) :
    D_movers [.p (wD b L R), .p (sD s), m] = some (.p (.list (ts.map nI)), [some (.p (wD b L R)), some (.p (sD s)), some (.p (.list (row.map nI)))]) := by
  have hc := call_row hm (walked_ok (b := b) O S w hm hr hl) (e := [some (.p (wD b L R)), some (.p (sD s)), some m]) (i := 0) (j := 1) (k := 2) rfl rfl rfl
  refine fn_go (n := 3) (k := 3) (np := 3) (f := m_movers) (ms := [.p (wD b L R), .p (sD s), m]) (Eq.refl 3) (e := [some (.p (wD b L R)), some (.p (sD s)), some (.p (.list (row.map nI)))]) ?_
  show m_movers [some (.p (wD b L R)), some (.p (sD s)), some m] = _
  unfold m_movers
  refine ret_go ?_
  have hi0 : itemM (.p (.tuple [sD s', .list (ts.map nI)])) 1 = some (.p (.list (ts.map nI))) := rfl
  have hd : isD (.p (.tuple [sD s', .list (ts.map nI)])) = false := rfl
  have hc : uCall D_walked (uaCons (uVar 0) (uaCons (uVar 1) (uaCons (uVar 2) uaNil))) [some (.p (wD b L R)), some (.p (sD s)), some m] = some (.tmp (.p (.tuple [sD s', .list (ts.map nI)])), [some (.p (wD b L R)), some (.p (sD s)), some (.p (.list (row.map nI)))]) := hc
  generalize uCall _ _ = U at hc ⊢
  generalize PyData.tuple [sD s', .list (ts.map nI)] = tt at hc hi0 hd
  simp [uItem, hc, uC, rd, hd, itemI, hi0, giveM]
theorem Wk.lt (O : Ok n L R) {row s' ts : List Nat} (w : Wk L R s row s' ts) : ∀ t, t ∈ ts → t < L.length := by
  induction w with
  | nil => intro t h; cases h
  | cons h _ ih =>
    intro t ht
    rcases List.mem_cons.mp ht with rfl | ht
    · exact (had_lt O (by rw [h]; exact List.mem_cons_self ..)).1
    · exact ih t ht
theorem at_rest_ok (O : Ok n L R) (S : Sd L s) {row s' ts : List Nat} {m : M} (w : Wk L R s row s' ts) (hm : Nm row m) (hr : ∀ x, x ∈ row → x < n) (hl : row.length ≤ 9000) :
    D_at_rest [.p (wD b L R), .p (sD s), m] = some (.l (((List.range L.length).filter fun i => !decide (i ∈ ts)).map iN), [some (.p (wD b L R)), some (.p (sD s)), some (.p (.list (row.map nI)))]) := by
  have hLl := O.ll
  have hts := w.lt O
  have s1 := asg_at (i := 3) (call_row hm (movers_ok (b := b) O S w hm hr hl) (e := [some (.p (wD b L R)), some (.p (sD s)), some m, none, none]) (i := 0) (j := 1) (k := 2) rfl rfl rfl) (by simp)
  have s1 : sAsg (.sl 3) (uCall D_movers (uaCons (uVar 0) (uaCons (uVar 1) (uaCons (uVar 2) uaNil)))) [some (.p (wD b L R)), some (.p (sD s)), some m, none, none] = some (.nx [some (.p (wD b L R)), some (.p (sD s)), some (.p (.list (row.map nI))), some (.p (.list (ts.map nI))), none]) := s1
  have hlen := len_w0 (L := L) (R := R) (b := b) (e := [some (.p (wD b L R)), some (.p (sD s)), some (.p (.list (row.map nI))), some (.p (.list (ts.map nI))), none]) rfl
  have hr1 := r1_ok (ua := uaCons (uFun fLen (uaCons (uItem (uVar 0) (uC (.int 0))) uaNil)) uaNil) (env := [some (.p (wD b L R)), some (.p (sD s)), some (.p (.list (row.map nI))), some (.p (.list (ts.map nI))), none]) (e := [some (.p (wD b L R)), some (.p (sD s)), some (.p (.list (row.map nI))), some (.p (.list (ts.map nI))), none]) (j := L.length) (by
    generalize uFun _ _ = U at hlen ⊢
    simp [uaCons, uaNil, hlen]) (rg_ok L.length (by omega))
  rw [rgD_nI] at hr1
  have l1 := lc_go (env := [some (.p (wD b L R)), some (.p (sD s)), some (.p (.list (row.map nI))), some (.p (.list (ts.map nI))), none]) (p := .sl 4) (t := uTruB (uIn true (uVar 4) (uVar 3))) (u := uVar 4) (vs := [4]) nI (fun i => !decide (i ∈ ts)) iN (List.range L.length) fun i hi => by
    have hin := inM_nat (y := i) (zs := ts) fun z hz => by have := hts z hz; omega
    generalize PyData.list (ts.map nI) = tt at hin ⊢
    generalize PyData.list (row.map nI) = rr
    refine ⟨[some (.p (wD b L R)), some (.p (sD s)), some (.p rr), some (.p tt), some (iN i)], [some (.p (wD b L R)), some (.p (sD s)), some (.p rr), some (.p tt), some (iN i)], by simp [asg], ?_, fun _ => ⟨_, [some (.p (wD b L R)), some (.p (sD s)), some (.p rr), some (.p tt), some (iN i)], rfl, rfl, rfl⟩, fun _ => rfl⟩
    generalize sD s = sd
    simp [uTruB, uIn, uVar, rd, hin]
  have hlc := lc_to hr1 (by rw [List.length_map, List.length_range]; omega) rfl rfl l1 (e3 := [some (.p (wD b L R)), some (.p (sD s)), some (.p (.list (row.map nI))), some (.p (.list (ts.map nI))), none]) rfl
  refine fn_go (n := 5) (k := 3) (np := 3) (f := m_at_rest) (ms := [.p (wD b L R), .p (sD s), m]) (Eq.refl 3) (e := [some (.p (wD b L R)), some (.p (sD s)), some (.p (.list (row.map nI))), some (.p (.list (ts.map nI))), none]) ?_
  show m_at_rest [some (.p (wD b L R)), some (.p (sD s)), some m, none, none] = _
  unfold m_at_rest
  rw [seq_go s1]
  exact ret_go hlc
end
end Hc

/-! what has moved makes no ring -/
namespace Hc
open PySem PySem.Spec PyProof.Rows L2 G
def la : List Nat → Nat → Nat
  | [], _ => 0
  | y :: ts, x => if x ∈ ts then la ts x + 1 else if x = y then 1 else 0
theorem la_pos : ∀ {ts : List Nat} {x : Nat}, 0 < la ts x → x ∈ ts
  | [], x, h => by cases h
  | y :: ts, x, h => by
    unfold la at h
    by_cases q : x ∈ ts
    · exact List.mem_cons_of_mem _ q
    · rw [if_neg q] at h
      by_cases q2 : x = y
      · rw [q2]; exact List.mem_cons_self ..
      · rw [if_neg q2] at h; cases h
theorem pos_la : ∀ {ts : List Nat} {x : Nat}, x ∈ ts → 0 < la ts x
  | [], x, h => by cases h
  | y :: ts, x, h => by
    unfold la
    by_cases q : x ∈ ts
    · rw [if_pos q]; exact Nat.succ_pos _
    · rw [if_neg q]
      rcases List.mem_cons.mp h with z | z
      · rw [if_pos z]; exact Nat.one_pos
      · exact absurd z q
theorem first_of {c : Nat → Bool} {i : Nat} {r : List Nat} : ∀ {l : List Nat} {j : Nat}, l.filter c = i :: r → j ∈ (l.takeWhile fun j => !decide (j = i)) → c j = false
  | [], j, h, _ => by cases h
  | x :: l, j, h, hj => by
    by_cases q : x = i
    · simp [List.takeWhile_cons, q] at hj
    · simp only [List.takeWhile_cons, q, decide_false, Bool.not_false, ↓reduceIte, List.mem_cons] at hj
      cases hc : c x with
      | true =>
        rw [List.filter_cons_of_pos hc] at h
        exact absurd (List.cons.inj h).1 q
      | false =>
        rw [List.filter_cons_of_neg (by rw [hc]; exact Bool.false_ne_true)] at h
        rcases hj with rfl | hj
        · exact hc
        · exact first_of h hj
section
variable {n : Nat} {L : List (Nat × Nat)} {R : List (List Nat)} {s : List Nat}
theorem give_at (S : Sd L s) {i : Nat} (hi : i < L.length) : (giveP L s i)[i]? = some (otherP L[i] (s[i]'(by rw [S.len]; exact hi))) := by
  rw [give_eq S hi, List.getElem?_set_self (by rw [S.len]; exact hi)]
theorem give_ne (S : Sd L s) {i j : Nat} (hi : i < L.length) (hj : j ≠ i) : (giveP L s i)[j]? = s[j]? := by
  rw [give_eq S hi, List.getElem?_set_ne (fun z => hj z.symm)]
theorem Wk.stay (O : Ok n L R) {row s' ts : List Nat} (w : Wk L R s row s' ts) : Sd L s → ∀ x, x ∉ ts → s'[x]? = s[x]? := by
  induction w with
  | nil => intro _ x _; rfl
  | cons h _ ih =>
    intro S x hx
    have hi := (had_lt O (by rw [h]; exact List.mem_cons_self ..)).1
    rw [ih (sd_give S O hi) x fun z => hx (List.mem_cons_of_mem _ z), give_ne S hi fun z => hx (z ▸ List.mem_cons_self ..)]
theorem other_other (O : Ok n L R) {i : Nat} (hi : i < L.length) {w : Nat} (hw : w = L[i].1 ∨ w = L[i].2) : otherP L[i] (otherP L[i] w) = w := by
  have := (O.lt L[i] (List.getElem_mem hi)).1
  unfold otherP
  rcases hw with rfl | rfl
  · rw [if_pos rfl, if_neg (by omega)]
  · rw [if_neg (show ¬ L[i].2 = L[i].1 by omega), if_pos rfl]
theorem Wk.later (O : Ok n L R) {row s' ts : List Nat} (w : Wk L R s row s' ts) : Sd L s → ∀ (t j p : Nat) (ht : t < L.length), t ∈ ts → s'[t]? = some p → (j ∈ (R.getD (otherP L[t] p) []).takeWhile fun j => !decide (j = t)) → s'[j]? = some (otherP L[t] p) → la ts t < la ts j := by
  induction w with
  | nil => intro _ t j p ht h; cases h
  | @cons s row s' ts r who i h w ih =>
    intro S t j p ht hm hp hj hjo
    have hi := (had_lt O (by rw [h]; exact List.mem_cons_self ..)).1
    have S' := sd_give S O hi
    by_cases q : t ∈ ts
    · have := ih S' t j p ht q hp hj hjo
      have hjm : j ∈ ts := la_pos (by omega)
      unfold la
      rw [if_pos q, if_pos hjm]
      omega
    · have hti : t = i := by
        rcases List.mem_cons.mp hm with z | z
        · exact z
        · exact absurd z q
      subst hti
      have h1 : s'[t]? = some (otherP L[t] (s[t]'(by rw [S.len]; exact ht))) := by
        rw [w.stay O S' t q, give_at S ht]
      have hst : s[t]? = some who := (had_lt O (by rw [h]; exact List.mem_cons_self ..)).2
      have hst' : s[t]'(by rw [S.len]; exact ht) = who := by
        rw [List.getElem?_eq_getElem (by rw [S.len]; exact ht)] at hst
        exact Option.some.inj hst
      rw [hp, hst'] at h1
      have h1 : p = otherP L[t] who := Option.some.inj h1
      have hwho : who = L[t].1 ∨ who = L[t].2 := by
        have := S.at_ t L[t] (List.getElem?_eq_getElem ht)
        rw [hst] at this
        exact this.imp Option.some.inj Option.some.inj
      have hw2 : otherP L[t] p = who := by rw [h1]; exact other_other O ht hwho
      rw [hw2] at hj hjo
      by_cases qj : j ∈ ts
      · have := pos_la qj
        unfold la
        rw [if_neg q, if_pos rfl, if_pos qj]
        omega
      · exfalso
        have hjt : j ≠ t := (tw_mem hj).1
        rw [w.stay O S' j qj, give_ne S ht hjt] at hjo
        have := first_of (c := fun i => decide (s[i]? = some who)) h hj
        simp [hjo] at this
/-- of the things that have moved no ring is made -/
theorem moved_free (O : Ok n L R) (S : Sd L s) {row s' ts : List Nat} (w : Wk L R s row s' ts) {h : List (Option Nat)} (hl : h.length = L.length) (hh : ∀ (i p : Nat), h[i]? = some (some p) → i ∈ ts ∧ s'[i]? = some p) : ∀ i, ¬ Rch (nextsP L R h) i i := by
  have edge : ∀ i j, j ∈ nextsP L R h i → la ts i < la ts j := fun i j hj => by
    obtain ⟨hi, p, h1, h2, h3⟩ := next_cond hl hj
    obtain ⟨a1, a2⟩ := hh i p h1
    obtain ⟨_, b2⟩ := hh j _ h3
    exact w.later O S i j p hi a1 a2 h2 b2
  have path : ∀ {a b}, Rch (nextsP L R h) a b → la ts a < la ts b := fun r => by
    induction r with
    | one e => exact edge _ _ e
    | more _ e ih => exact Nat.lt_trans ih (edge _ _ e)
  intro i r
  have := path r
  omega
end
end Hc

/-! PLq: comprehensions and loops by any environment. -/
namespace Hc
open PySem PySem.Spec PyProof.Rows L2 G
/-- what may stand in a loop variable's slot -/
def plO : Option M → Bool
  | none => true
  | some (.p _) => true
  | _ => false
theorem plain1 {e : G.Env} {v : Nat} {o : Option M} (hv : e[v]? = some o) (ho : plO o = true) : plainAt e [v] = true := by
  unfold plainAt
  simp only [List.all_cons, List.all_nil, Bool.and_true, hv]
  cases o with
  | none => rfl
  | some m => cases m <;> first | rfl | cases ho
theorem set_two {α : Type} (e : List α) (v : Nat) (x y : α) : (e.set v x).set v y = e.set v y := List.set_set ..
theorem lc_over {it : UI} {t : UT} {u : U} {e e1 : G.Env} {v : Nat} {o : Option M} {ds : List PyData} (c : PyData → Bool) (f : PyData → M)
    (hi : it e = some (ds, e1)) (hl : ds.length ≤ 1000) (hv : e1[v]? = some o) (ho : plO o = true)
    (ht : ∀ x, x ∈ ds → t (e1.set v (some (.p x))) = some (c x, e1.set v (some (.p x))))
    (hu : ∀ x, x ∈ ds → c x = true → ∃ q, u (e1.set v (some (.p x))) = some (q, e1.set v (some (.p x))) ∧ G.take (e1.set v (some (.p x))) q = some (f x, e1.set v (some (.p x)))) :
    uLc it (.sl v) t u [v] e = some (.tmp (.l ((ds.filter c).map f)), e1) := by
  have hvl : v < e1.length := by
    obtain ⟨h, _⟩ := List.getElem?_eq_some_iff.mp hv
    exact h
  have hw : wipeE e1 [v] = e1.set v none := rfl
  have lc := lc_go (env := e1.set v none) (p := .sl v) (t := t) (u := u) (vs := [v]) (fun x : PyData => x) c f ds fun x hx => by
    have ea : asg (.sl v) (.p x) (e1.set v none) = some (e1.set v (some (.p x))) := by
      unfold asg
      rw [if_pos (by rw [List.length_set]; exact hvl), set_two]
    refine ⟨_, _, ea, ht x hx, fun hc => ?_, fun _ => ?_⟩
    · obtain ⟨q, h1, h2⟩ := hu x hx hc
      exact ⟨(q, _), _, h1, h2, by show (e1.set v (some (.p x))).set v none = _; rw [set_two]⟩
    · show (e1.set v (some (.p x))).set v none = _
      rw [set_two]
  rw [List.map_id'] at lc
  have hc : (decide (ds.length ≤ sizeLine) && plainAt e1 [v]) = true := by
    rw [plain1 hv ho, Bool.and_true]
    exact decide_eq_true (by rw [sizeLine_eq]; omega)
  unfold uLc
  rw [hi, Option.bind_some, if_pos hc, hw, lc, Option.bind_some]
  congr 2
  show (e1.set v none).set v (e1[v]?.getD none) = e1
  rw [set_two, hv, Option.getD_some]
  exact st_set_self hv
/-- walked by a name: what one has is shared behind it -/
theorem seq_var {e : G.Env} {k : Nat} {m : M} {d : PyData} {ds : List PyData} (hk : e[k]? = some (some m)) (hf : frz m = some d) (hs : seqD d = some ds) : uiSeq (uVar k) e = some (ds, e.set k (some (.p d))) := by
  have h1 : uVar k e = some (.slot k, e) := by unfold uVar; rw [hk]
  have h2 : G.take e (.slot k) = some (.p d, e.set k (some (.p d))) := by
    show takeS e k = _
    unfold takeS
    rw [hk]
    simp only [hf]
  unfold uiSeq
  rw [h1, Option.bind_some]
  show (G.take e (.slot k)).bind _ = _
  rw [h2, Option.bind_some]
  show (frz (.p d)).bind _ = _
  show (some d).bind _ = _
  rw [Option.bind_some, hs, Option.bind_some]
theorem var_rd {e : G.Env} {k : Nat} {m : M} (hk : e[k]? = some (some m)) : uVar k e = some (.slot k, e) ∧ rd e (.slot k) = some m := by
  constructor
  · unfold uVar; rw [hk]
  · show (match e[k]? with | some (some m) => some m | _ => none) = some m
    rw [hk]
/-- loops whose body leaves one of a family of states -/
theorem for_inv {p : Pat} {body : S} (I : Nat → G.Env → Prop) : ∀ (ds : List PyData) (i : Nat) (e : G.Env), I i e →
    (∀ j d e, j < ds.length → ds[j]? = some d → I (i + j) e → ∃ e1 e2, asg p (.p d) e = some e1 ∧ body e1 = some (.nx e2) ∧ I (i + j + 1) e2) →
    ∃ e', forL p body ds e = some (.nx e') ∧ I (i + ds.length) e'
  | [], i, e, h, _ => ⟨e, rfl, h⟩
  | d :: ds, i, e, h, st => by
    obtain ⟨e1, e2, h1, h2, h3⟩ := st 0 d e (by simp) rfl h
    obtain ⟨e', h4, h5⟩ := for_inv I ds (i + 1) e2 h3 fun j d' e' hj hd hI => by
      have := st (j + 1) d' e' (by rw [List.length_cons]; omega) (by rw [List.getElem?_cons_succ]; exact hd) (by rw [show i + (j + 1) = i + 1 + j by omega]; exact hI)
      rw [show i + (j + 1) + 1 = i + 1 + j + 1 by omega] at this
      exact this
    refine ⟨e', ?_, by rw [List.length_cons, show i + (ds.length + 1) = i + 1 + ds.length by omega]; exact h5⟩
    rw [forL, h1, Option.bind_some, h2, Option.bind_some]
    simp only [stE_eq]
    exact h4
end Hc

/-! PLo: a calculus of what expressions tell: Et (a thing in the hand), Ev (to be read), Ek (to be taken), Tv (tests). -/
namespace Hc
open PySem PySem.Spec PyProof.Rows L2 G
def Et (u : U) (e : G.Env) (m : M) (e' : G.Env) : Prop := u e = some (.tmp m, e')
def Ev (u : U) (e : G.Env) (m : M) (e' : G.Env) : Prop := ∃ op, u e = some (op, e') ∧ rd e' op = some m
def Ek (u : U) (e : G.Env) (m : M) (e' : G.Env) : Prop := ∃ op e1, u e = some (op, e1) ∧ G.take e1 op = some (m, e')
def Tv (t : UT) (e : G.Env) (k : Bool) (e' : G.Env) : Prop := t e = some (k, e')
section
variable {u ua ub uc : U} {t t' : UT} {e e1 e2 e' : G.Env} {m mx my r : M} {d : PyData} {k k' : Bool} {i j : Nat} {F : M → M → Option M}
theorem Et.ev (h : Et u e m e') : Ev u e m e' := ⟨_, h, rfl⟩
theorem Et.ek (h : Et u e m e') : Ek u e m e' := ⟨_, _, h, rfl⟩
theorem var_ev (h : e[i]? = some (some m)) : Ev (uVar i) e m e := ⟨_, (var_rd h).1, (var_rd h).2⟩
theorem ev (i : Nat) (h : e[i]? = some (some m)) : Ev (uVar i) e m e := var_ev h
theorem var_ek (h : e[i]? = some (some (.p d))) : Ek (uVar i) e (.p d) e := ⟨_, _, (var_rd h).1, by
  show takeS e i = _
  unfold takeS
  rw [h]
  simp only [frz]
  rw [st_set_self h]⟩
theorem var_ekl (h : e[i]? = some (some m)) (hf : frz m = some d) : Ek (uVar i) e (.p d) (e.set i (some (.p d))) := ⟨_, _, (var_rd h).1, by
  show takeS e i = _
  unfold takeS
  rw [h]
  simp only [hf]⟩
theorem c_et : Et (uC d) e (.p d) e := rfl
theorem bin_et (h1 : Ev ua e mx e1) (h2 : Ev ub e1 my e1) (hF : F mx my = some m) : Et (uBin F ua ub) e m e1 := by
  obtain ⟨x, a1, a2⟩ := h1
  obtain ⟨y, b1, b2⟩ := h2
  show uBin F ua ub e = _
  unfold uBin
  rw [a1, Option.bind_some, b1, Option.bind_some]
  simp only [a2, b2, Option.bind_some, hF]
theorem bin_etT (h1 : Et ua e mx e1) (h2 : Ev ub e1 my e2) (hF : F mx my = some m) : Et (uBin F ua ub) e m e2 := by
  obtain ⟨y, b1, b2⟩ := h2
  show uBin F ua ub e = _
  unfold uBin
  rw [show ua e = _ from h1, Option.bind_some, b1, Option.bind_some]
  have : rd e2 (.tmp mx) = some mx := rfl
  simp only [this, b2, Option.bind_some, hF]
theorem item_et (h1 : Ev ua e mx e1) (h2 : Ev ub e1 my e1) (hF : (if isD mx = true then itemD mx my else itemI mx my) = some (.p d)) : Et (uItem ua ub) e (.p d) e1 := by
  obtain ⟨x, a1, a2⟩ := h1
  obtain ⟨y, b1, b2⟩ := h2
  show uItem ua ub e = _
  unfold uItem
  rw [a1, Option.bind_some, b1, Option.bind_some]
  simp only [a2, b2, Option.bind_some, hF]
  rfl
theorem fun1_et {f : List M → Option M} (h : Ev u e m e1) (hf : f [m] = some r) : Et (uFun f (uaCons u uaNil)) e r e1 := by
  obtain ⟨x, a1, a2⟩ := h
  show uFun f _ e = _
  unfold uFun
  have : uaCons u uaNil e = some ([x], e1) := by simp only [uaCons, a1, uaNil]
  rw [this, Option.bind_some]
  simp only [rdL, a2, Option.bind_some, hf]
theorem fun2_et {f : List M → Option M} (h1 : Ev ua e mx e1) (h2 : Ev ub e1 my e1) (hf : f [mx, my] = some r) : Et (uFun f (uaCons ua (uaCons ub uaNil))) e r e1 := by
  obtain ⟨x, a1, a2⟩ := h1
  obtain ⟨y, b1, b2⟩ := h2
  show uFun f _ e = _
  unfold uFun
  have : uaCons ua (uaCons ub uaNil) e = some ([x, y], e1) := by simp only [uaCons, a1, b1, uaNil]
  rw [this, Option.bind_some]
  simp only [rdL, a2, b2, Option.bind_some, hf]
theorem in_et {neg : Bool} (h1 : Ev ua e mx e1) (h2 : Ev ub e1 my e1) (hF : inM mx my = some k) : Et (uIn neg ua ub) e (.p (.bool (if neg then !k else k))) e1 := by
  obtain ⟨x, a1, a2⟩ := h1
  obtain ⟨y, b1, b2⟩ := h2
  show uIn neg ua ub e = _
  unfold uIn
  rw [a1, Option.bind_some, b1, Option.bind_some]
  simp only [a2, b2, Option.bind_some, hF]
theorem isi_et {cs : List Ty} (h : Ev u e m e1) : Et (uIsi cs u) e (.p (.bool (cs.any fun c => isT c (tyM m)))) e1 := by
  obtain ⟨x, a1, a2⟩ := h
  show uIsi cs u e = _
  unfold uIsi
  rw [a1, Option.bind_some]
  simp only [a2, Option.bind_some]
theorem neg_et {z : Int} (h : Ev u e (.p (.int z)) e1) : Et (uNeg u) e (.p (.int (-z))) e1 := by
  obtain ⟨x, a1, a2⟩ := h
  show uNeg u e = _
  unfold uNeg
  rw [a1, Option.bind_some]
  simp only [a2]
theorem frz_et (h : Et u e m e') (hd : frz m = some d) : Et (uFrz u) e (.p d) e' := frz_ok h hd
theorem if_t (h : Tv t e true e1) : uIf t ua ub e = ua e1 := by
  unfold uIf; rw [show t e = _ from h]; rfl
theorem if_f (h : Tv t e false e1) : uIf t ua ub e = ub e1 := by
  unfold uIf; rw [show t e = _ from h]; rfl
theorem notV_et (h : Ev u e m e1) (hm : truM m = some k) : Et (uNotV u) e (.p (.bool (!k))) e1 := by
  obtain ⟨x, a1, a2⟩ := h
  show uNotV u e = _
  unfold uNotV
  rw [a1, Option.bind_some]
  simp only [a2, hm, Option.bind_some]
theorem orV_t (h : Et ua e m e1) (hm : truM m = some true) : Et (uOrV ua ub) e m e1 := by
  show uOrV ua ub e = _
  unfold uOrV
  rw [show ua e = _ from h, Option.bind_some]
  have : rd e1 (.tmp m) = some m := rfl
  simp only [this, hm, Option.bind_some, if_pos]
theorem orV_f (h : Ev ua e m e1) (hm : truM m = some false) : uOrV ua ub e = ub e1 := by
  obtain ⟨x, a1, a2⟩ := h
  unfold uOrV
  rw [a1, Option.bind_some]
  simp only [a2, hm, Option.bind_some]
  rfl
theorem andV_f (h : Et ua e m e1) (hm : truM m = some false) : Et (uAndV ua ub) e m e1 := by
  show uAndV ua ub e = _
  unfold uAndV
  rw [show ua e = _ from h, Option.bind_some]
  have : rd e1 (.tmp m) = some m := rfl
  simp only [this, hm, Option.bind_some]
  rfl
theorem andV_t (h : Ev ua e m e1) (hm : truM m = some true) : uAndV ua ub e = ub e1 := by
  obtain ⟨x, a1, a2⟩ := h
  unfold uAndV
  rw [a1, Option.bind_some]
  simp only [a2, hm, Option.bind_some, if_pos]
/-! tests -/
theorem tru_tv (h : Ev u e m e1) (hm : truM m = some k) : Tv (uTru u) e k e1 := by
  obtain ⟨x, a1, a2⟩ := h
  show uTru u e = _
  unfold uTru
  rw [a1, Option.bind_some]
  simp only [a2, Option.bind_some, hm, Option.map_some]
theorem trb_tv (h : Ev u e (.p (.bool k)) e1) : Tv (uTru u) e k e1 := tru_tv h rfl
theorem truB_tv (h : Ev u e (.p (.bool k)) e1) : Tv (uTruB u) e k e1 := by
  obtain ⟨x, a1, a2⟩ := h
  show uTruB u e = _
  unfold uTruB
  rw [a1, Option.bind_some]
  simp only [a2]
theorem not_tv (h : Tv t e k e1) : Tv (uNot t) e (!k) e1 := not_go h
theorem and_t (h : Tv t e true e1) : uAnd t t' e = t' e1 := by unfold uAnd; rw [show t e = _ from h]; rfl
theorem and_f (h : Tv t e false e1) : Tv (uAnd t t') e false e1 := by show uAnd t t' e = _; unfold uAnd; rw [show t e = _ from h]; rfl
theorem and_tv (h : Tv t e k e1) (h' : k = true → Tv t' e1 k' e1) : Tv (uAnd t t') e (k && k') e1 := by
  cases k with
  | true => exact (and_t h).trans (h' rfl)
  | false => exact and_f h
theorem or_tv (h : Tv t e k e1) (h' : k = false → Tv t' e1 k' e1) : Tv (uOr t t') e (k || k') e1 := by
  cases k with
  | true => exact or_t h
  | false => exact (or_f h).trans (h' rfl)
/-! statements -/
variable {a b : S} {p : Pat}
theorem if_s (h : Tv t e k e1) : sIf t a b e = if k = true then a e1 else b e1 := by
  cases k with
  | true => exact if_true h
  | false => exact if_false h
theorem if_no {m9 : M} (h : Tv t e false e1) : sIf t a sPass e = some (.nx e1) := (if_false h).trans rfl
theorem asg_ek (h : Ek u e m e1) (hi : i < e1.length) : sAsg (.sl i) u e = some (.nx (e1.set i (some m))) := by
  obtain ⟨op, e0, h1, h2⟩ := h
  unfold sAsg
  rw [h1, Option.bind_some]
  show (G.take e0 op).bind _ = _
  rw [h2, Option.bind_some]
  have : asg (.sl i) m e1 = some (e1.set i (some m)) := by unfold asg; rw [if_pos hi]
  show (asg (.sl i) m e1).bind _ = _
  rw [this]
  rfl
theorem ret_et (h : Et u e m e1) : sRet u e = some (.rt m e1) := ret_go h
/-! arguments that are plain -/
def EvP (ua : UA) (e : G.Env) (ds : List PyData) : Prop := ∃ ops, ua e = some (ops, e) ∧ passL e ops = some (ds.map M.p, ds.map (fun _ => none), e)
theorem evp_nil : EvP uaNil e [] := ⟨[], rfl, rfl⟩
theorem pass_plain {op : Op} (h : rd e op = some (.p d)) : passOp e op = some (.p d, none, e) := by
  cases op with
  | tmp m => cases h; rfl
  | slot i =>
    have h' : (match e[i]? with | some (some m) => some m | _ => none) = some (M.p d) := h
    show (match e[i]? with
      | some (some (.p d)) => some (M.p d, none, e)
      | some (some m) => some (m, some i, e.set i none)
      | _ => none) = _
    split at h'
    · rename_i m q
      cases h'
      rw [q]
    · cases h'
theorem evp_cons {va : UA} {ds : List PyData} (h : Ev u e (.p d) e) (h' : EvP va e ds) : EvP (uaCons u va) e (d :: ds) := by
  obtain ⟨op, a1, a2⟩ := h
  obtain ⟨ops, b1, b2⟩ := h'
  refine ⟨op :: ops, by simp only [uaCons, a1, b1], ?_⟩
  unfold passL
  rw [pass_plain a2, Option.bind_some]
  show (passL e ops).bind _ = _
  rw [b2, Option.bind_some]
  rfl
theorem back_none {α : Type} : ∀ (ds : List α) (outs : List (Option M)) (e : G.Env), backL (ds.map fun _ => none) outs e = e
  | [], _, _ => by simp [backL]
  | _ :: ds, [], e => by simp [backL]
  | _ :: ds, o :: outs, e => by simp [backL, back_none ds outs e]
theorem ar1 {i : Nat} {d : PyData} (h : e[i]? = some (some (.p d))) : EvP (uaCons (uVar i) uaNil) e [d] := evp_cons (var_ev h) evp_nil
theorem ar2 {i j : Nat} {d d' : PyData} (h : e[i]? = some (some (.p d))) (h' : e[j]? = some (some (.p d'))) : EvP (uaCons (uVar i) (uaCons (uVar j) uaNil)) e [d, d'] := evp_cons (var_ev h) (ar1 h')
theorem ar3 {i j k : Nat} {d d' d2 : PyData} (h : e[i]? = some (some (.p d))) (h' : e[j]? = some (some (.p d'))) (h2 : e[k]? = some (some (.p d2))) : EvP (uaCons (uVar i) (uaCons (uVar j) (uaCons (uVar k) uaNil))) e [d, d', d2] := evp_cons (var_ev h) (ar2 h' h2)
theorem call_et {Fc : Fn} {va : UA} {ds : List PyData} {outs : List (Option M)} (h : EvP va e ds) (hF : Fc (ds.map M.p) = some (r, outs)) : Et (uCall Fc va) e r e := by
  obtain ⟨ops, h1, h2⟩ := h
  have := uCall_go h1 h2 hF
  rw [back_none] at this
  exact this
/-- the box (slot 0) goes along -/
theorem call_box {Fc : Fn} {va : UA} {ds : List PyData} {bx0 : List M} {o0 : Option M} {outs : List (Option M)} {e0 : G.Env} (hb : e = some (.l bx0) :: e0) (h : EvP va (none :: e0) ds) (h' : ∀ ops, va (none :: e0) = some (ops, none :: e0) → va e = some (ops, e)) (hF : Fc (.l bx0 :: ds.map M.p) = some (r, o0 :: outs)) : Et (uCall Fc (uaCons (uVar 0) va)) e r (o0 :: e0) := by
  obtain ⟨ops, h1, h2⟩ := h
  have g := h' ops h1
  subst hb
  have ha : uaCons (uVar 0) va (some (.l bx0) :: e0) = some (.slot 0 :: ops, some (.l bx0) :: e0) := by
    simp only [uaCons, uVar, List.getElem?_cons_zero, g]
  have hp : passL (some (.l bx0) :: e0) (.slot 0 :: ops) = some (.l bx0 :: ds.map M.p, some 0 :: ds.map (fun _ => none), none :: e0) := by
    unfold passL
    show (some (M.l bx0, some 0, none :: e0)).bind _ = _
    rw [Option.bind_some]
    show (passL (none :: e0) ops).bind _ = _
    rw [h2, Option.bind_some]
  have := uCall_go ha hp hF
  show uCall Fc _ _ = _
  rw [this]
  show some (Op.tmp r, backL (some 0 :: ds.map fun _ => none) (o0 :: outs) (none :: e0)) = _
  unfold backL
  rw [back_none]
  rfl
/-! displays -/
def EkL (va : UA) (e em : G.Env) (ms : List M) (e' : G.Env) : Prop := ∃ ops, va e = some (ops, em) ∧ takeL em ops = some (ms, e')
theorem ekl_nil : EkL uaNil e e [] e := ⟨[], rfl, rfl⟩
theorem ekl_t {va : UA} {ms : List M} {em : G.Env} (h : Et u e m e1) (h' : EkL va e1 em ms e') : EkL (uaCons u va) e em (m :: ms) e' := by
  obtain ⟨ops, b1, b2⟩ := h'
  refine ⟨.tmp m :: ops, by simp only [uaCons, show u e = _ from h, b1], ?_⟩
  unfold takeL
  show (some (m, em)).bind _ = _
  rw [Option.bind_some]
  show (takeL em ops).bind _ = _
  rw [b2, Option.bind_some]
theorem ekl_v {va : UA} {ms : List M} {em : G.Env} {m0 : M} (h0 : e[i]? = some (some m0)) (h' : EkL va e em ms e') (h : em[i]? = some (some (.p d))) : EkL (uaCons (uVar i) va) e em (.p d :: ms) e' := by
  obtain ⟨ops, b1, b2⟩ := h'
  refine ⟨.slot i :: ops, by simp only [uaCons, (var_rd h0).1, b1], ?_⟩
  unfold takeL
  have : G.take em (.slot i) = some (.p d, em) := by
    show takeS em i = _
    unfold takeS
    rw [h]
    simp only [frz]
    rw [st_set_self h]
  rw [this, Option.bind_some]
  show (takeL em ops).bind _ = _
  rw [b2, Option.bind_some]
theorem tup_et {va : UA} {ms : List M} {em : G.Env} (h : EkL va e em ms e') (hl : ms.length ≤ 1000) (hm : mkT ms = m) : Et (uTup va) e m e' := by
  obtain ⟨ops, b1, b2⟩ := h
  show uTup va e = _
  unfold uTup
  rw [b1, Option.bind_some]
  show (takeL em ops).bind _ = _
  rw [b2, Option.bind_some, if_pos hl, hm]
theorem lst_et {va : UA} {ms : List M} {em : G.Env} (h : EkL va e em ms e') (hl : ms.length ≤ 1000) : Et (uLst va) e (.l ms) e' := by
  obtain ⟨ops, b1, b2⟩ := h
  show uLst va e = _
  unfold uLst
  rw [b1, Option.bind_some]
  show (takeL em ops).bind _ = _
  rw [b2, Option.bind_some, if_pos hl]
theorem nilL_et : Et (uLst uaNil) e (.l []) e := lst_et ekl_nil (Nat.zero_le _)
theorem asg_pat (h : Ek u e m e1) (ha : asg p m e1 = some e2) : sAsg p u e = some (.nx e2) := by
  obtain ⟨op, e0, h1, h2⟩ := h
  unfold sAsg
  rw [h1, Option.bind_some]
  show (G.take e0 op).bind _ = _
  rw [h2, Option.bind_some]
  show (asg p m e1).bind _ = _
  rw [ha]
  rfl
theorem par_s {va : UA} {em : G.Env} {m n : M} (h : EkL va e em [m, n] e1) (hi : i < e1.length) (hj : j < e1.length) : sPar i j va e = some (.nx ((e1.set i (some m)).set j (some n))) := by
  obtain ⟨ops, b1, b2⟩ := h
  unfold sPar
  rw [b1, Option.bind_some]
  show (takeL em ops).bind _ = _
  rw [b2, Option.bind_some]
  simp only [hi, hj, decide_true, Bool.and_self, if_pos]
theorem lend_tv (h : Tv t (lendE e) k e1) : Tv (utLend t) e k e := by
  show utLend t e = _
  unfold utLend
  rw [show t (lendE e) = _ from h]
  rfl
theorem app_s {ms : List M} (h0 : e[i]? = some (some (.l ms))) (h : Ek u e m e1) (h1 : e1[i]? = some (some (.l ms))) (hl : ms.length < 100000) : sExpr (uApp i u) e = some (.nx (e1.set i (some (.l (ms ++ [m]))))) := by
  obtain ⟨op, e0, g1, g2⟩ := h
  have hl' : ms.length < sizeLine := by rw [sizeLine_eq]; omega
  unfold sExpr uApp
  rw [h0]
  simp only [g1, Option.bind_some, g2, h1, if_pos hl']
theorem all_tv {α : Type} {c : α → Bool} {xs : List α} (h : Et u e (.l (xs.map fun x => .p (.bool (c x)))) e1) : Et (uFun fAll (uaCons u uaNil)) e (.p (.bool (xs.all c))) e1 := fun1_et h.ev (bls_map' c xs)
theorem any_tv {α : Type} {c : α → Bool} {xs : List α} (h : Et u e (.l (xs.map fun x => .p (.bool (c x)))) e1) : Et (uFun fAny (uaCons u uaNil)) e (.p (.bool (xs.any c))) e1 := fun1_et h.ev (any_map' c xs)
theorem asg_two {x y : M} {z : M} (hz : tupE z = some [x, y]) (hi : i < e.length) (hj : j < e.length) : asg (.tp [.sl i, .sl j]) z e = some ((e.set i (some x)).set j (some y)) := by
  simp [asg, asgL, hz, hi, hj]
theorem asg_three {x y w : M} {z : M} {l : Nat} (hz : tupE z = some [x, y, w]) (hi : i < e.length) (hj : j < e.length) (hl : l < e.length) : asg (.tp [.sl i, .sl j, .sl l]) z e = some (((e.set i (some x)).set j (some y)).set l (some w)) := by
  simp [asg, asgL, hz, hi, hj, hl]
/-- i, j = u, v by a tuple -/
theorem tup2_s {va : UA} {em : G.Env} {x y : M} (h : EkL va e em [x, y] e1) (hi : i < e1.length) (hj : j < e1.length) : sAsg (.tp [.sl i, .sl j]) (uTup va) e = some (.nx ((e1.set i (some x)).set j (some y))) := by
  refine asg_pat (tup_et h (by simp) rfl).ek (asg_two ?_ hi hj)
  cases x <;> cases y <;> rfl
theorem tup3_s {va : UA} {em : G.Env} {x y w : M} {l : Nat} (h : EkL va e em [x, y, w] e1) (hi : i < e1.length) (hj : j < e1.length) (hl : l < e1.length) : sAsg (.tp [.sl i, .sl j, .sl l]) (uTup va) e = some (.nx (((e1.set i (some x)).set j (some y)).set l (some w))) := by
  refine asg_pat (tup_et h (by simp) rfl).ek (asg_three ?_ hi hj hl)
  cases x <;> cases y <;> cases w <;> rfl
end
end Hc

namespace Hc
open PySem PySem.Spec PyProof.Rows L2 G
section
variable {n : Nat} {L : List (Nat × Nat)} {R : List (List Nat)} {s : List Nat}
abbrev e71 (a b c : Int) (L : List (Nat × Nat)) (R : List (List Nat)) (n : Nat) (s : List Nat) (o4 o5 o6 o7 o8 o9 o10 o11 o12 : Option M) : G.Env :=
  [some (bx a b c), some (.p (wD true L R)), some (iN n), some (.p (sD s)), o4, o5, o6, o7, o8, o9, o10, o11, o12, none, none, none, none]
theorem laps71 (O : Ok n L R) : ∀ (ks : List PyData) (a b c : Int) (s : List Nat) (o4 : Option M), Sd L s →
    ∃ (a' b' c' : Int) (s' : List Nat) (o4' : Option M), Sd L s' ∧ forL (.sl 4) m_law_right_k71_b2 ks (e71 a b c L R n s o4 none none none none none none none none) = some (.nx (e71 a' b' c' L R n s' o4' none none none none none none none none))
  | [], a, b, c, s, o4, S => ⟨a, b, c, s, o4, S, rfl⟩
  | k :: ks, a, b, c, s, o4, S => by
    have hf := (free_ok (b := true) O (sd_hd S) (sd_rp s)).2.1
    obtain ⟨a1, b1, c1, s1, hlie, S1⟩ := lies_ok O a b c
    have ea : asg (.sl 4) (.p k) (e71 a b c L R n s o4 none none none none none none none none) = some (e71 a b c L R n s (some (.p k)) none none none none none none none none) := by simp [asg]
    have hu : uCall D_law_is_free (uaCons (uVar 1) (uaCons (uVar 3) uaNil)) (e71 a b c L R n s (some (.p k)) none none none none none none none none) = some (.tmp (.p (.bool (freeB L R (s.map some)))), e71 a b c L R n s (some (.p k)) none none none none none none none none) := by
      unfold e71
      generalize wD true L R = W at hf ⊢
      generalize sD s = sd at hf ⊢
      simp [uCall, uaCons, uaNil, uVar, passL, passOp, hf, backL, stM_eq]
    have hu2 : uCall D_law_lies (uaCons (uVar 0) (uaCons (uVar 1) uaNil)) (e71 a b c L R n s (some (.p k)) none none none none none none none none) = some (.tmp (.p (sD s1)), e71 a1 b1 c1 L R n s (some (.p k)) none none none none none none none none) := by
      unfold e71
      generalize wD true L R = W at hlie ⊢
      generalize sD s = sd
      simp [uCall, uaCons, uaNil, uVar, passL, passOp, hlie, backL, stM_eq]
    have body : ∃ (a' b' c' : Int) (s' : List Nat), Sd L s' ∧ m_law_right_k71_b2 (e71 a b c L R n s (some (.p k)) none none none none none none none none) = some (.nx (e71 a' b' c' L R n s' (some (.p k)) none none none none none none none none)) := by
      unfold m_law_right_k71_b2
      generalize uCall D_law_is_free _ = U1 at hu ⊢
      generalize uCall D_law_lies _ = U2 at hu2 ⊢
      cases hfb : freeB L R (s.map some) with
      | true =>
        refine ⟨a1, b1, c1, s1, S1, ?_⟩
        rw [hfb] at hu
        unfold e71 at hu hu2 ⊢
        generalize wD true L R = W at hu hu2 ⊢
        generalize sD s = sd at hu hu2 ⊢
        generalize sD s1 = sd1 at hu2 ⊢
        simp [sAsg, uIf, uTru, hu, hu2, rd, truM, G.take, asg]
      | false =>
        refine ⟨a, b, c, s, S, ?_⟩
        rw [hfb] at hu
        unfold e71 at hu ⊢
        generalize wD true L R = W at hu ⊢
        generalize sD s = sd at hu ⊢
        simp [sAsg, uIf, uTru, hu, uVar, rd, truM, G.take, takeS, frz, asg]
    obtain ⟨a2, b2, c2, s2, S2, hb⟩ := body
    obtain ⟨a3, b3, c3, s3, o4', S3, ih⟩ := laps71 O ks a2 b2 c2 s2 (some (.p k)) S2
    refine ⟨a3, b3, c3, s3, o4', S3, ?_⟩
    rw [forL, ea, Option.bind_some, hb, Option.bind_some]
    simp only [stE_eq]
    exact ih
end
end Hc

namespace Hc
open PySem PySem.Spec PyProof.Rows L2 G
theorem of_lst (a b c : Int) (ds : List PyData) (hq : ds ≠ []) (hl : ds.length ≤ 1000) (m : M) (hm : m = .l (ds.map .p) ∨ m = .p (.list ds)) : ∃ (a' b' c' : Int) (d : PyData), d ∈ ds ∧ D_law_of [bx a b c, m] = some (.p d, [some (bx a' b' c'), some m]) := by
  have hp : 0 < ds.length := List.length_pos_iff.mpr hq
  obtain ⟨r, a', b', c', r0, r1, ht⟩ := take_ok a b c ds.length (by omega) (by omega)
  have hi : r.toNat < ds.length := by omega
  refine ⟨a', b', c', ds[r.toNat], List.getElem_mem hi, ?_⟩
  have e1 : itemM m r = some (.p ds[r.toNat]) := by
    rcases hm with rfl | rfl
    · show atI _ _ = _
      unfold atI
      rw [List.length_map, ixN_ok r0 r1, Option.bind_some, List.getElem?_map, List.getElem?_eq_getElem hi]
      rfl
    · show (atI _ _).map _ = _
      unfold atI
      rw [ixN_ok r0 r1, Option.bind_some, List.getElem?_eq_getElem hi]
      rfl
  have e2 : lenM m = some ds.length := by
    rcases hm with rfl | rfl
    · show some (ds.map M.p).length = _
      rw [List.length_map]
    · rfl
  have e3 : isD m = false := by rcases hm with rfl | rfl <;> rfl
  simp [D_law_of, fnOf, m_law_of, padE, outsOf, stE_eq, stM_eq, sRet, uItem, uCall, uaCons, uaNil, uFun, uVar, rd, rdL, fLen, e2, passL, passOp, ht, backL, e3, itemI, e1, giveM, mv]
theorem frz_nats (xs : List Nat) : frz (.l (xs.map iN)) = some (.list (xs.map nI)) := by
  have := frzL_map (xs.map nI)
  rw [List.map_map] at this
  show (frzL (xs.map iN)).map _ = _
  rw [show frzL (xs.map iN) = some (xs.map nI) from this]
  rfl
theorem allP_nats (xs : List Nat) : allP (xs.map iN) = some (xs.map nI) := by
  have := allP_map (xs.map nI)
  rw [List.map_map] at this
  exact this
section
variable {n : Nat} {L : List (Nat × Nat)} {R : List (List Nat)} {s : List Nat}
abbrev sT (a b c : Int) (L : List (Nat × Nat)) (R : List (List Nat)) (s : List Nat) (xs : List Nat) (o4 o5 o6 : Option M) : G.Env := [some (bx a b c), some (.p (wD true L R)), some (.p (sD s)), some (.l (xs.map iN)), o4, o5, o6]
theorem last_at (xs : List Nat) (hx : xs ≠ []) : ∃ j, j ∈ xs ∧ itemM (.l (xs.map iN)) (-1) = some (iN j) := by
  refine ⟨xs.getLast hx, List.getLast_mem hx, ?_⟩
  have hp : 0 < xs.length := List.length_pos_iff.mpr hx
  show atI _ _ = _
  unfold atI ixN
  have : (-1 + (xs.length : Int)).toNat = xs.length - 1 := by omega
  rw [List.length_map, if_neg (by omega), if_pos (by omega), Option.bind_some, this, List.getElem?_map, List.getLast_eq_getElem, List.getElem?_eq_getElem (by omega)]
  rfl
theorem stroll_body (O : Ok n L R) (S : Sd L s) (a b c : Int) (xs : List Nat) (hx : xs ≠ []) (hxl : xs.length ≤ 100) (hxs : ∀ i, i ∈ xs → i < L.length) (o4 o5 o6 : Option M) :
    (∃ (a' b' c' : Int) (ys : List Nat) (t : List (Option M)), m_law_stroll_b1 (sT a b c L R s xs o4 o5 o6) = some (.rt (.l (ys.map iN)) (some (bx a' b' c') :: some (.p (wD true L R)) :: some (.p (sD s)) :: t)) ∧ (∀ i, i ∈ ys → i < L.length) ∧ ys.length ≤ xs.length)
    ∨ ∃ (a' b' c' : Int) (j : Nat) (p5 p6 : Option M), m_law_stroll_b1 (sT a b c L R s xs o4 o5 o6) = some (.nx (sT a' b' c' L R s (xs ++ [j]) o4 p5 p6)) ∧ j < L.length := by
  obtain ⟨i, hi, hit⟩ := last_at xs hx
  have hil := hxs i hi
  have haf := after_ok (b := true) O (sd_hd S) (sd_rp s) hil
  have hnl : ∀ z, z ∈ nextsP L R (s.map some) i → z < L.length := fun z hz => nextsP_lt O hz
  generalize hN : nextsP L R (s.map some) i = N at haf hnl
  have hNl : N.length ≤ 40 := by
    rw [← hN]
    unfold nextsP
    split
    · refine Nat.le_trans (List.length_filter_le ..) ?_
      rw [List.length_take]
      by_cases hr : otherP (L.getD i (0, 0)) ‹Nat› < R.length
      · rw [List.getD_eq_getElem?_getD, List.getElem?_eq_getElem hr]
        have := (O.rk _ (List.getElem_mem hr)).2
        show min _ (R[otherP (L.getD i (0, 0)) ‹Nat›]).length ≤ 40
        omega
      · rw [List.getD_eq_getElem?_getD, List.getElem?_eq_none (by omega)]
        exact Nat.le_trans (Nat.min_le_right _ _) (Nat.zero_le _)
    · exact Nat.zero_le _
  have hLl := O.ll
  have s1 : sAsg (.sl 5) (uFrz (uCall D_law_after (uaCons (uVar 1) (uaCons (uVar 2) (uaCons (uItem (uVar 3) (uNeg (uC (.int 1)))) uaNil))))) (sT a b c L R s xs o4 o5 o6) = some (.nx (sT a b c L R s xs o4 (some (.p (.list (N.map nI)))) o6)) := by
    have hf := frz_nats N
    have hd : isD (.l (xs.map iN)) = false := rfl
    unfold sT
    generalize xs.map iN = ms at hit hd ⊢
    generalize N.map iN = ns at haf hf
    generalize N.map nI = nd at hf ⊢
    simp [sAsg, uFrz, uCall, uaCons, uaNil, uItem, uNeg, uVar, uC, rd, hd, itemI, hit, giveM, passL, passOp, haf, backL, stM_eq, hf, G.take, asg]
  unfold m_law_stroll_b1
  have c2 : uTruB (uBin (lift2 dEq) (uVar 5) (uLst uaNil)) (sT a b c L R s xs o4 (some (.p (.list (N.map nI)))) o6) = some (N.isEmpty, sT a b c L R s xs o4 (some (.p (.list (N.map nI)))) o6) := by
    have ok1 := (okD_nats (r := N) fun j hj => by have := hnl j hj; omega).1
    have ok2 := (okD_nats (r := []) fun j hj => by cases hj).1
    have : dEq (.list (N.map nI)) (.list []) = some (.bool N.isEmpty) := by
      have ok2 : okD (.list []) = true := ok2
      unfold dEq
      rw [ok1, ok2]
      cases N <;> simp [PyData.eqv, PyData.eqvAll]
    simp [uTruB, uBin, uVar, uLst, uaNil, takeL, rd, lift2, frz, frzL, this]
  rw [seq_go s1]
  cases hNe : N.isEmpty with
  | true =>
    rw [hNe] at c2
    refine .inl ⟨a, b, c, xs, [none, o4, some (.p (.list (N.map nI))), o6], seq_ret ((if_true c2).trans ?_), hxs, Nat.le_refl _⟩
    show sRet (uVar 3) (sT a b c L R s xs o4 (some (.p (.list (N.map nI)))) o6) = some (.rt (.l (xs.map iN)) [some (bx a b c), some (.p (wD true L R)), some (.p (sD s)), none, o4, some (.p (.list (N.map nI))), o6])
    simp [sRet, uVar, mv]
  | false =>
    rw [hNe] at c2
    rw [seq_go ((if_false c2).trans rfl)]
    have hNn : N.map nI ≠ [] := by
      intro z
      have := List.map_eq_nil_iff.mp z
      rw [this] at hNe
      cases hNe
    obtain ⟨a1, b1, c1, d, hd, hof⟩ := of_lst a b c (N.map nI) hNn (by rw [List.length_map]; omega) _ (.inr rfl)
    obtain ⟨j, hj, rfl⟩ := List.mem_map.mp hd
    have hjl := hnl j hj
    have s2 : sAsg (.sl 6) (uCall D_law_of (uaCons (uVar 0) (uaCons (uVar 5) uaNil))) (sT a b c L R s xs o4 (some (.p (.list (N.map nI)))) o6) = some (.nx (sT a1 b1 c1 L R s xs o4 (some (.p (.list (N.map nI)))) (some (iN j)))) := by
      unfold sT
      generalize N.map nI = nd at hof ⊢
      simp [sAsg, uCall, uaCons, uaNil, uVar, passL, passOp, hof, backL, stM_eq, G.take, asg]
    rw [seq_go s2]
    have hfx := frz_nats xs
    have c3 : uTruB (uIn false (uVar 6) (uVar 3)) (sT a1 b1 c1 L R s xs o4 (some (.p (.list (N.map nI)))) (some (iN j))) = some (decide (j ∈ xs), sT a1 b1 c1 L R s xs o4 (some (.p (.list (N.map nI)))) (some (iN j))) := by
      have hin : inM (iN j) (.l (xs.map iN)) = some (decide (j ∈ xs)) := by
        have := inM_nat (y := j) (zs := xs) fun z hz => by have := hxs z hz; omega
        have hd : isD (.l (xs.map iN)) = false := rfl
        unfold inM at this ⊢
        rw [hd, hfx]
        exact this
      unfold sT
      generalize xs.map iN = ms at hin ⊢
      simp [uTruB, uIn, uVar, rd, hin]
    by_cases hjx : j ∈ xs
    · rw [decide_eq_true hjx] at c3
      refine .inl ⟨a1, b1, c1, xs.drop (xs.idxOf j), [some (.l (xs.map iN)), o4, some (.p (.list (N.map nI))), some (iN j)], seq_ret ((if_true c3).trans ?_), fun i hi => hxs i (List.mem_of_mem_drop hi), by rw [List.length_drop]; omega⟩
      have hx2 : indexD (.list (xs.map nI)) (nI j) = some (.int ((xs.idxOf j : Nat) : Int)) := by
        have o1 := (okD_nats (r := xs) fun j hj => by have := hxs j hj; omega).1
        simp [indexD, o1, okD_n, findD_nat j xs hjx]
      have hcut : cutM (.l (xs.map iN)) (some ((xs.idxOf j : Nat) : Int)) none = some (.l ((xs.drop (xs.idxOf j)).map iN)) := by
        show (allP (xs.map iN)).map _ = _
        rw [allP_nats]
        show some (M.l ((cutL (xs.map nI) (some ((xs.idxOf j : Nat) : Int)) none).map M.p)) = _
        rw [cut_suf, ← List.map_drop, List.map_map]
        rfl
      have hls : ∀ ds, isLs (.list ds) = true := fun _ => rfl
      have hd2 : frz (iN j) = some (nI j) := rfl
      unfold sT
      generalize (xs.drop (xs.idxOf j)).map iN = m2 at hcut ⊢
      generalize xs.map iN = ms at hfx hcut ⊢
      generalize xs.map nI = ds at hfx hx2
      show sRet (uSl (uVar 3) (uPart (uIndex (uVar 3) (uVar 6))) uNo) [some (bx a1 b1 c1), some (.p (wD true L R)), some (.p (sD s)), some (.l ms), o4, some (.p (.list (N.map nI))), some (iN j)] = some (.rt (.l m2) [some (bx a1 b1 c1), some (.p (wD true L R)), some (.p (sD s)), some (.l ms), o4, some (.p (.list (N.map nI))), some (iN j)])
      simp [sRet, uSl, uNo, uPart, uIndex, uVar, rdD, rd, hfx, hls, hd2, hx2, hcut, mv]
    · rw [decide_eq_false hjx] at c3
      refine .inr ⟨a1, b1, c1, j, some (.p (.list (N.map nI))), some (iN j), ?_, hjl⟩
      rw [seq_go ((if_false c3).trans rfl)]
      have hlt : (xs.map iN).length < sizeLine := by rw [sizeLine_eq, List.length_map]; omega
      have hap : xs.map iN ++ [iN j] = (xs ++ [j]).map iN := by rw [List.map_append]; rfl
      unfold sT
      rw [← hap]
      generalize xs.map iN = ms at hlt
      simp [sExpr, uApp, uVar, G.take, takeS, frz, hlt]
theorem stroll_loop (O : Ok n L R) (S : Sd L s) : ∀ (ks : List PyData) (a b c : Int) (xs : List Nat) (o4 o5 o6 : Option M), xs ≠ [] → xs.length + ks.length ≤ 100 → (∀ i, i ∈ xs → i < L.length) →
    (∃ (a' b' c' : Int) (ys : List Nat) (t : List (Option M)), forL (.sl 4) m_law_stroll_b1 ks (sT a b c L R s xs o4 o5 o6) = some (.rt (.l (ys.map iN)) (some (bx a' b' c') :: some (.p (wD true L R)) :: some (.p (sD s)) :: t)) ∧ (∀ i, i ∈ ys → i < L.length) ∧ ys.length ≤ xs.length + ks.length)
    ∨ ∃ (a' b' c' : Int) (ys : List Nat) (p4 p5 p6 : Option M), forL (.sl 4) m_law_stroll_b1 ks (sT a b c L R s xs o4 o5 o6) = some (.nx (sT a' b' c' L R s ys p4 p5 p6)) ∧ (∀ i, i ∈ ys → i < L.length) ∧ ys.length ≤ xs.length + ks.length
  | [], a, b, c, xs, o4, o5, o6, hx, hl, hxs => .inr ⟨a, b, c, xs, o4, o5, o6, rfl, hxs, by simp⟩
  | k :: ks, a, b, c, xs, o4, o5, o6, hx, hl, hxs => by
    rw [List.length_cons] at hl
    have ea : asg (.sl 4) (.p k) (sT a b c L R s xs o4 o5 o6) = some (sT a b c L R s xs (some (.p k)) o5 o6) := by simp [asg]
    rw [forL, ea, Option.bind_some]
    rcases stroll_body O S a b c xs hx (by omega) hxs (some (.p k)) o5 o6 with ⟨a1, b1, c1, ys, t, h1, h2, h3⟩ | ⟨a1, b1, c1, j, p5, p6, h1, h2⟩
    · exact .inl ⟨a1, b1, c1, ys, t, by rw [h1, Option.bind_some], h2, by rw [List.length_cons]; omega⟩
    · rw [h1, Option.bind_some]
      simp only [stE_eq]
      have hxs' : ∀ i, i ∈ xs ++ [j] → i < L.length := fun i hi => by
        rcases List.mem_append.mp hi with q | q
        · exact hxs i q
        · rw [List.mem_singleton.mp q]; exact h2
      rcases stroll_loop O S ks a1 b1 c1 (xs ++ [j]) (some (.p k)) p5 p6 (by simp) (by simp; omega) hxs' with ⟨a2, b2, c2, ys, t, g1, g2, g3⟩ | ⟨a2, b2, c2, ys, q4, q5, q6, g1, g2, g3⟩
      · exact .inl ⟨a2, b2, c2, ys, t, g1, g2, by simp at g3 ⊢; omega⟩
      · exact .inr ⟨a2, b2, c2, ys, q4, q5, q6, g1, g2, by simp at g3 ⊢; omega⟩
theorem stroll_ok (O : Ok n L R) (S : Sd L s) (h0 : 0 < L.length) (a b c : Int) : ∃ (a' b' c' : Int) (ys : List Nat), D_law_stroll [bx a b c, .p (wD true L R), .p (sD s)] = some (.l (ys.map iN), [some (bx a' b' c'), some (.p (wD true L R)), some (.p (sD s))]) ∧ (∀ i, i ∈ ys → i < L.length) ∧ ys.length ≤ L.length + 1 := by
  have hLl := O.ll
  obtain ⟨r, a1, b1, c1, r0, r1, ht⟩ := take_ok a b c L.length (by omega) (by omega)
  obtain ⟨k, rfl⟩ : ∃ k : Nat, r = k := ⟨r.toNat, by omega⟩
  have hl : lenM (.p (sD s)) = some L.length := by
    show some (s.map nI).length = _
    rw [List.length_map, S.len]
  have s1 : sAsg (.sl 3) (uLst (uaCons (uFrz (uCall D_law_take (uaCons (uVar 0) (uaCons (uFun fLen (uaCons (uVar 2) uaNil)) uaNil)))) uaNil)) [some (bx a b c), some (.p (wD true L R)), some (.p (sD s)), none, none, none, none] = some (.nx (sT a1 b1 c1 L R s [k] none none none)) := by
    simp [sAsg, uLst, uFrz, uCall, uaCons, uaNil, uVar, uFun, rdL, rd, fLen, hl, passL, passOp, ht, backL, stM_eq, frz, takeL, G.take, asg]
  have hr := r1_ok (ua := uaCons (uFun fLen (uaCons (uVar 2) uaNil)) uaNil) (env := sT a1 b1 c1 L R s [k] none none none) (e := sT a1 b1 c1 L R s [k] none none none) (j := L.length) (by simp [uaCons, uaNil, uVar, uFun, rdL, rd, fLen, hl]) (rg_ok L.length (by omega))
  have hkl : ∀ i, i ∈ [k] → i < L.length := fun i hi => by rw [List.mem_singleton.mp hi]; omega
  have hrl : (rgD 0 (L.length : Int)).length = L.length := by rw [rgD_nI, List.length_map, List.length_range]
  rcases stroll_loop O S (rgD 0 (L.length : Int)) a1 b1 c1 [k] none none none (by simp) (by rw [hrl]; simp; omega) hkl with ⟨a2, b2, c2, ys, t, g1, g2, g3⟩ | ⟨a2, b2, c2, ys, q4, q5, q6, g1, g2, g3⟩
  · refine ⟨a2, b2, c2, ys, fn_go (n := 7) (k := 3) (np := 3) (f := m_law_stroll) (ms := [bx a b c, .p (wD true L R), .p (sD s)]) (Eq.refl 3) (e := some (bx a2 b2 c2) :: some (.p (wD true L R)) :: some (.p (sD s)) :: t) ?_, g2, by rw [hrl] at g3; simp at g3; omega⟩
    show m_law_stroll [some (bx a b c), some (.p (wD true L R)), some (.p (sD s)), none, none, none, none] = _
    unfold m_law_stroll
    rw [seq_go s1]
    exact seq_ret ((for_go hr).trans g1)
  · refine ⟨a2, b2, c2, ys, fn_go (n := 7) (k := 3) (np := 3) (f := m_law_stroll) (ms := [bx a b c, .p (wD true L R), .p (sD s)]) (Eq.refl 3) (e := [some (bx a2 b2 c2), some (.p (wD true L R)), some (.p (sD s)), none, q4, q5, q6]) ?_, g2, by rw [hrl] at g3; simp at g3; omega⟩
    show m_law_stroll [some (bx a b c), some (.p (wD true L R)), some (.p (sD s)), none, none, none, none] = _
    unfold m_law_stroll
    rw [seq_go s1, seq_go ((for_go hr).trans g1)]
    simp [sRet, uVar, mv]
end
end Hc

namespace Hc
open PySem PySem.Spec PyProof.Rows L2 G
section
variable {n : Nat} {L : List (Nat × Nat)} {R : List (List Nat)} {s : List Nat}
theorem Wk.snoc {s row s' ts r : List Nat} {who i : Nat} (w : Wk L R s row s' ts) (h : hadP R s' who = i :: r) : Wk L R s (row ++ [who]) (giveP L s' i) (ts ++ [i]) := by
  induction w with
  | nil => exact .cons h .nil
  | cons h0 _ ih => exact .cons h0 (ih h)
theorem some_able (O : Ok n L R) (S : Sd L s) (h0 : 0 < L.length) : ∃ w, w < n ∧ hadP R s w ≠ [] := by
  have hs : 0 < s.length := by rw [S.len]; exact h0
  have hat : s[0] = L[0].1 ∨ s[0] = L[0].2 := by
    have := S.at_ 0 L[0] (List.getElem?_eq_getElem h0)
    rw [List.getElem?_eq_getElem hs] at this
    exact this.imp Option.some.inj Option.some.inj
  obtain ⟨hw, hm⟩ := O.in_ h0 hat
  refine ⟨s[0], hw, fun z => ?_⟩
  have : 0 ∈ hadP R s s[0] := by
    unfold hadP
    exact List.mem_filter.mpr ⟨hm, decide_eq_true (List.getElem?_eq_getElem hs)⟩
  rw [z] at this
  cases this
theorem r1_var {k : Nat} {env : G.Env} {j : Int} (hk : env[k]? = some (some (.p (.int j)))) (r : rgOk 0 j = true) : uiR1 (uaCons (uVar k) uaNil) env = some (rgD 0 j, env) := by
  have hu : uaCons (uVar k) uaNil env = some ([.slot k], env) := by simp [uaCons, uaNil, uVar, hk]
  unfold uiR1
  rw [hu, Option.bind_some]
  simp only [rdL, rd, hk, Option.bind_some]
  rw [if_pos r]
theorem able_u (O : Ok n L R) (S : Sd L s) (a b c : Int) (o4 o5 o6 o7 o8 o9 o10 o11 o12 : Option M) :
    uLc (uiR1 (uaCons (uVar 2) uaNil)) (.sl 13) (uTruB (uBin (lift2 dNe) (uCall D_had (uaCons (uVar 1) (uaCons (uVar 3) (uaCons (uVar 13) uaNil)))) (uLst uaNil))) (uVar 13) [13] (e71 a b c L R n s o4 o5 o6 o7 o8 o9 o10 o11 o12)
      = some (.tmp (.l (((List.range n).filter fun w => !(hadP R s w).isEmpty).map iN)), e71 a b c L R n s o4 o5 o6 o7 o8 o9 o10 o11 o12) := by
  have hn8 := O.n8
  have hLl := O.ll
  have hr := r1_var (k := 2) (env := e71 a b c L R n s o4 o5 o6 o7 o8 o9 o10 o11 o12) (j := n) rfl (rg_ok n (by omega))
  rw [rgD_nI] at hr
  have l1 := lc_go (env := e71 a b c L R n s o4 o5 o6 o7 o8 o9 o10 o11 o12) (p := .sl 13) (t := uTruB (uBin (lift2 dNe) (uCall D_had (uaCons (uVar 1) (uaCons (uVar 3) (uaCons (uVar 13) uaNil)))) (uLst uaNil))) (u := uVar 13) (vs := [13]) nI (fun w => !(hadP R s w).isEmpty) iN (List.range n) fun w hw => by
    have hh := had_ok (b := true) O S (List.mem_range.mp hw)
    have hf : frz (.l ((hadP R s w).map iN)) = some (.list ((hadP R s w).map nI)) := nm_frz (.inl rfl)
    have hne : dNe (.list ((hadP R s w).map nI)) (.list []) = some (.bool (!(hadP R s w).isEmpty)) := by
      have o1 := (okD_nats (r := hadP R s w) fun j hj => by have := (had_lt O hj).1; omega).1
      have o2 : okD (.list []) = true := (okD_nats (r := []) fun j hj => by cases hj).1
      unfold dNe
      rw [o1, o2]
      cases hadP R s w <;> simp [PyData.eqv, PyData.eqvAll]
    unfold e71
    generalize M.l ((hadP R s w).map iN) = hm at hh hf
    generalize PyData.list ((hadP R s w).map nI) = hd at hf hne
    generalize (!(hadP R s w).isEmpty) = k at hne ⊢
    generalize wD true L R = W at hh ⊢
    generalize sD s = sd at hh ⊢
    refine ⟨[some (bx a b c), some (.p W), some (iN n), some (.p sd), o4, o5, o6, o7, o8, o9, o10, o11, o12, some (iN w), none, none, none], [some (bx a b c), some (.p W), some (iN n), some (.p sd), o4, o5, o6, o7, o8, o9, o10, o11, o12, some (iN w), none, none, none], by simp [asg], ?_, fun _ => ⟨_, [some (bx a b c), some (.p W), some (iN n), some (.p sd), o4, o5, o6, o7, o8, o9, o10, o11, o12, some (iN w), none, none, none], rfl, rfl, rfl⟩, fun _ => rfl⟩
    have hp : frz (.l []) = some (.list []) := rfl
    simp [uTruB, uBin, uCall, uaCons, uaNil, uVar, uLst, takeL, passL, passOp, hh, backL, stM_eq, rd, lift2, hf, hp, hne]
  exact lc_to hr (by rw [List.length_map, List.length_range]; omega) rfl rfl l1 rfl
end
end Hc

/-! PLp: who is able; moved; what's left of rings behind a move. -/
namespace Hc
open PySem PySem.Spec PyProof.Rows L2 G
theorem set_at {α : Type} {e : List α} {v : Nat} {x y : α} (h : e[v]? = some y) : (e.set v x)[v]? = some x := by
  obtain ⟨hl, _⟩ := List.getElem?_eq_some_iff.mp h
  simp [hl]
theorem set_ne {α : Type} {e : List α} {v k : Nat} {x : α} (h : k ≠ v) : (e.set v x)[k]? = e[k]? := List.getElem?_set_ne (fun q => h q.symm)
section
variable {n : Nat} {L : List (Nat × Nat)} {R : List (List Nat)} {s : List Nat} {e : G.Env} {b : Bool}
def ableP (R : List (List Nat)) (s : List Nat) (n : Nat) : List Nat := (List.range n).filter fun w => !(hadP R s w).isEmpty
theorem able_lc (O : Ok n L R) (S : Sd L s) {kW kS kN v : Nat} {o : Option M} (hW : e[kW]? = some (some (.p (wD b L R)))) (hS : e[kS]? = some (some (.p (sD s)))) (hN : e[kN]? = some (some (iN n))) (hv : e[v]? = some o) (ho : plO o = true)
    (h1 : kW ≠ v) (h2 : kS ≠ v) :
    Et (uLc (uiR1 (uaCons (uVar kN) uaNil)) (.sl v) (uTruB (uBin (lift2 dNe) (uCall D_had (uaCons (uVar kW) (uaCons (uVar kS) (uaCons (uVar v) uaNil)))) (uLst uaNil))) (uVar v) [v]) e (.l ((ableP R s n).map iN)) e := by
  have hn8 := O.n8
  have hLl := O.ll
  have hr := r1_var (k := kN) (env := e) (j := n) hN (rg_ok n (by omega))
  rw [rgD_nI] at hr
  have mm : ∀ x, x ∈ (List.range n).map nI → ∃ w, w < n ∧ x = nI w := fun x hx => by
    obtain ⟨w, hw, rfl⟩ := List.mem_map.mp hx
    exact ⟨w, List.mem_range.mp hw, rfl⟩
  have := lc_over (it := uiR1 (uaCons (uVar kN) uaNil)) (t := uTruB (uBin (lift2 dNe) (uCall D_had (uaCons (uVar kW) (uaCons (uVar kS) (uaCons (uVar v) uaNil)))) (uLst uaNil))) (u := uVar v) (fun x => match x with | .int z => !(hadP R s z.toNat).isEmpty | _ => false) (fun x => .p x) hr (by rw [List.length_map, List.length_range]; omega) hv ho
    (fun x hx => by
      obtain ⟨w, hw, rfl⟩ := mm x hx
      have hh := had_ok (b := b) O S hw
      have hf : frz (.l ((hadP R s w).map iN)) = some (.list ((hadP R s w).map nI)) := nm_frz (.inl rfl)
      have hne : dNe (.list ((hadP R s w).map nI)) (.list []) = some (.bool (!(hadP R s w).isEmpty)) := by
        have o1 := (okD_nats (r := hadP R s w) fun j hj => by have := (had_lt O hj).1; omega).1
        have o2 : okD (.list []) = true := (okD_nats (r := []) fun j hj => by cases hj).1
        unfold dNe
        rw [o1, o2]
        cases hadP R s w <;> simp [PyData.eqv, PyData.eqvAll]
      have hl : lift2 dNe (.l ((hadP R s w).map iN)) (.l []) = some (.p (.bool (!(hadP R s w).isEmpty))) := by
        unfold lift2
        rw [hf, Option.bind_some]
        show (some (PyData.list [])).bind _ = _
        rw [Option.bind_some, hne]
        rfl
      exact truB_tv (bin_etT (call_et (evp_cons (var_ev ((set_ne h1).trans hW)) (evp_cons (var_ev ((set_ne h2).trans hS)) (evp_cons (var_ev (set_at hv)) evp_nil))) hh) nilL_et.ev hl).ev)
    (fun x hx _ => ⟨.slot v, (var_rd (set_at hv)).1, by
      show takeS _ v = _
      unfold takeS
      rw [set_at hv]
      simp only [frz]
      rw [set_two]⟩)
  have hfil : ((List.range n).map nI).filter (fun x => match x with | .int z => !(hadP R s z.toNat).isEmpty | _ => false) = (ableP R s n).map nI := by
    rw [List.filter_map]; rfl
  rw [hfil, List.map_map] at this
  exact this
theorem able_iff {w : Nat} : w ∈ ableP R s n ↔ w < n ∧ hadP R s w ≠ [] := by
  unfold ableP
  rw [List.mem_filter, List.mem_range]
  cases hadP R s w <;> simp
theorem able_len (O : Ok n L R) : (ableP R s n).length ≤ 8 := Nat.le_trans (List.length_filter_le ..) (by rw [List.length_range]; exact O.n8)
theorem able_ne (O : Ok n L R) (S : Sd L s) (h0 : 0 < L.length) : ableP R s n ≠ [] := fun z => by
  obtain ⟨w, h1, h2⟩ := some_able O S h0
  have := able_iff.mpr ⟨h1, h2⟩
  rw [z] at this
  cases this
theorem moved_ok (O : Ok n L R) (S : Sd L s) {who i : Nat} {r : List Nat} (hw : who < n) (h : hadP R s who = i :: r) :
    D_moved [.p (wD b L R), .p (sD s), iN who] = some (.p (sD (giveP L s i)), [some (.p (wD b L R)), some (.p (sD s)), some (iN who)]) := by
  have hx := next_ok (b := b) O S hw
  rw [h] at hx
  have hi := (had_lt O (who := who) (i := i) (s := s) (by rw [h]; exact List.mem_cons_self ..)).1
  have hh := handed_ok (b := b) O S hi
  have t1 := asg_at (i := 3) (call_et (e := [some (.p (wD b L R)), some (.p (sD s)), some (iN who), none]) (ar3 (i := 0) (j := 1) (k := 2) rfl rfl rfl) hx) (by simp)
  refine fn_go (Eq.refl 3) ?_ (e := [some (.p (wD b L R)), some (.p (sD s)), some (iN who), some (iN i)])
  show m_moved [some (.p (wD b L R)), some (.p (sD s)), some (iN who), none] = _
  unfold m_moved
  refine (seq_go t1).trans ?_
  refine (seq_go (if_no (m9 := .p .none) (truB_tv (bin_et (var_ev rfl) c_et.ev rfl).ev))).trans ?_
  exact ret_et (call_et (ar3 rfl rfl rfl) hh)
/-! rings behind a move -/
theorem give_stop (O : Ok n L R) (S : Sd L s) {who i : Nat} {r : List Nat} (h : hadP R s who = i :: r) : nextsP L R ((giveP L s i).map some) i = [] := by
  obtain ⟨hi, hsi⟩ := had_lt O (who := who) (i := i) (s := s) (by rw [h]; exact List.mem_cons_self ..)
  have hsl : i < s.length := by rw [S.len]; exact hi
  have hsw : s[i] = who := by
    rw [List.getElem?_eq_getElem hsl] at hsi
    exact Option.some.inj hsi
  have hwho : who = L[i].1 ∨ who = L[i].2 := by
    have := S.at_ i L[i] (List.getElem?_eq_getElem hi)
    rw [hsi] at this
    exact this.imp Option.some.inj Option.some.inj
  have hat : ((giveP L s i).map some)[i]? = some (some (otherP L[i] who)) := by
    rw [List.getElem?_map, give_at S hi, hsw]; rfl
  cases q : nextsP L R ((giveP L s i).map some) i with
  | nil => rfl
  | cons j js =>
    have hj : j ∈ nextsP L R ((giveP L s i).map some) i := by rw [q]; exact List.mem_cons_self ..
    obtain ⟨h1, h2⟩ := (nextsP_mem hi hat).mp hj
    rw [other_other O hi hwho] at h1 h2
    have hji : j ≠ i := (tw_mem h1).1
    rw [List.getElem?_map, give_ne S hi hji] at h2
    have h3 : s[j]? = some who := by
      cases z : s[j]? with
      | none => rw [z] at h2; cases h2
      | some y => rw [z] at h2; exact Option.some.inj h2
    unfold hadP at h
    have := first_of h h1
    simp only [decide_eq_false_iff_not] at this
    exact absurd h3 this
theorem ring_left (O : Ok n L R) (S : Sd L s) {who i : Nat} {r : List Nat} (h : hadP R s who = i :: r) {x : Nat} (hx : Rch (nextsP L R ((giveP L s i).map some)) x x) : x ≠ i ∧ Rch (nextsP L R (s.map some)) x x := by
  have hstop := give_stop O S h
  have hi := (had_lt O (who := who) (i := i) (s := s) (by rw [h]; exact List.mem_cons_self ..)).1
  have no : ∀ y, ¬ Rch (nextsP L R ((giveP L s i).map some)) i y := fun y hy => by
    obtain ⟨z, hz, _⟩ := rch_head hy
    rw [hstop] at hz
    cases hz
  have hxi : x ≠ i := fun q => no x (q ▸ hx)
  have hsub : ∀ a, a ≠ i → ∀ j, j ≠ i → j ∈ nextsP L R ((giveP L s i).map some) a → j ∈ nextsP L R (s.map some) a := fun a ha j hj hm => by
    have e1 : (giveP L s i).map some = (s.map some).set i (some (otherP (L.getD i (0, 0)) (s.getD i 0))) := by
      unfold giveP
      rw [List.map_set]
    rw [e1] at hm
    exact set_sub (by rw [List.length_map, S.len]) a ha j hj hm
  rcases pass_t hsub hx hxi with ⟨_, z⟩ | ⟨z, _⟩
  · exact ⟨hxi, z⟩
  · rcases z with z | z
    · exact absurd z hxi
    · exact absurd z (no x)
end
end Hc

namespace Hc
open PySem PySem.Spec PyProof.Rows L2 G
theorem iN_m (xs : List Nat) : xs.map iN = (xs.map nI).map M.p := by rw [List.map_map]; rfl
theorem last_snoc (xs : List Nat) (j : Nat) : itemM (.l ((xs ++ [j]).map iN)) (-1) = some (iN j) := by
  show atI _ _ = _
  unfold atI ixN
  have : (-1 + ((xs.length + 1 : Nat) : Int)).toNat = xs.length := by omega
  rw [List.length_map, List.length_append, List.length_singleton, if_neg (by omega), if_pos (by omega), Option.bind_some, this, List.getElem?_map, List.getElem?_append_right (Nat.le_refl _), Nat.sub_self]
  rfl
section
variable {n : Nat} {L : List (Nat × Nat)} {R : List (List Nat)} {s : List Nat}
theorem turn71 (O : Ok n L R) (S : Sd L s) (h0 : 0 < L.length) (a b c : Int) (d0 : PyData) (row : List Nat) (hrow : row.length ≤ 1000) (o4 o7 o8 : Option M) :
    ∃ (a' b' c' : Int) (who i : Nat) (r : List Nat) (o8' : Option M), who < n ∧ hadP R s who = i :: r ∧ m_law_right_k71_b1 (e71 a b c L R n s o4 (some (.p d0)) (some (.l (row.map iN))) o7 o8 none none none none)
      = some (.nx (e71 a' b' c' L R n (giveP L s i) o4 (some (.p d0)) (some (.l ((row ++ [who]).map iN))) o7 o8' none none none none)) := by
  have hn8 := O.n8
  have s1 := asg_at (i := 8) (able_u O S a b c o4 (some (.p d0)) (some (.l (row.map iN))) o7 o8 none none none none) (by simp)
  generalize hab : (List.range n).filter (fun w => !(hadP R s w).isEmpty) = able at s1
  have hable : ∀ w, w ∈ able → w < n ∧ hadP R s w ≠ [] := fun w hw => by
    rw [← hab] at hw
    obtain ⟨h1, h2⟩ := List.mem_filter.mp hw
    exact ⟨List.mem_range.mp h1, fun z => by rw [z] at h2; cases h2⟩
  have hne : able ≠ [] := by
    obtain ⟨w, h1, h2⟩ := some_able O S h0
    intro z
    have : w ∈ able := by
      rw [← hab]
      exact List.mem_filter.mpr ⟨List.mem_range.mpr h1, by cases hq : hadP R s w with | nil => exact absurd hq h2 | cons _ _ => rfl⟩
    rw [z] at this
    cases this
  have hal : able.length ≤ 8 := by
    rw [← hab]
    exact Nat.le_trans (List.length_filter_le ..) (by rw [List.length_range]; exact hn8)
  obtain ⟨a1, b1, c1, d, hd, hof⟩ := of_lst a b c (able.map nI) (fun z => hne (List.map_eq_nil_iff.mp z)) (by rw [List.length_map]; omega) _ (.inl rfl)
  obtain ⟨who, hwho, rfl⟩ := List.mem_map.mp hd
  obtain ⟨hwn, hwne⟩ := hable who hwho
  rw [← iN_m] at hof
  obtain ⟨i, r, hir⟩ : ∃ i r, hadP R s who = i :: r := by
    cases hq : hadP R s who with
    | nil => exact absurd hq hwne
    | cons i r => exact ⟨i, r, rfl⟩
  have hg := gave_ok O S hwn hir
  have hu : uCall D_law_of (uaCons (uVar 0) (uaCons (uVar 8) uaNil)) (e71 a b c L R n s o4 (some (.p d0)) (some (.l (row.map iN))) o7 (some (.l (able.map iN))) none none none none) = some (.tmp (iN who), e71 a1 b1 c1 L R n s o4 (some (.p d0)) (some (.l (row.map iN))) o7 (some (.l (able.map iN))) none none none none) := by
    unfold e71
    generalize able.map iN = am at hof ⊢
    generalize row.map iN = rm
    generalize wD true L R = W
    generalize sD s = sd
    simp [uCall, uaCons, uaNil, uVar, passL, passOp, hof, backL, stM_eq]
  have s2 : sExpr (uApp 6 (uCall D_law_of (uaCons (uVar 0) (uaCons (uVar 8) uaNil)))) (e71 a b c L R n s o4 (some (.p d0)) (some (.l (row.map iN))) o7 (some (.l (able.map iN))) none none none none)
      = some (.nx (e71 a1 b1 c1 L R n s o4 (some (.p d0)) (some (.l ((row ++ [who]).map iN))) o7 (some (.l (able.map iN))) none none none none)) := by
    have := app_go (i := 6) (ms' := row.map iN) (ms := row.map iN) rfl hu rfl (by rw [List.length_map]; omega)
    have hap : (row ++ [who]).map iN = row.map iN ++ [iN who] := by rw [List.map_append]; rfl
    rw [hap]
    exact this
  have s3 : sAsg (.sl 3) (uCall D_law_gave (uaCons (uVar 1) (uaCons (uVar 3) (uaCons (uItem (uVar 6) (uNeg (uC (.int 1)))) uaNil)))) (e71 a1 b1 c1 L R n s o4 (some (.p d0)) (some (.l ((row ++ [who]).map iN))) o7 (some (.l (able.map iN))) none none none none)
      = some (.nx (e71 a1 b1 c1 L R n (giveP L s i) o4 (some (.p d0)) (some (.l ((row ++ [who]).map iN))) o7 (some (.l (able.map iN))) none none none none)) := by
    have hit := last_snoc row who
    have hdd : isD (.l ((row ++ [who]).map iN)) = false := rfl
    unfold e71
    generalize able.map iN = am
    generalize (row ++ [who]).map iN = rm at hit hdd ⊢
    generalize wD true L R = W at hg ⊢
    generalize sD s = sd at hg ⊢
    generalize sD (giveP L s i) = sd' at hg ⊢
    simp [sAsg, uCall, uaCons, uaNil, uVar, uItem, uNeg, uC, rd, hdd, itemI, hit, giveM, passL, passOp, hg, backL, stM_eq, G.take, asg]
  refine ⟨a1, b1, c1, who, i, r, some (.l (able.map iN)), hwn, hir, ?_⟩
  unfold m_law_right_k71_b1
  rw [seq_go s1]
  refine (seq_go s2).trans ?_
  exact s3
theorem turns71 (O : Ok n L R) (h0 : 0 < L.length) (s0 : List Nat) (o4 : Option M) : ∀ (ks : List PyData) (a b c : Int) (s row ts : List Nat) (o7 o8 : Option M), Sd L s → Wk L R s0 row s ts → (∀ w, w ∈ row → w < n) → row.length + ks.length ≤ 900 →
    ∃ (a' b' c' : Int) (s' row' ts' : List Nat) (o7' o8' : Option M), Sd L s' ∧ Wk L R s0 row' s' ts' ∧ (∀ w, w ∈ row' → w < n) ∧ row'.length ≤ 900 ∧ forL (.sl 7) m_law_right_k71_b1 ks (e71 a b c L R n s o4 (some (.p (sD s0))) (some (.l (row.map iN))) o7 o8 none none none none)
      = some (.nx (e71 a' b' c' L R n s' o4 (some (.p (sD s0))) (some (.l (row'.map iN))) o7' o8' none none none none))
  | [], a, b, c, s, row, ts, o7, o8, S, w, hr, hl => ⟨a, b, c, s, row, ts, o7, o8, S, w, hr, by simpa using hl, rfl⟩
  | k :: ks, a, b, c, s, row, ts, o7, o8, S, w, hr, hl => by
    rw [List.length_cons] at hl
    obtain ⟨a1, b1, c1, who, i, r, p8, h1, h2, hb⟩ := turn71 O S h0 a b c (sD s0) row (by omega) o4 (some (.p k)) o8
    have hi := (had_lt O (who := who) (i := i) (s := s) (by rw [h2]; exact List.mem_cons_self ..)).1
    obtain ⟨a2, b2, c2, s', row', ts', q7, q8, S', w', hr', hl', ih⟩ := turns71 O h0 s0 o4 ks a1 b1 c1 (giveP L s i) (row ++ [who]) (ts ++ [i]) (some (.p k)) p8 (sd_give S O hi) (w.snoc h2) (fun x hx => by
      rcases List.mem_append.mp hx with z | z
      · exact hr x z
      · rw [List.mem_singleton.mp z]; exact h1) (by rw [List.length_append, List.length_singleton]; omega)
    refine ⟨a2, b2, c2, s', row', ts', q7, q8, S', w', hr', hl', ?_⟩
    have ea : asg (.sl 7) (.p k) (e71 a b c L R n s o4 (some (.p (sD s0))) (some (.l (row.map iN))) o7 o8 none none none none) = some (e71 a b c L R n s o4 (some (.p (sD s0))) (some (.l (row.map iN))) (some (.p k)) o8 none none none none) := by simp [asg]
    rw [forL, ea, Option.bind_some, hb, Option.bind_some]
    simp only [stE_eq]
    exact ih
end
end Hc

namespace Hc
open PySem PySem.Spec PyProof.Rows L2 G
section
variable {n : Nat} {L : List (Nat × Nat)} {R : List (List Nat)} {s s0 row ts : List Nat}
theorem sd_lt (O : Ok n L R) (S : Sd L s) : ∀ x, x ∈ s → x < 8 := fun x hx => by
  obtain ⟨i, hi, rfl⟩ := List.mem_iff_getElem.mp hx
  have hil : i < L.length := by rw [← S.len]; exact hi
  have h := S.at_ i L[i] (List.getElem?_eq_getElem hil)
  have := O.lt L[i] (List.getElem_mem hil)
  have := O.n8
  rw [List.getElem?_eq_getElem hi] at h
  rcases h with h | h <;> have := Option.some.inj h <;> omega
theorem sd_sm (O : Ok n L R) (S : Sd L s) : Sm 1 (40 * 41) (sD s) := Sm.tup (fun x hx => by
  obtain ⟨i, hi, rfl⟩ := List.mem_map.mp hx
  exact Sm.int (by rw [Int.natAbs_natCast]; have := sd_lt O S i hi; omega)) (by rw [List.length_map, S.len]; exact O.ll)
theorem sd_ne (O : Ok n L R) (S : Sd L s) : lift2 dNe (.p (sD s)) (.p (sD s)) = some (.p (.bool false)) := by
  have h := sd_sm O S
  have hd : dNe (sD s) (sD s) = some (.bool false) := by
    have := eqv_self _ h.s
    unfold dNe
    rw [h.ok (by decide), this]
    rfl
  show (dNe (sD s) (sD s)).map M.p = _
  rw [hd]
  rfl
def restP (N : Nat) (ts : List Nat) : List Nat := (List.range N).filter fun i => !decide (i ∈ ts)
theorem rest_iff {N i : Nat} : i ∈ restP N ts ↔ i < N ∧ i ∉ ts := by
  unfold restP
  rw [List.mem_filter, List.mem_range]
  simp
theorem s6_71 (O : Ok n L R) (S0 : Sd L s0) (w : Wk L R s0 row s ts) (hr : ∀ x, x ∈ row → x < n) (hl : row.length ≤ 9000) (a b c : Int) (o4 o7 o8 : Option M) :
    sAsg (.sl 9) (uCall D_at_rest (uaCons (uVar 1) (uaCons (uVar 5) (uaCons (uVar 6) uaNil)))) (e71 a b c L R n s o4 (some (.p (sD s0))) (some (.l (row.map iN))) o7 o8 none none none none)
      = some (.nx (e71 a b c L R n s o4 (some (.p (sD s0))) (some (.p (.list (row.map nI)))) o7 o8 (some (.l ((restP L.length ts).map iN))) none none none)) := by
  have hc := call_row (.inl rfl) (at_rest_ok (b := true) O S0 w (.inl rfl) hr hl) (e := e71 a b c L R n s o4 (some (.p (sD s0))) (some (.l (row.map iN))) o7 o8 none none none none) (i := 1) (j := 5) (k := 6) rfl rfl rfl
  exact asg_at hc (by simp)
theorem s7_71 (O : Ok n L R) (S0 : Sd L s0) (S : Sd L s) (w : Wk L R s0 row s ts) (hr : ∀ x, x ∈ row → x < n) (hl : row.length ≤ 9000) (a b c : Int) (o4 o7 o8 : Option M) :
    sIf (uOr (uTruB (uBin (lift2 dNe) (uCall D_gone (uaCons (uVar 1) (uaCons (uVar 5) (uaCons (uVar 6) uaNil)))) (uVar 3))) (uTru (uFun fAny (uaCons (uLc (uiSeq (uVar 9)) (.sl 14) uYes (uBin (lift2 dNe) (uItem (uVar 3) (uVar 14)) (uItem (uVar 5) (uVar 14))) [14]) uaNil)))) (sRet (uC (.bool false))) sPass (e71 a b c L R n s o4 (some (.p (sD s0))) (some (.p (.list (row.map nI)))) o7 o8 (some (.l ((restP L.length ts).map iN))) none none none)
      = some (.nx (e71 a b c L R n s o4 (some (.p (sD s0))) (some (.p (.list (row.map nI)))) o7 o8 (some (.p (.list ((restP L.length ts).map nI)))) none none none)) := by
  have hLl := O.ll
  have hc := call_row (.inr rfl) (gone_ok (b := true) O S0 w (.inr rfl) hr hl) (e := e71 a b c L R n s o4 (some (.p (sD s0))) (some (.p (.list (row.map nI)))) o7 o8 (some (.l ((restP L.length ts).map iN))) none none none) (i := 1) (j := 5) (k := 6) rfl rfl rfl
  have hc : uCall D_gone (uaCons (uVar 1) (uaCons (uVar 5) (uaCons (uVar 6) uaNil))) (e71 a b c L R n s o4 (some (.p (sD s0))) (some (.p (.list (row.map nI)))) o7 o8 (some (.l ((restP L.length ts).map iN))) none none none) = some (.tmp (.p (sD s)), e71 a b c L R n s o4 (some (.p (sD s0))) (some (.p (.list (row.map nI)))) o7 o8 (some (.l ((restP L.length ts).map iN))) none none none) := hc
  have hne := sd_ne O S
  have c1 : uTruB (uBin (lift2 dNe) (uCall D_gone (uaCons (uVar 1) (uaCons (uVar 5) (uaCons (uVar 6) uaNil)))) (uVar 3)) (e71 a b c L R n s o4 (some (.p (sD s0))) (some (.p (.list (row.map nI)))) o7 o8 (some (.l ((restP L.length ts).map iN))) none none none) = some (false, e71 a b c L R n s o4 (some (.p (sD s0))) (some (.p (.list (row.map nI)))) o7 o8 (some (.l ((restP L.length ts).map iN))) none none none) := by
    generalize uCall _ _ = U at hc ⊢
    unfold e71 at hc ⊢
    generalize lift2 dNe = F at hne ⊢
    generalize sD s = sd at hc hne ⊢
    generalize wD true L R = W at hc ⊢
    generalize (restP L.length ts).map iN = rm at hc ⊢
    simp [uTruB, uBin, hc, uVar, rd, hne]
  have hrl : (restP L.length ts).length ≤ L.length := by
    have := List.length_filter_le (fun i => !decide (i ∈ ts)) (List.range L.length)
    rw [List.length_range] at this
    exact this
  have it : uiSeq (uVar 9) (e71 a b c L R n s o4 (some (.p (sD s0))) (some (.p (.list (row.map nI)))) o7 o8 (some (.l ((restP L.length ts).map iN))) none none none) = some ((restP L.length ts).map nI, e71 a b c L R n s o4 (some (.p (sD s0))) (some (.p (.list (row.map nI)))) o7 o8 (some (.p (.list ((restP L.length ts).map nI)))) none none none) := by
    have hf := nm_frz (xs := restP L.length ts) (m := .l ((restP L.length ts).map iN)) (.inl rfl)
    have hp : ∀ d, frz (.p d) = some d := fun _ => rfl
    unfold e71
    generalize M.l ((restP L.length ts).map iN) = rm at hf ⊢
    generalize (restP L.length ts).map nI = rd' at hf ⊢
    generalize sD s = sd
    generalize sD s0 = sd0
    generalize wD true L R = W
    simp [uiSeq, uVar, G.take, takeS, hf, hp, seqD_ll]
  have l1 := lc_go (env := e71 a b c L R n s o4 (some (.p (sD s0))) (some (.p (.list (row.map nI)))) o7 o8 (some (.p (.list ((restP L.length ts).map nI)))) none none none) (p := .sl 14) (t := uYes) (u := uBin (lift2 dNe) (uItem (uVar 3) (uVar 14)) (uItem (uVar 5) (uVar 14))) (vs := [14]) nI (fun _ => true) (fun _ => M.p (.bool false)) (restP L.length ts) fun i hi => by
    obtain ⟨hiN, hit⟩ := rest_iff.mp hi
    have h1 := item_s (s := s) (i := i) (by rw [S.len]; exact hiN)
    have h2 := item_s (s := s0) (i := i) (by rw [S0.len]; exact hiN)
    have he := w.stay O S0 i hit
    rw [List.getElem?_eq_getElem (by rw [S.len]; exact hiN), List.getElem?_eq_getElem (by rw [S0.len]; exact hiN)] at he
    have he := Option.some.inj he
    rw [he] at h1
    generalize s0[i]'(by rw [S0.len]; exact hiN) = v at h1 h2
    have hd1 : isD (.p (sD s)) = false := rfl
    have hd2 : isD (.p (sD s0)) = false := rfl
    have hv : lift2 dNe (iN v) (iN v) = some (.p (.bool false)) := by simp [lift2, frz, dNe_int]
    unfold e71
    generalize PyData.list ((restP L.length ts).map nI) = rr
    generalize PyData.list (row.map nI) = ww
    generalize sD s = sd at h1 hd1 ⊢
    generalize sD s0 = sd0 at h2 hd2 ⊢
    generalize wD true L R = W
    refine ⟨[some (bx a b c), some (.p W), some (iN n), some (.p sd), o4, some (.p sd0), some (.p ww), o7, o8, some (.p rr), none, none, none, none, some (iN i), none, none], [some (bx a b c), some (.p W), some (iN n), some (.p sd), o4, some (.p sd0), some (.p ww), o7, o8, some (.p rr), none, none, none, none, some (iN i), none, none], by simp [asg], rfl, fun _ => ⟨(.tmp (.p (.bool false)), [some (bx a b c), some (.p W), some (iN n), some (.p sd), o4, some (.p sd0), some (.p ww), o7, o8, some (.p rr), none, none, none, none, some (iN i), none, none]), _, ?_, rfl, rfl⟩, fun z => by cases z⟩
    generalize lift2 dNe = F at hv ⊢
    simp [uBin, uItem, uVar, rd, hd1, hd2, itemI, h1, h2, giveM, hv]
  rw [List.filter_eq_self.mpr (fun _ _ => rfl)] at l1
  have hlc := lc_to it (by rw [List.length_map]; omega) rfl rfl l1 (e3 := e71 a b c L R n s o4 (some (.p (sD s0))) (some (.p (.list (row.map nI)))) o7 o8 (some (.p (.list ((restP L.length ts).map nI)))) none none none) rfl
  have ha : fAny [.l ((restP L.length ts).map fun _ => M.p (.bool false))] = some (.p (.bool false)) := by
    have := any_map' (fun _ : Nat => false) (restP L.length ts)
    rw [this]
    have : (restP L.length ts).any (fun _ => false) = false := by simp
    rw [this]
  refine (if_false (e' := e71 a b c L R n s o4 (some (.p (sD s0))) (some (.p (.list (row.map nI)))) o7 o8 (some (.p (.list ((restP L.length ts).map nI)))) none none none) ((or_f c1).trans ?_)).trans rfl
  generalize uLc _ _ _ _ _ = U at hlc ⊢
  generalize (restP L.length ts).map (fun _ => M.p (.bool false)) = fm at hlc ha
  simp [uTru, uFun, uaCons, uaNil, hlc, rdL, rd, ha, truM]
end
end Hc

namespace Hc
open PySem PySem.Spec PyProof.Rows L2 G
section
variable {n : Nat} {L : List (Nat × Nat)} {R : List (List Nat)} {s s0 row ts : List Nat}
/-- wished as it stands what has moved -/
def hopeL (N : Nat) (ts s : List Nat) : List (Option Nat) := (List.range N).map fun i => if i ∈ restP N ts then none else some (s.getD i 0)
theorem hope_len (N : Nat) : (hopeL N ts s).length = N := by unfold hopeL; rw [List.length_map, List.length_range]
theorem hope_at {i : Nat} (S : Sd L s) (hi : i < L.length) : (hopeL L.length ts s)[i]? = some (if i ∈ ts then s[i]? else none) := by
  unfold hopeL
  rw [List.getElem?_map, List.getElem?_range hi]
  show some (if i ∈ restP L.length ts then none else some (s.getD i 0)) = _
  congr 1
  have hs : i < s.length := by rw [S.len]; exact hi
  by_cases q : i ∈ ts
  · have : i ∉ restP L.length ts := fun z => (rest_iff.mp z).2 q
    rw [if_neg this, if_pos q, List.getD_eq_getElem?_getD, List.getElem?_eq_getElem hs]
    rfl
  · have : i ∈ restP L.length ts := rest_iff.mpr ⟨hi, q⟩
    rw [if_pos this, if_neg q]
theorem hope_hd (S : Sd L s) : Hd L (hopeL L.length ts s) := by
  refine ⟨hope_len _, fun i p hp => ?_⟩
  have hi := (List.getElem?_eq_some_iff.mp hp).1
  rw [hope_at S hi]
  by_cases q : i ∈ ts
  · rw [if_pos q]
    rcases S.at_ i p hp with z | z
    · exact .inr (.inl (by rw [z]))
    · exact .inr (.inr (by rw [z]))
  · rw [if_neg q]
    exact .inl rfl
theorem hope_in (S : Sd L s) (i p : Nat) (h : (hopeL L.length ts s)[i]? = some (some p)) : i ∈ ts ∧ s[i]? = some p := by
  have hi := (List.getElem?_eq_some_iff.mp h).1
  rw [hope_len] at hi
  rw [hope_at S hi] at h
  by_cases q : i ∈ ts
  · rw [if_pos q] at h
    exact ⟨q, Option.some.inj h⟩
  · rw [if_neg q] at h
    cases h
theorem hope_free (O : Ok n L R) (S0 : Sd L s0) (S : Sd L s) (w : Wk L R s0 row s ts) : freeB L R (hopeL L.length ts s) = true := freeB_iff.mpr (moved_free O S0 w (hope_len _) (hope_in S))
theorem s8_71 (O : Ok n L R) (S : Sd L s) (a b c : Int) (o4 o5 o6 o7 o8 : Option M) :
    sAsg (.sl 10) (uFun fTuple (uaCons (uLc (uiOf gEnum (uaCons (uVar 3) uaNil)) (.tp [(.sl 14), (.sl 15)]) uYes (uIf (uTruB (uIn false (uVar 14) (uVar 9))) (uC .none) (uVar 15)) [14, 15]) uaNil)) (e71 a b c L R n s o4 o5 o6 o7 o8 (some (.p (.list ((restP L.length ts).map nI)))) none none none)
      = some (.nx (e71 a b c L R n s o4 o5 o6 o7 o8 (some (.p (.list ((restP L.length ts).map nI)))) (some (.p (.tuple ((hopeL L.length ts s).map nO)))) none none)) := by
  have hLl := O.ll
  have it : uiOf gEnum (uaCons (uVar 3) uaNil) (e71 a b c L R n s o4 o5 o6 o7 o8 (some (.p (.list ((restP L.length ts).map nI)))) none none none) = some ((List.range L.length).map fun i => .tuple [nI i, nI (s.getD i 0)], e71 a b c L R n s o4 o5 o6 o7 o8 (some (.p (.list ((restP L.length ts).map nI)))) none none none) := by
    have he := enumD_gen nI 0 s 0
    rw [S.len] at he
    have he : enumD 0 (s.map nI) = (List.range L.length).map fun i => .tuple [nI i, nI (s.getD i 0)] := by
      rw [he]
      refine List.map_congr_left fun w _ => ?_
      rw [Nat.zero_add]
    have hs : sD s = .tuple (s.map nI) := rfl
    unfold e71
    rw [hs]
    have sqt : ∀ ds, seqD (.tuple ds) = some ds := fun _ => rfl
    generalize s.map nI = ds at he ⊢
    generalize wD true L R = W
    generalize PyData.list ((restP L.length ts).map nI) = rr
    simp [uiOf, uaCons, uaNil, uVar, takeL, G.take, takeS, frz, frzL, gEnum, sqt, he]
  have l1 := lc_go (env := e71 a b c L R n s o4 o5 o6 o7 o8 (some (.p (.list ((restP L.length ts).map nI)))) none none none) (p := .tp [(.sl 14), (.sl 15)]) (t := uYes) (u := uIf (uTruB (uIn false (uVar 14) (uVar 9))) (uC .none) (uVar 15)) (vs := [14, 15]) (fun i => PyData.tuple [nI i, nI (s.getD i 0)]) (fun _ => true) (fun i => M.p (nO (if i ∈ restP L.length ts then none else some (s.getD i 0)))) (List.range L.length) fun i hi => by
    have hin := inM_nat (y := i) (zs := restP L.length ts) fun z hz => by have := (rest_iff.mp hz).1; omega
    unfold e71
    generalize PyData.list ((restP L.length ts).map nI) = rr at hin ⊢
    generalize wD true L R = W
    generalize sD s = sd
    have hc : uTruB (uIn false (uVar 14) (uVar 9)) [some (bx a b c), some (.p W), some (iN n), some (.p sd), o4, o5, o6, o7, o8, some (.p rr), none, none, none, none, some (iN i), some (iN (s.getD i 0)), none] = some (decide (i ∈ restP L.length ts), [some (bx a b c), some (.p W), some (iN n), some (.p sd), o4, o5, o6, o7, o8, some (.p rr), none, none, none, none, some (iN i), some (iN (s.getD i 0)), none]) := by
      simp [uTruB, uIn, uVar, rd, hin]
    refine ⟨[some (bx a b c), some (.p W), some (iN n), some (.p sd), o4, o5, o6, o7, o8, some (.p rr), none, none, none, none, some (iN i), some (iN (s.getD i 0)), none], [some (bx a b c), some (.p W), some (iN n), some (.p sd), o4, o5, o6, o7, o8, some (.p rr), none, none, none, none, some (iN i), some (iN (s.getD i 0)), none], by simp [asg, asgL, tupE], rfl, fun _ => ?_, fun z => by cases z⟩
    by_cases q : i ∈ restP L.length ts
    · rw [decide_eq_true q] at hc
      rw [if_pos q]
      refine ⟨(.tmp (.p .none), [some (bx a b c), some (.p W), some (iN n), some (.p sd), o4, o5, o6, o7, o8, some (.p rr), none, none, none, none, some (iN i), some (iN (s.getD i 0)), none]), _, ?_, rfl, rfl⟩
      unfold uIf
      rw [hc]
      rfl
    · rw [decide_eq_false q] at hc
      rw [if_neg q]
      refine ⟨(.slot 15, [some (bx a b c), some (.p W), some (iN n), some (.p sd), o4, o5, o6, o7, o8, some (.p rr), none, none, none, none, some (iN i), some (iN (s.getD i 0)), none]), [some (bx a b c), some (.p W), some (iN n), some (.p sd), o4, o5, o6, o7, o8, some (.p rr), none, none, none, none, some (iN i), some (iN (s.getD i 0)), none], ?_, rfl, rfl⟩
      unfold uIf
      rw [hc]
      rfl
  rw [List.filter_eq_self.mpr (fun _ _ => rfl)] at l1
  have hlc := lc_to it (by rw [List.length_map, List.length_range]; omega) rfl rfl l1 (e3 := e71 a b c L R n s o4 o5 o6 o7 o8 (some (.p (.list ((restP L.length ts).map nI)))) none none none) rfl
  have hft : fTuple [.l ((List.range L.length).map fun i => M.p (nO (if i ∈ restP L.length ts then none else some (s.getD i 0))))] = some (.p (.tuple ((hopeL L.length ts s).map nO))) := by
    have ha := allP_map ((hopeL L.length ts s).map nO)
    have hz : ((hopeL L.length ts s).map nO).map M.p = (List.range L.length).map fun i => M.p (nO (if i ∈ restP L.length ts then none else some (s.getD i 0))) := by
      unfold hopeL
      rw [List.map_map, List.map_map]
      rfl
    rw [hz] at ha
    show (allP _).map _ = _
    rw [ha]
    rfl
  refine asg_at (m := .p (.tuple ((hopeL L.length ts s).map nO))) (e := e71 a b c L R n s o4 o5 o6 o7 o8 (some (.p (.list ((restP L.length ts).map nI)))) none none none) ?_ (by simp)
  generalize uLc _ _ _ _ _ = U at hlc ⊢
  generalize (List.range L.length).map (fun i => M.p (nO (if i ∈ restP L.length ts then none else some (s.getD i 0)))) = mm at hlc hft
  simp [uFun, uaCons, uaNil, hlc, rdL, rd, hft]
end
end Hc

namespace Hc
open PySem PySem.Spec PyProof.Rows L2 G
theorem ch_rch {nx : Nat → List Nat} {z : Nat} : ∀ (l : List Nat) (x : Nat), ch nx (x :: (l ++ [z])) → Rch nx z x
  | [], x, h => .one h.1
  | y :: l, x, h => .more (ch_rch l y h.2) h.1
theorem ch_imp {nx nx' : Nat → List Nat} : ∀ (l : List Nat), (∀ x y, x ∈ l → y ∈ l → x ∈ nx y → x ∈ nx' y) → ch nx l → ch nx' l
  | [], _, _ => trivial
  | [_], _, _ => trivial
  | x :: y :: l, h, hc => ⟨h x y (List.mem_cons_self ..) (List.mem_cons_of_mem _ (List.mem_cons_self ..)) hc.1, ch_imp (y :: l) (fun a b ha hb => h a b (List.mem_cons_of_mem _ ha) (List.mem_cons_of_mem _ hb)) hc.2⟩
section
variable {n : Nat} {L : List (Nat × Nat)} {R : List (List Nat)} {s s0 row ts : List Nat}
theorem hope_next (S : Sd L s) {x y : Nat} (hx : x ∈ ts) (hy : y ∈ ts) (h : x ∈ nextsP L R (s.map some) y) : x ∈ nextsP L R (hopeL L.length ts s) y := by
  obtain ⟨hi, p, h1, h2, h3⟩ := next_cond (sd_hd S).len h
  have hxl : x < L.length := by
    have := (List.getElem?_eq_some_iff.mp h3).1
    rw [List.length_map, S.len] at this
    exact this
  rw [List.getElem?_map] at h1 h3
  have e1 : (hopeL L.length ts s)[y]? = some (some p) := by
    rw [hope_at S hi, if_pos hy]
    cases hs : s[y]? with
    | none => rw [hs] at h1; simp at h1
    | some v => rw [hs] at h1; simpa using h1
  refine (nextsP_mem hi e1).mpr ⟨h2, ?_⟩
  rw [hope_at S hxl, if_pos hx]
  cases hs : s[x]? with
  | none => rw [hs] at h3; simp at h3
  | some v => rw [hs] at h3; simpa using h3
/-- of each ring some thing rests -/
theorem ring_rest (O : Ok n L R) (S0 : Sd L s0) (S : Sd L s) (w : Wk L R s0 row s ts) {i : Nat} {ps : List Nat} (hi : i < L.length) (hc : ch (nextsP L R (s.map some)) (i :: (ps ++ [i]))) (hp : ∀ x, x ∈ ps → x < L.length) : ∃ x, x ∈ i :: ps.reverse ∧ x ∈ restP L.length ts := by
  by_cases q : ∃ x, x ∈ i :: ps.reverse ∧ x ∈ restP L.length ts
  · exact q
  · exfalso
    have hall : ∀ x, x ∈ i :: (ps ++ [i]) → x ∈ ts := fun x hx => by
      have hx' : x ∈ i :: ps.reverse := by
        simp at hx ⊢
        rcases hx with z | z | z
        · exact .inl z
        · exact .inr z
        · exact .inl z
      have hxl : x < L.length := by
        rcases List.mem_cons.mp hx' with rfl | z
        · exact hi
        · exact hp x (List.mem_reverse.mp z)
      by_cases z : x ∈ ts
      · exact z
      · exact absurd ⟨x, hx', rest_iff.mpr ⟨hxl, z⟩⟩ q
    have := ch_imp (nx' := nextsP L R (hopeL L.length ts s)) (i :: (ps ++ [i])) (fun x y hx hy h => hope_next S (hall x hx) (hall y hy) h) hc
    exact freeB_iff.mp (hope_free O S0 S w) i (ch_rch ps i this)
/-- where nothing rests -/
theorem none_rest (O : Ok n L R) (S0 : Sd L s0) (S : Sd L s) (w : Wk L R s0 row s ts) (h : restP L.length ts = []) : freeB L R (s.map some) = true := by
  have e : hopeL L.length ts s = s.map some := by
    apply List.ext_getElem?
    intro i
    by_cases hi : i < L.length
    · have : i ∈ ts := by
        by_cases z : i ∈ ts
        · exact z
        · have := rest_iff.mpr ⟨hi, z⟩
          rw [h] at this
          cases this
      rw [hope_at S hi, if_pos this, List.getElem?_map, List.getElem?_eq_getElem (by rw [S.len]; exact hi)]
      rfl
    · rw [List.getElem?_eq_none (by rw [hope_len]; omega), List.getElem?_eq_none (by rw [List.length_map, S.len]; omega)]
  rw [← e]
  exact hope_free O S0 S w
end
end Hc

namespace Hc
open PySem PySem.Spec PyProof.Rows L2 G
theorem back_2 (o : List (Option M)) (e : G.Env) : backL [none, none] o e = e := by
  match o with
  | [] => rfl
  | [_] => rfl
  | _ :: _ :: _ => rfl
theorem call_qq {F : Fn} {w st : PyData} {r : M} {outs : List (Option M)} {e : G.Env} {i j : Nat} (hF : F [.p w, .p st] = some (r, outs)) (hi : e[i]? = some (some (.p w))) (hj : e[j]? = some (some (.p st))) : uCall F (uaCons (uVar i) (uaCons (uVar j) uaNil)) e = some (.tmp r, e) := by
  have ha : uaCons (uVar i) (uaCons (uVar j) uaNil) e = some ([.slot i, .slot j], e) := by simp [uaCons, uaNil, uVar, hi, hj]
  have hp : passL e [.slot i, .slot j] = some ([.p w, .p st], [none, none], e) := by simp [passL, passOp, hi, hj]
  have := uCall_go ha hp hF
  rwa [back_2] at this
section
variable {n : Nat} {L : List (Nat × Nat)} {R : List (List Nat)} {h : List (Option Nat)} {s s0 row ts : List Nat} {b : Bool} {m : M}
theorem wish_ring_ok {r : PyData} (hr : D_ring_in [.p (wD b L R), m] = some (.p r, [some (.p (wD b L R)), some m])) : D_wish_ring [.p (wD b L R), m] = some (.p r, [some (.p (wD b L R)), some m]) := by
  have hc := call2 hr (e := [some (.p (wD b L R)), some m]) rfl rfl
  exact fn_go (n := 2) (k := 2) (np := 2) (f := m_wish_ring) (ms := [.p (wD b L R), m]) (Eq.refl 2) (ret_go hc)
theorem s9_71 (O : Ok n L R) (S0 : Sd L s0) (S : Sd L s) (w : Wk L R s0 row s ts) {e : G.Env} (h1 : e[1]? = some (some (.p (wD true L R)))) (h10 : e[10]? = some (some (.p (.tuple ((hopeL L.length ts s).map nO))))) :
    sIf (uOr (uNot (uTru (uCall D_law_is_free (uaCons (uVar 1) (uaCons (uVar 10) uaNil))))) (uTruB (uBin fIsNot (uCall D_wish_ring (uaCons (uVar 1) (uaCons (uVar 10) uaNil))) (uC .none)))) (sRet (uC (.bool false))) sPass e = some (.nx e) := by
  have hf := hope_free O S0 S w
  obtain ⟨_, k2, r, k3, k4⟩ := free_ok (b := true) O (hope_hd (ts := ts) S) (.inl rfl)
  have hn := (fis_ring k4).2
  rw [hf] at k2 hn
  have u1 := call_qq k2 h1 h10
  have u2 := call_qq (wish_ring_ok k3) h1 h10
  refine (if_false (e' := e) ?_).trans rfl
  generalize uCall D_law_is_free _ = U1 at u1 ⊢
  generalize uCall D_wish_ring _ = U2 at u2 ⊢
  generalize fIsNot = F at hn ⊢
  simp [uOr, uNot, uTru, uTruB, uBin, u1, u2, uC, rd, truM, hn]
end
end Hc

namespace Hc
open PySem PySem.Spec PyProof.Rows L2 G
theorem cutL_mem {α : Type} {xs : List α} {lo hi : Option Int} : (∀ x, x ∈ cutL xs lo hi → x ∈ xs) ∧ (cutL xs lo hi).length ≤ xs.length := by
  unfold cutL
  exact ⟨fun x hx => List.mem_of_mem_drop (List.mem_of_mem_take hx), by rw [List.length_take, List.length_drop]; omega⟩
theorem cat_ll {as bs : List PyData} (h : as.length + bs.length ≤ 1000) : fAdd (.l (as.map .p)) (.l (bs.map .p)) = some (.l ((as ++ bs).map .p)) := by
  have a1 := allP_map as
  have a2 := allP_map bs
  have f1 := frzL_map as
  have f2 := frzL_map bs
  have hz : as.length + bs.length ≤ sizeLine := len_le_line h
  generalize as.map M.p = m1 at *
  generalize bs.map M.p = m2 at *
  simp [fAdd, lift2, frz, f1, f2, iI, catL, catO, a1, a2, hz]
theorem frz_ll (as : List PyData) : frz (.l (as.map .p)) = some (.list as) := by
  show (frzL (as.map .p)).map _ = _
  rw [frzL_map]
  rfl
section
variable {n : Nat} {L : List (Nat × Nat)} {R : List (List Nat)} {s : List Nat}
/-- some of a row's parts, in an own list -/
def Prt (ds : List PyData) (e : G.Env) (u : U) : Prop := ∃ as : List PyData, u e = some (.tmp (.l (as.map .p)), e) ∧ (∀ x, x ∈ as → x ∈ ds) ∧ as.length ≤ ds.length
theorem prt_sl {ds : List PyData} {e : G.Env} (h2 : e[2]? = some (some (.p (.list ds)))) {lo hi : UO} {a b : Option Int} (h : lo e = some (a, e)) (h' : hi e = some (b, e)) : Prt ds e (uSl (uVar 2) lo hi) := by
  refine ⟨cutL ds a b, ?_, cutL_mem⟩
  simp [uSl, uVar, h2, h, h', rd, cutM]
theorem prt_rev {ds : List PyData} {e : G.Env} {u : U} (h : Prt ds e u) : Prt ds e (uRev u) := by
  obtain ⟨as, h1, h2, h3⟩ := h
  refine ⟨as.reverse, ?_, fun x hx => h2 x (List.mem_reverse.mp hx), by rw [List.length_reverse]; exact h3⟩
  have : revM (.l (as.map .p)) = some (.l (as.reverse.map .p)) := by
    show (allP (as.map .p)).map _ = _
    rw [allP_map]
    rfl
  generalize as.map M.p = ms at h1 this
  simp [uRev, h1, rd, this]
theorem part_k {e : G.Env} {k : Int} (h3 : e[3]? = some (some (.p (.int k)))) : uPart (uVar 3) e = some (some k, e) := by simp [uPart, uVar, h3, rd]
theorem part_kj {e : G.Env} {k : Int} (j : Int) (h3 : e[3]? = some (some (.p (.int k)))) : uPart (uBin fAdd (uVar 3) (uC (.int j))) e = some (some (k + j), e) := by
  have : fAdd (.p (.int k)) (.p (.int j)) = some (.p (.int (k + j))) := rfl
  generalize fAdd = F at this ⊢
  simp [uPart, uBin, uVar, uC, h3, rd, this]
theorem no_k (e : G.Env) : uNo e = some (none, e) := rfl
/-- all of it put together of parts -/
theorem cat_u {ds : List PyData} {as bs : List PyData} {e : G.Env} {u v : U} (h : u e = some (.tmp (.l (as.map .p)), e)) (h' : v e = some (.tmp (.l (bs.map .p)), e)) (hl : as.length + bs.length ≤ 1000) : uBin fAdd u v e = some (.tmp (.l ((as ++ bs).map .p)), e) := by
  have := cat_ll hl
  generalize as.map M.p = m1 at h this
  generalize bs.map M.p = m2 at h' this
  generalize fAdd = F at this ⊢
  simp [uBin, h, h', rd, this]
abbrev mX : Nat := 200 * (81 + 1)
def Ls (d : PyData) : Prop := Sm 2 mX d ∧ Pl d
theorem ls_list {xs : List PyData} (h : ∀ x, x ∈ xs → Sm 1 81 x) (hl : xs.length ≤ 200) : Ls (.list xs) :=
  ⟨Sm.lst h hl, fun ds e => by cases e; exact ⟨by omega, fun x hx => (h x hx).s⟩⟩
theorem ls_other {d : PyData} (h : Sm 2 mX d) (hn : isLd d = false) : Ls d := ⟨h, fun ds e => by subst e; cases hn⟩
abbrev vE (a b c : Int) (s : List Nat) (ds : List PyData) (k y : Int) (o5 o6 : Option M) : G.Env := [some (bx a b c), some (.p (sD s)), some (.p (.list ds)), some (.p (.int k)), some (.p (.int y)), o5, o6]
theorem frz_u {u : U} {e : G.Env} {as : List PyData} (h : u e = some (.tmp (.l (as.map .p)), e)) : uFrz u e = some (.tmp (.p (.list as)), e) := frz_ok h (frz_ll as)
theorem bent2_ok (O : Ok n L R) (S : Sd L s) (h0 : 0 < L.length) (a b c : Int) (xs : List Nat) (hxs : ∀ i, i ∈ xs → i < L.length) (hxl : xs.length ≤ 45) :
    ∃ (a' b' c' : Int) (d : PyData), D_law_bent_v2 [bx a b c, .p (sD s), .p (.list (xs.map nI))] = some (.p d, [some (bx a' b' c'), some (.p (sD s)), some (.p (.list (xs.map nI)))]) ∧ Ls d := by
  have hLl := O.ll
  have sm : ∀ d, d ∈ xs.map nI → Sm 1 81 d := fun d hd => by
    obtain ⟨j, hj, rfl⟩ := List.mem_map.mp hd
    exact (Sm.int (by rw [Int.natAbs_natCast]; have := hxs j hj; omega)).mono (by decide) (by decide)
  have hdl : (xs.map nI).length ≤ 45 := by rw [List.length_map]; exact hxl
  generalize xs.map nI = ds at sm hdl ⊢
  obtain ⟨k, a1, b1, c1, k0, k1, ht⟩ := take_ok a b c ((ds.length : Int) + 1) (by omega) (by omega)
  obtain ⟨y, a2, b2, c2, y0, y1, ht2⟩ := take_ok a1 b1 c1 7 (by decide) (by decide)
  have alen : fAdd (.p (.int (ds.length : Int))) (.p (.int 1)) = some (.p (.int ((ds.length : Int) + 1))) := rfl
  have hll : lenM (.p (.list ds)) = some ds.length := rfl
  have s1 : sPar 3 4 (uaCons (uCall D_law_take (uaCons (uVar 0) (uaCons (uBin fAdd (uFun fLen (uaCons (uVar 2) uaNil)) (uC (.int 1))) uaNil))) (uaCons (uCall D_law_take (uaCons (uVar 0) (uaCons (uC (.int 7)) uaNil))) uaNil))
      [some (bx a b c), some (.p (sD s)), some (.p (.list ds)), none, none, none, none] = some (.nx (vE a2 b2 c2 s ds k y none none)) := by
    generalize fAdd = F at alen ⊢
    simp [sPar, uaCons, uaNil, uCall, uVar, uC, uBin, uFun, rdL, rd, fLen, hll, alen, passL, passOp, ht, ht2, backL, stM_eq, takeL, G.take]
  have P : ∀ (a b c : Int) (o5 o6 : Option M) {lo hi : UO} {x z : Option Int}, lo (vE a b c s ds k y o5 o6) = some (x, vE a b c s ds k y o5 o6) → hi (vE a b c s ds k y o5 o6) = some (z, vE a b c s ds k y o5 o6) → Prt ds (vE a b c s ds k y o5 o6) (uSl (uVar 2) lo hi) := fun a b c o5 o6 lo hi x z h h' => prt_sl rfl h h'
  have smA : ∀ {as : List PyData}, (∀ x, x ∈ as → x ∈ ds) → ∀ x, x ∈ as → Sm 1 81 x := fun h x hx => sm x (h x hx)
  have smC : ∀ {as bs : List PyData}, (∀ x, x ∈ as → Sm 1 81 x) → (∀ x, x ∈ bs → Sm 1 81 x) → ∀ x, x ∈ as ++ bs → Sm 1 81 x := fun h h' x hx => by
    rcases List.mem_append.mp hx with q | q
    · exact h x q
    · exact h' x q
  -- the first five
  have s2 : ∃ fs : List PyData, fs.length = 5 ∧ (∀ d, d ∈ fs → Ls d) ∧ sAsg (.sl 5) (uLst (uaCons (uFrz (uBin fAdd (uSl (uVar 2) uNo (uPart (uVar 3))) (uSl (uVar 2) (uPart (uBin fAdd (uVar 3) (uC (.int 1)))) uNo))) (uaCons (uFrz (uBin fAdd (uSl (uVar 2) uNo (uPart (uBin fAdd (uVar 3) (uC (.int 1))))) (uSl (uVar 2) (uPart (uVar 3)) uNo))) (uaCons (uFrz (uRev (uVar 2))) (uaCons (uFun fTuple (uaCons (uVar 2) uaNil)) (uaCons (uFrz (uBin fAdd (uSl (uVar 2) (uPart (uVar 3)) uNo) (uSl (uVar 2) uNo (uPart (uVar 3))))) uaNil)))))) (vE a2 b2 c2 s ds k y none none)
      = some (.nx (vE a2 b2 c2 s ds k y (some (.l (fs.map .p))) none)) := by
    obtain ⟨p1, u1, m1, l1⟩ := P a2 b2 c2 none none (no_k _) (part_k rfl)
    obtain ⟨p2, u2, m2, l2⟩ := P a2 b2 c2 none none (part_kj 1 rfl) (no_k _)
    obtain ⟨p3, u3, m3, l3⟩ := P a2 b2 c2 none none (no_k _) (part_kj 1 rfl)
    obtain ⟨p4, u4, m4, l4⟩ := P a2 b2 c2 none none (part_k rfl) (no_k _)
    have w1 := frz_u (cat_u (ds := ds) u1 u2 (by omega))
    have w2 := frz_u (cat_u (ds := ds) u3 u4 (by omega))
    have w5 := frz_u (cat_u (ds := ds) u4 u1 (by omega))
    have w3 : uFrz (uRev (uVar 2)) (vE a2 b2 c2 s ds k y none none) = some (.tmp (.p (.list ds.reverse)), vE a2 b2 c2 s ds k y none none) := by
      refine frz_u (as := ds.reverse) ?_
      simp [uRev, uVar, rd, revM, lsM]
    have w4 : uFun fTuple (uaCons (uVar 2) uaNil) (vE a2 b2 c2 s ds k y none none) = some (.tmp (.p (.tuple ds)), vE a2 b2 c2 s ds k y none none) := rfl
    refine ⟨[.list (p1 ++ p2), .list (p3 ++ p4), .list ds.reverse, .tuple ds, .list (p4 ++ p1)], rfl, fun d hd => ?_, ?_⟩
    · simp only [List.mem_cons, List.not_mem_nil, or_false] at hd
      rcases hd with rfl | rfl | rfl | rfl | rfl
      · exact ls_list (smC (smA m1) (smA m2)) (by rw [List.length_append]; omega)
      · exact ls_list (smC (smA m3) (smA m4)) (by rw [List.length_append]; omega)
      · exact ls_list (smA fun x hx => List.mem_reverse.mp hx) (by rw [List.length_reverse]; omega)
      · exact ls_other (Sm.tup sm (by omega)) rfl
      · exact ls_list (smC (smA m4) (smA m1)) (by rw [List.length_append]; omega)
    · generalize uFrz (uBin fAdd (uSl (uVar 2) uNo (uPart (uVar 3))) _) = U1 at w1 ⊢
      generalize uFrz (uBin fAdd (uSl (uVar 2) uNo (uPart (uBin fAdd (uVar 3) (uC (.int 1))))) _) = U2 at w2 ⊢
      generalize uFrz (uRev (uVar 2)) = U3 at w3 ⊢
      generalize uFun fTuple _ = U4 at w4 ⊢
      generalize uFrz (uBin fAdd (uSl (uVar 2) (uPart (uVar 3)) uNo) _) = U5 at w5 ⊢
      simp [sAsg, uLst, uaCons, uaNil, w1, w2, w3, w4, w5, takeL, G.take, asg]
  obtain ⟨fs, hfl, hfs, s2⟩ := s2
  -- the sixth
  have s3 : ∃ gs : List PyData, gs.length = 6 ∧ (∀ d, d ∈ gs → Ls d) ∧ sExpr (uApp 5 (uFrz (uBin fAdd (uBin fAdd (uSl (uVar 2) uNo (uPart (uVar 3))) (uRev (uSl (uVar 2) (uPart (uVar 3)) (uPart (uBin fAdd (uVar 3) (uC (.int 2))))))) (uSl (uVar 2) (uPart (uBin fAdd (uVar 3) (uC (.int 2)))) uNo)))) (vE a2 b2 c2 s ds k y (some (.l (fs.map .p))) none)
      = some (.nx (vE a2 b2 c2 s ds k y (some (.l (gs.map .p))) none)) := by
    obtain ⟨p1, u1, m1, l1⟩ := P a2 b2 c2 (some (.l (fs.map .p))) none (no_k _) (part_k rfl)
    obtain ⟨p2, u2, m2, l2⟩ := prt_rev (P a2 b2 c2 (some (.l (fs.map .p))) none (part_k rfl) (part_kj 2 rfl))
    obtain ⟨p3, u3, m3, l3⟩ := P a2 b2 c2 (some (.l (fs.map .p))) none (part_kj 2 rfl) (no_k _)
    have w := frz_u (cat_u (ds := ds) (cat_u (ds := ds) u1 u2 (by omega)) u3 (by rw [List.length_append]; omega))
    refine ⟨fs ++ [.list (p1 ++ p2 ++ p3)], by rw [List.length_append, hfl]; rfl, fun d hd => ?_, ?_⟩
    · rcases List.mem_append.mp hd with q | q
      · exact hfs d q
      · rw [List.mem_singleton.mp q]
        exact ls_list (smC (smC (smA m1) (smA m2)) (smA m3)) (by rw [List.length_append, List.length_append]; omega)
    · rw [List.map_append]
      exact app_go (i := 5) (ms := fs.map .p) rfl w rfl (by rw [List.length_map, hfl]; decide)
  obtain ⟨gs, hgl, hgs, s3⟩ := s3
  -- the odd one
  have s4 : ∃ (a' b' c' : Int) (o : PyData), Sm 1 81 o ∧ sAsg (.sl 6) (uCall D_law_of (uaCons (uVar 0) (uaCons (uLst (uaCons (uC .none) (uaCons (uC (.bool true)) (uaCons (uC (.bool false)) (uaCons (uNeg (uC (.int 1))) (uaCons (uFun fLen (uaCons (uVar 1) uaNil)) (uaCons (uC (.str "0")) (uaCons (uFrz (uLst (uaCons (uC (.int 0)) uaNil))) (uaCons (uFrz (uCall D_law_take (uaCons (uVar 0) (uaCons (uFun fLen (uaCons (uVar 1) uaNil)) uaNil)))) uaNil))))))))) uaNil))) (vE a2 b2 c2 s ds k y (some (.l (gs.map .p))) none)
      = some (.nx (vE a' b' c' s ds k y (some (.l (gs.map .p))) (some (.p o)))) := by
    obtain ⟨r, a3, b3, c3, r0, r1, ht3⟩ := take_ok a2 b2 c2 L.length (by omega) (by omega)
    have hl : lenM (.p (sD s)) = some L.length := by
      show some (s.map nI).length = _
      rw [List.length_map, S.len]
    obtain ⟨a4, b4, c4, d, hd, hof⟩ := of_lst a3 b3 c3 [.none, .bool true, .bool false, .int (-1), .int L.length, .str "0", .list [.int 0], .int r] (by simp) (by simp) _ (.inl rfl)
    refine ⟨a4, b4, c4, d, ?_, ?_⟩
    · simp only [List.mem_cons, List.not_mem_nil, or_false] at hd
      rcases hd with rfl | rfl | rfl | rfl | rfl | rfl | rfl | rfl
      · exact Sm.non.mono (by decide) (by decide)
      · exact Sm.bl.mono (by decide) (by decide)
      · exact Sm.bl.mono (by decide) (by decide)
      · exact (Sm.int (by decide)).mono (by decide) (by decide)
      · exact (Sm.int (by rw [Int.natAbs_natCast]; omega)).mono (by decide) (by decide)
      · exact (Sm.str (by decide +kernel)).mono (by decide) (by decide)
      · exact (Sm.lst (m := 1) (xs := [.int 0]) (fun x hx => by rw [List.mem_singleton.mp hx]; exact Sm.int (by decide)) (by simp)).mono (by decide) (by decide)
      · exact (Sm.int (by omega)).mono (by decide) (by decide)
    · simp at hof
      unfold vE
      generalize gs.map M.p = ms
      simp [sAsg, uCall, uaCons, uaNil, uLst, uFrz, uC, uNeg, uFun, uVar, rdL, rd, fLen, hl, passL, passOp, ht3, backL, stM_eq, frz, frzL, takeL, G.take, hof, asg]
  obtain ⟨a3, b3, c3, o, hso, s4⟩ := s4
  have s5 : ∃ d, Ls d ∧ sRet (uItem (uBin fAdd (uVar 5) (uLst (uaCons (uFrz (uBin fAdd (uBin fAdd (uSl (uVar 2) uNo (uPart (uVar 3))) (uLst (uaCons (uVar 6) uaNil))) (uSl (uVar 2) (uPart (uBin fAdd (uVar 3) (uC (.int 1)))) uNo))) uaNil))) (uVar 4)) (vE a3 b3 c3 s ds k y (some (.l (gs.map .p))) (some (.p o)))
      = some (.rt (.p d) (vE a3 b3 c3 s ds k y (some (.l (gs.map .p))) (some (.p o)))) := by
    obtain ⟨p1, u1, m1, l1⟩ := P a3 b3 c3 (some (.l (gs.map .p))) (some (.p o)) (no_k _) (part_k rfl)
    obtain ⟨p2, u2, m2, l2⟩ := P a3 b3 c3 (some (.l (gs.map .p))) (some (.p o)) (part_kj 1 rfl) (no_k _)
    have u3 : uLst (uaCons (uVar 6) uaNil) (vE a3 b3 c3 s ds k y (some (.l (gs.map .p))) (some (.p o))) = some (.tmp (.l ([o].map .p)), vE a3 b3 c3 s ds k y (some (.l (gs.map .p))) (some (.p o))) := by
      unfold vE
      generalize gs.map M.p = ms
      simp [uLst, uaCons, uaNil, uVar, takeL, G.take, takeS, frz]
    have w := frz_u (cat_u (ds := ds) (cat_u (ds := ds) u1 u3 (by simp; omega)) u2 (by simp; omega))
    generalize hzz : PyData.list (p1 ++ [o] ++ p2) = zz at w
    have hz : Ls zz := by
      rw [← hzz]
      exact ls_list (smC (smC (smA m1) (fun x hx => by rw [List.mem_singleton.mp hx]; exact hso)) (smA m2)) (by simp; omega)
    have w2 : uLst (uaCons (uFrz (uBin fAdd (uBin fAdd (uSl (uVar 2) uNo (uPart (uVar 3))) (uLst (uaCons (uVar 6) uaNil))) (uSl (uVar 2) (uPart (uBin fAdd (uVar 3) (uC (.int 1)))) uNo))) uaNil) (vE a3 b3 c3 s ds k y (some (.l (gs.map .p))) (some (.p o))) = some (.tmp (.l ([zz].map .p)), vE a3 b3 c3 s ds k y (some (.l (gs.map .p))) (some (.p o))) := by
      generalize uFrz _ = U at w ⊢
      simp [uLst, uaCons, uaNil, w, takeL, G.take]
    have hadd := cat_ll (as := gs) (bs := [zz]) (by rw [hgl, List.length_singleton]; omega)
    have hgz : (gs ++ [zz]).length = 7 := by rw [List.length_append, hgl]; rfl
    have hy : y.toNat < (gs ++ [zz]).length := by omega
    have hit : itemM (.l ((gs ++ [zz]).map .p)) y = some (.p (gs ++ [zz])[y.toNat]) := by
      show atI _ _ = _
      unfold atI
      rw [List.length_map, hgz, ixN_ok y0 y1, Option.bind_some, List.getElem?_map, List.getElem?_eq_getElem hy]
      rfl
    refine ⟨(gs ++ [zz])[y.toNat], ?_, ?_⟩
    · rcases List.mem_append.mp (List.getElem_mem hy) with q | q
      · exact hgs _ q
      · rw [List.mem_singleton.mp q]; exact hz
    · have hd : isD (.l ((gs ++ [zz]).map .p)) = false := rfl
      have hadd : fAdd (.l (gs.map .p)) (.l [.p zz]) = some (.l ((gs ++ [zz]).map .p)) := hadd
      have w2 : _ = some (Op.tmp (.l [.p zz]), _) := w2
      generalize uLst _ = U at w2 ⊢
      unfold vE at w2 ⊢
      generalize (gs ++ [zz])[y.toNat] = dd at hit ⊢
      generalize (gs ++ [zz]).map M.p = mz at hit hadd hd
      generalize gs.map M.p = ms at w2 hadd ⊢
      generalize fAdd = F at hadd ⊢
      simp [sRet, uItem, uBin, uVar, rd, w2, hadd, hd, itemI, hit, giveM, mv]
  obtain ⟨d, hd, s5⟩ := s5
  refine ⟨a3, b3, c3, d, fn_go (n := 7) (k := 3) (np := 3) (f := m_law_bent_v2) (ms := [bx a b c, .p (sD s), .p (.list ds)]) (Eq.refl 3) (e := vE a3 b3 c3 s ds k y (some (.l (gs.map .p))) (some (.p o))) ?_, hd⟩
  show m_law_bent_v2 [some (bx a b c), some (.p (sD s)), some (.p (.list ds)), none, none, none, none] = _
  unfold m_law_bent_v2
  rw [seq_go s1]
  refine (seq_go s2).trans ?_
  refine (seq_go s3).trans ?_
  refine (seq_go s4).trans ?_
  exact s5
end
end Hc

namespace Hc
open PySem PySem.Spec PyProof.Rows L2 G
section
variable {n : Nat} {L : List (Nat × Nat)} {R : List (List Nat)} {s : List Nat}
abbrev rE6 (a b c : Int) (L : List (Nat × Nat)) (R : List (List Nat)) (o3 : Option M) (s : List Nat) (o5 o6 o7 o8 o9 o10 o11 : Option M) : G.Env :=
  [some (bx a b c), some (.p (wD true L R)), some (.p (wD false L R)), o3, some (.p (sD s)), o5, o6, o7, o8, o9, o10, o11, none]
/-! each matter -/
theorem two_same (x : Bool) : D_law_same [.l [.p (.bool x), .p (.bool x)], .l [.p (.bool x), .p (.bool x)]] = some (.p (.bool true), [some (.l [.p (.bool x), .p (.bool x)]), some (.l [.p (.bool x), .p (.bool x)])]) := by
  have hl : Sm 1 (2 * (40 + 1)) (.list [.bool x, .bool x]) := Sm.lst (fun z hz => by
    simp only [List.mem_cons, List.not_mem_nil, or_false] at hz
    rcases hz with rfl | rfl <;> exact Sm.bl) (by simp)
  obtain ⟨h1, h2⟩ := hl.shown (by decide) (by decide)
  exact same_ok _ _ (.list [.bool x, .bool x]) rfl rfl h1 h2
theorem shows_u {F : Fn} {w x : PyData} {m r : M} {e : G.Env} (hF : F [.p w, m, .p x] = some (r, [some (.p w), some m, some (.p x)])) {u : U} (h2 : e[2]? = some (some (.p w))) (h8 : e[8]? = some (some (.p x))) (hu : u e = some (.tmp m, e)) :
    uCall F (uaPick [2, 1, 0] (uaCons (uVar 8) (uaCons u (uaCons (uVar 2) uaNil)))) e = some (.tmp r, e) := by
  simp [uCall, uaPick, pick, uaCons, uaNil, uVar, h2, h8, hu, passL, passOp, hF, backL, stM_eq]
theorem call148 {F : Fn} {w st x : PyData} {r : M} {e : G.Env} (hF : F [.p w, .p st, .p x] = some (r, [some (.p w), some (.p st), some (.p x)])) (h1 : e[1]? = some (some (.p w))) (h4 : e[4]? = some (some (.p st))) (h8 : e[8]? = some (some (.p x))) :
    uCall F (uaCons (uVar 1) (uaCons (uVar 4) (uaCons (uVar 8) uaNil))) e = some (.tmp r, e) := by
  simp [uCall, uaCons, uaNil, uVar, h1, h4, h8, passL, passOp, hF, backL, stM_eq]
theorem b1_ok6 (O : Ok n L R) (S : Sd L s) (a b c : Int) {d : PyData} (hd : Ls d) (o3 o5 o6 o7 o9 o10 o11 : Option M) :
    ∃ (o9' o10' o11' : Option M), m_law_right_k06_b1 (rE6 a b c L R o3 s o5 o6 o7 (some (.p d)) o9 o10 o11) = some (.nx (rE6 a b c L R o3 s o5 o6 o7 (some (.p d)) o9' o10' o11')) := by
  obtain ⟨hsm, hpl⟩ := hd
  obtain ⟨hsh, hok⟩ := hsm.shown (by decide) (by decide)
  have H := sd_hd S
  have du := due_ok (b := true) O H (sd_rp s) hpl
  have sh1 := shows_ok (b := true) O H (sd_rp s) hpl
  have sh2 := shows_ok (b := false) O H (sl_rp s) hpl
  generalize ringD L R (s.map some) d = k at du sh1 sh2
  have s1 : sPar 9 10 (uaCons (uFun fRepr (uaCons (uVar 8) uaNil)) (uaCons (uCall D_law_due (uaCons (uVar 1) (uaCons (uVar 4) (uaCons (uVar 8) uaNil)))) uaNil)) (rE6 a b c L R o3 s o5 o6 o7 (some (.p d)) o9 o10 o11)
      = some (.nx (rE6 a b c L R o3 s o5 o6 o7 (some (.p d)) (some (.p (.str d.shown))) (some (.p (.bool k))) o11)) := by
    have l0 := call148 du (e := rE6 a b c L R o3 s o5 o6 o7 (some (.p d)) o9 o10 o11) rfl rfl rfl
    generalize uCall D_law_due _ = U at l0 ⊢
    simp [sPar, uaCons, uaNil, uFun, uVar, rdL, rd, fRepr, frz, hsh, l0, takeL, G.take]
  have s2 : sAsg (.sl 11) (uLst (uaCons (uFrz (uCall D_shows_ring (uaCons (uVar 1) (uaCons (uVar 4) (uaCons (uVar 8) uaNil))))) (uaCons (uFrz (uCall D_shows_ring (uaPick [2, 1, 0] (uaCons (uVar 8) (uaCons (uFun fList (uaCons (uVar 4) uaNil)) (uaCons (uVar 2) uaNil)))))) uaNil))) (rE6 a b c L R o3 s o5 o6 o7 (some (.p d)) (some (.p (.str d.shown))) (some (.p (.bool k))) o11)
      = some (.nx (rE6 a b c L R o3 s o5 o6 o7 (some (.p d)) (some (.p (.str d.shown))) (some (.p (.bool k))) (some (.l [.p (.bool k), .p (.bool k)])))) := by
    have hfl : uFun fList (uaCons (uVar 4) uaNil) (rE6 a b c L R o3 s o5 o6 o7 (some (.p d)) (some (.p (.str d.shown))) (some (.p (.bool k))) o11) = some (.tmp (.l (s.map iN)), rE6 a b c L R o3 s o5 o6 o7 (some (.p d)) (some (.p (.str d.shown))) (some (.p (.bool k))) o11) := by
      have : fList [.p (sD s)] = some (.l (s.map iN)) := by
        show some (M.l ((s.map nI).map M.p)) = _
        rw [List.map_map]
        rfl
      simp [uFun, uaCons, uaNil, uVar, rdL, rd, this]
    have u1 := frz_ok (call148 sh1 (e := rE6 a b c L R o3 s o5 o6 o7 (some (.p d)) (some (.p (.str d.shown))) (some (.p (.bool k))) o11) rfl rfl rfl) rfl
    have u2 := frz_ok (shows_u sh2 (e := rE6 a b c L R o3 s o5 o6 o7 (some (.p d)) (some (.p (.str d.shown))) (some (.p (.bool k))) o11) rfl rfl hfl) rfl
    generalize uFrz (uCall D_shows_ring (uaCons _ _)) = U1 at u1 ⊢
    generalize uFrz (uCall D_shows_ring (uaPick _ _)) = U2 at u2 ⊢
    simp [sAsg, uLst, uaCons, uaNil, u1, u2, takeL, G.take, asg]
  have hs4 := two_same k
  have ne : dNe (.str d.shown) (.str d.shown) = some (.bool false) := by
    unfold dNe
    rw [hok]
    simp [PyData.eqv]
  refine ⟨some (.p (.str d.shown)), some (.p (.bool k)), some (.l [.p (.bool k), .p (.bool k)]), ?_⟩
  unfold m_law_right_k06_b1
  rw [seq_go s1, seq_go s2]
  refine (if_false (e' := rE6 a b c L R o3 s o5 o6 o7 (some (.p d)) (some (.p (.str d.shown))) (some (.p (.bool k))) (some (.l [.p (.bool k), .p (.bool k)]))) ?_).trans rfl
  simp [uOr, uNot, uTru, uCall, uLst, takeL, G.take, takeS, uaCons, uaNil, uVar, uBin, rd, passL, passOp, hs4, backL, stM_eq, truM, uTruB, uFun, rdL, fRepr, frz, hsh, lift2, ne]
theorem b1_loop6 (O : Ok n L R) (S : Sd L s) (a b c : Int) (o3 o5 o6 o7 : Option M) : ∀ (ks : List PyData) (o8 o9 o10 o11 : Option M), (∀ d, d ∈ ks → Ls d) →
    ∃ (o8' o9' o10' o11' : Option M), forL (.sl 8) m_law_right_k06_b1 ks (rE6 a b c L R o3 s o5 o6 o7 o8 o9 o10 o11) = some (.nx (rE6 a b c L R o3 s o5 o6 o7 o8' o9' o10' o11'))
  | [], o8, o9, o10, o11, h => ⟨o8, o9, o10, o11, rfl⟩
  | k :: ks, o8, o9, o10, o11, h => by
    obtain ⟨p9, p10, p11, h1⟩ := b1_ok6 O S a b c (h k (List.mem_cons_self ..)) o3 o5 o6 o7 o9 o10 o11
    obtain ⟨q8, q9, q10, q11, ih⟩ := b1_loop6 O S a b c o3 o5 o6 o7 ks (some (.p k)) p9 p10 p11 fun d hd => h d (List.mem_cons_of_mem _ hd)
    refine ⟨q8, q9, q10, q11, ?_⟩
    have ea : asg (.sl 8) (.p k) (rE6 a b c L R o3 s o5 o6 o7 o8 o9 o10 o11) = some (rE6 a b c L R o3 s o5 o6 o7 (some (.p k)) o9 o10 o11) := by simp [asg]
    rw [forL, ea, Option.bind_some, h1, Option.bind_some]
    simp only [stE_eq]
    exact ih
/-! each walk -/
theorem bents (O : Ok n L R) (S : Sd L s) (h0 : 0 < L.length) (xs : List Nat) (hxs : ∀ i, i ∈ xs → i < L.length) (hxl : xs.length ≤ 45) (o3 o5 o6 o8 o9 o10 o11 : Option M) : ∀ (ks : List PyData) (a b c : Int), ∃ (a' b' c' : Int) (ys : List PyData),
    lcL (.sl 12) uYes (uFrz (uCall D_law_bent_v2 (uaCons (uVar 0) (uaCons (uVar 4) (uaCons (uVar 7) uaNil))))) [12] ks (rE6 a b c L R o3 s o5 o6 (some (.p (.list (xs.map nI)))) o8 o9 o10 o11) = some (ys.map .p, rE6 a' b' c' L R o3 s o5 o6 (some (.p (.list (xs.map nI)))) o8 o9 o10 o11) ∧ ys.length = ks.length ∧ ∀ d, d ∈ ys → Ls d
  | [], a, b, c => ⟨a, b, c, [], rfl, rfl, fun d hd => by cases hd⟩
  | k :: ks, a, b, c => by
    obtain ⟨a1, b1, c1, d, hb, hd⟩ := bent2_ok O S h0 a b c xs hxs hxl
    obtain ⟨a2, b2, c2, ys, ih, hl, hy⟩ := bents O S h0 xs hxs hxl o3 o5 o6 o8 o9 o10 o11 ks a1 b1 c1
    refine ⟨a2, b2, c2, d :: ys, ?_, by rw [List.length_cons, List.length_cons, hl], fun x hx => ?_⟩
    · generalize PyData.list (xs.map nI) = wd at hb ih ⊢
      rw [lcL]
      have ea : asg (.sl 12) (.p k) (rE6 a b c L R o3 s o5 o6 (some (.p wd)) o8 o9 o10 o11) = some [some (bx a b c), some (.p (wD true L R)), some (.p (wD false L R)), o3, some (.p (sD s)), o5, o6, some (.p wd), o8, o9, o10, o11, some (.p k)] := by simp [asg]
      have hu : uFrz (uCall D_law_bent_v2 (uaCons (uVar 0) (uaCons (uVar 4) (uaCons (uVar 7) uaNil)))) [some (bx a b c), some (.p (wD true L R)), some (.p (wD false L R)), o3, some (.p (sD s)), o5, o6, some (.p wd), o8, o9, o10, o11, some (.p k)] = some (.tmp (.p d), [some (bx a1 b1 c1), some (.p (wD true L R)), some (.p (wD false L R)), o3, some (.p (sD s)), o5, o6, some (.p wd), o8, o9, o10, o11, some (.p k)]) := by
        refine frz_ok (m := .p d) ?_ rfl
        simp [uCall, uaCons, uaNil, uVar, passL, passOp, hb, backL, stM_eq]
      generalize uFrz _ = U at hu ih ⊢
      rw [ea, Option.bind_some, show ∀ e, uYes e = some (true, e) from fun _ => rfl, Option.bind_some]
      simp only [if_true]
      rw [hu, Option.bind_some]
      simp only [G.take, Option.bind_some]
      have hw : wipeE [some (bx a1 b1 c1), some (.p (wD true L R)), some (.p (wD false L R)), o3, some (.p (sD s)), o5, o6, some (.p wd), o8, o9, o10, o11, some (.p k)] [12] = rE6 a1 b1 c1 L R o3 s o5 o6 (some (.p wd)) o8 o9 o10 o11 := rfl
      rw [hw, ih]
      rfl
    · rcases List.mem_cons.mp hx with rfl | hx
      · exact hd
      · exact hy x hx
theorem b2_ok6 (O : Ok n L R) (S : Sd L s) (h0 : 0 < L.length) (a b c : Int) (ms : List PyData) (hm : ms.length ≤ 400) (o3 o6 o7 o8 o9 o10 o11 : Option M) :
    ∃ (a' b' c' : Int) (ys : List PyData) (o7' : Option M), (∀ d, d ∈ ys → Ls d) ∧ ys.length = 7 ∧ m_law_right_k06_b2 (rE6 a b c L R o3 s (some (.l (ms.map .p))) o6 o7 o8 o9 o10 o11) = some (.nx (rE6 a' b' c' L R o3 s (some (.l ((ms ++ ys).map .p))) o6 o7' o8 o9 o10 o11)) := by
  have hLl := O.ll
  obtain ⟨a1, b1, c1, xs, hst, hxs, hxl⟩ := stroll_ok O S h0 a b c
  have s1 : sAsg (.sl 7) (uCall D_law_stroll (uaCons (uVar 0) (uaCons (uVar 1) (uaCons (uVar 4) uaNil)))) (rE6 a b c L R o3 s (some (.l (ms.map .p))) o6 o7 o8 o9 o10 o11) = some (.nx (rE6 a1 b1 c1 L R o3 s (some (.l (ms.map .p))) o6 (some (.l (xs.map iN))) o8 o9 o10 o11)) := by
    generalize ms.map M.p = mm
    generalize xs.map iN = xx at hst ⊢
    simp [sAsg, uCall, uaCons, uaNil, uVar, passL, passOp, hst, backL, stM_eq, G.take, asg]
  have sm : ∀ d, d ∈ xs.map nI → Sm 1 81 d := fun d hd => by
    obtain ⟨j, hj, rfl⟩ := List.mem_map.mp hd
    exact (Sm.int (by rw [Int.natAbs_natCast]; have := hxs j hj; omega)).mono (by decide) (by decide)
  obtain ⟨a2, b2, c2, ys, hlc, hyl, hys⟩ := bents O S h0 xs hxs (by omega) o3 (some (.l (ms.map .p))) o6 o8 o9 o10 o11 (rgD 0 4) a1 b1 c1
  have hds : xs.map iN = (xs.map nI).map M.p := by rw [List.map_map]; rfl
  have hdl : (xs.map nI).length ≤ 42 := by rw [List.length_map]; omega
  generalize hdd : xs.map nI = ds at *
  rw [hds] at s1
  have w2 : uFrz (uBin fAdd (uVar 7) (uVar 7)) (rE6 a1 b1 c1 L R o3 s (some (.l (ms.map .p))) o6 (some (.l (ds.map .p))) o8 o9 o10 o11) = some (.tmp (.p (.list (ds ++ ds))), rE6 a1 b1 c1 L R o3 s (some (.l (ms.map .p))) o6 (some (.l (ds.map .p))) o8 o9 o10 o11) := by
    refine frz_u ?_
    have := cat_ll (as := ds) (bs := ds) (by omega)
    generalize (ds ++ ds).map M.p = q at this ⊢
    generalize ds.map M.p = q1 at this ⊢
    generalize ms.map M.p = mm
    generalize fAdd = F at this ⊢
    simp [uBin, uVar, rd, this]
  have w3 : uFrz (uBin fAdd (uSl (uVar 7) uNo (uPart (uC (.int 2)))) (uVar 7)) (rE6 a1 b1 c1 L R o3 s (some (.l (ms.map .p))) o6 (some (.l (ds.map .p))) o8 o9 o10 o11) = some (.tmp (.p (.list (ds.take 2 ++ ds))), rE6 a1 b1 c1 L R o3 s (some (.l (ms.map .p))) o6 (some (.l (ds.map .p))) o8 o9 o10 o11) := by
    refine frz_u ?_
    have := cat_ll (as := ds.take 2) (bs := ds) (by rw [List.length_take]; omega)
    have hc : cutM (.l (ds.map .p)) none (some 2) = some (.l ((ds.take 2).map .p)) := by
      show (allP (ds.map .p)).map _ = _
      rw [allP_map]
      show some (M.l ((cutL ds none (some ((2 : Nat) : Int))).map M.p)) = _
      rw [cut_pre]
    generalize (ds.take 2 ++ ds).map M.p = q at this ⊢
    generalize (ds.take 2).map M.p = q2 at this hc ⊢
    generalize ds.map M.p = q1 at this hc ⊢
    generalize ms.map M.p = mm
    generalize fAdd = F at this ⊢
    simp [uBin, uSl, uNo, uPart, uC, uVar, rd, hc, this]
  have w1 : uLst (uaCons (uVar 7) (uaCons (uFrz (uBin fAdd (uVar 7) (uVar 7))) (uaCons (uFrz (uBin fAdd (uSl (uVar 7) uNo (uPart (uC (.int 2)))) (uVar 7))) uaNil))) (rE6 a1 b1 c1 L R o3 s (some (.l (ms.map .p))) o6 (some (.l (ds.map .p))) o8 o9 o10 o11)
      = some (.tmp (.l ([.list ds, .list (ds ++ ds), .list (ds.take 2 ++ ds)].map .p)), rE6 a1 b1 c1 L R o3 s (some (.l (ms.map .p))) o6 (some (.p (.list ds))) o8 o9 o10 o11) := by
    have hf := frzL_map ds
    generalize uFrz (uBin fAdd (uVar 7) (uVar 7)) = U2 at w2 ⊢
    generalize uFrz (uBin fAdd _ (uVar 7)) = U3 at w3 ⊢
    generalize ds.map M.p = q1 at w2 w3 hf ⊢
    generalize ms.map M.p = mm at w2 w3 ⊢
    simp [uLst, uaCons, uaNil, uVar, w2, w3, takeL, G.take, takeS, frz, hf]
  have w4 : uLc (uiR1 (uaCons (uC (.int 4)) uaNil)) (.sl 12) uYes (uFrz (uCall D_law_bent_v2 (uaCons (uVar 0) (uaCons (uVar 4) (uaCons (uVar 7) uaNil))))) [12] (rE6 a1 b1 c1 L R o3 s (some (.l (ms.map .p))) o6 (some (.p (.list ds))) o8 o9 o10 o11)
      = some (.tmp (.l (ys.map .p)), rE6 a2 b2 c2 L R o3 s (some (.l (ms.map .p))) o6 (some (.p (.list ds))) o8 o9 o10 o11) :=
    lc_to (r1_ok (ua := uaCons (uC (.int 4)) uaNil) (j := 4) rfl (rg_ok 4 (by decide))) (by decide) rfl rfl hlc rfl
  have k1 := cat_ll (as := ms) (bs := [.list ds, .list (ds ++ ds), .list (ds.take 2 ++ ds)]) (by simp; omega)
  have hyl' : ys.length = 4 := by rw [hyl]; rfl
  have k2 := cat_ll (as := ms ++ [.list ds, .list (ds ++ ds), .list (ds.take 2 ++ ds)]) (bs := ys) (by simp; omega)
  refine ⟨a2, b2, c2, [.list ds, .list (ds ++ ds), .list (ds.take 2 ++ ds)] ++ ys, some (.p (.list ds)), fun d hd => ?_, by rw [List.length_append, hyl']; rfl, ?_⟩
  · have smC : ∀ {as bs : List PyData}, (∀ x, x ∈ as → Sm 1 81 x) → (∀ x, x ∈ bs → Sm 1 81 x) → ∀ x, x ∈ as ++ bs → Sm 1 81 x := fun h h' x hx => by
      rcases List.mem_append.mp hx with q | q
      · exact h x q
      · exact h' x q
    rcases List.mem_append.mp hd with hd | hd
    · simp only [List.mem_cons, List.not_mem_nil, or_false] at hd
      rcases hd with rfl | rfl | rfl
      · exact ls_list sm (by omega)
      · exact ls_list (smC sm sm) (by rw [List.length_append]; omega)
      · exact ls_list (smC (fun x hx => sm x (List.mem_of_mem_take hx)) sm) (by rw [List.length_append, List.length_take]; omega)
    · exact hys d hd
  · unfold m_law_right_k06_b2
    rw [seq_go s1]
    rw [← List.append_assoc]
    generalize uLst _ = U1 at w1 ⊢
    generalize uLc _ _ _ _ _ = U2 at w4 ⊢
    generalize ([.list ds, .list (ds ++ ds), .list (ds.take 2 ++ ds)] : List PyData) = t3 at w1 k1 k2 ⊢
    generalize ((ms ++ t3) ++ ys).map M.p = z3 at k2 ⊢
    generalize (ms ++ t3).map M.p = z2 at k1 k2
    generalize t3.map M.p = z4 at w1 k1
    generalize ys.map M.p = z5 at w4 k2
    generalize ms.map M.p = mm at w1 w4 k1 ⊢
    generalize ds.map M.p = dm at w1 ⊢
    generalize fAdd = F at k1 k2 ⊢
    simp [sAsg, uBin, uVar, w1, w4, rd, k1, k2, G.take, asg]
theorem b2_loop6 (O : Ok n L R) (S : Sd L s) (h0 : 0 < L.length) (o3 o8 o9 o10 o11 : Option M) : ∀ (ks : List PyData) (a b c : Int) (ms : List PyData) (o6 o7 : Option M), ms.length + 7 * ks.length ≤ 400 → (∀ d, d ∈ ms → Ls d) →
    ∃ (a' b' c' : Int) (ys : List PyData) (o6' o7' : Option M), (∀ d, d ∈ ys → Ls d) ∧ forL (.sl 6) m_law_right_k06_b2 ks (rE6 a b c L R o3 s (some (.l (ms.map .p))) o6 o7 o8 o9 o10 o11) = some (.nx (rE6 a' b' c' L R o3 s (some (.l (ys.map .p))) o6' o7' o8 o9 o10 o11))
  | [], a, b, c, ms, o6, o7, hl, hm => ⟨a, b, c, ms, o6, o7, hm, rfl⟩
  | k :: ks, a, b, c, ms, o6, o7, hl, hm => by
    rw [List.length_cons] at hl
    obtain ⟨a1, b1, c1, ys, o7', hy, hyl, h1⟩ := b2_ok6 O S h0 a b c ms (by omega) o3 (some (.p k)) o7 o8 o9 o10 o11
    obtain ⟨a2, b2, c2, zs, q6, q7, hz, ih⟩ := b2_loop6 O S h0 o3 o8 o9 o10 o11 ks a1 b1 c1 (ms ++ ys) (some (.p k)) o7' (by rw [List.length_append, hyl]; omega) fun d hd => by
      rcases List.mem_append.mp hd with q | q
      · exact hm d q
      · exact hy d q
    refine ⟨a2, b2, c2, zs, q6, q7, hz, ?_⟩
    have ea : asg (.sl 6) (.p k) (rE6 a b c L R o3 s (some (.l (ms.map .p))) o6 o7 o8 o9 o10 o11) = some (rE6 a b c L R o3 s (some (.l (ms.map .p))) (some (.p k)) o7 o8 o9 o10 o11) := by simp [asg]
    rw [forL, ea, Option.bind_some, h1, Option.bind_some]
    simp only [stE_eq]
    exact ih
end
end Hc

namespace Hc
open PySem PySem.Spec PyProof.Rows L2 G
section
variable {n : Nat} {L : List (Nat × Nat)} {R : List (List Nat)} {s : List Nat}
def firsts : List PyData := [.none, .tuple [], .list [], .int 0, .bool true, .str "", .list [.int 0], .list [.int 0, .int 0], .list [.list [.int 0, .int 1]]]
theorem firsts_ls : ∀ d, d ∈ firsts → Ls d := fun d hd => by
  have i0 : ∀ {i : Int}, i.natAbs < 10 ^ 12 → Sm 1 81 (.int i) := fun h => (Sm.int h).mono (by decide) (by decide)
  unfold firsts at hd
  simp only [List.mem_cons, List.not_mem_nil, or_false] at hd
  rcases hd with rfl | rfl | rfl | rfl | rfl | rfl | rfl | rfl | rfl
  · exact ls_other (Sm.non.mono (by decide) (by decide)) rfl
  · exact ls_other ((Sm.tup (n := 0) (k := 0) (m := 0) (fun x hx => by cases hx) (by simp)).mono (by decide) (by decide)) rfl
  · exact ls_list (fun x hx => by cases hx) (by simp)
  · exact ls_other ((i0 (by decide)).mono (by decide) (by decide)) rfl
  · exact ls_other (Sm.bl.mono (by decide) (by decide)) rfl
  · exact ls_other ((Sm.str (by decide +kernel)).mono (by decide) (by decide)) rfl
  · exact ls_list (fun x hx => by rw [List.mem_singleton.mp hx]; exact i0 (by decide)) (by simp)
  · exact ls_list (fun x hx => by
      simp only [List.mem_cons, List.not_mem_nil, or_false] at hx
      rcases hx with rfl | rfl <;> exact i0 (by decide)) (by simp)
  · have : Sm 1 81 (.list [.int 0, .int 1]) := (Sm.lst (n := 0) (k := 39) (m := 2) (fun x hx => by
      simp only [List.mem_cons, List.not_mem_nil, or_false] at hx
      rcases hx with rfl | rfl
      · exact ⟨by decide +kernel, by decide +kernel, by decide +kernel⟩
      · exact ⟨by decide +kernel, by decide +kernel, by decide +kernel⟩) (by simp)).mono (by decide) (by decide)
    exact ls_list (fun x hx => by rw [List.mem_singleton.mp hx]; exact this) (by simp)
theorem b3_ok6 (O : Ok n L R) (h0 : 0 < L.length) (a b c : Int) (o3 o4 o5 o6 o7 o8 o9 o10 o11 : Option M) :
    ∃ (a' b' c' : Int) (o4' o5' o6' o7' o8' o9' o10' o11' : Option M), m_law_right_k06_b3 [some (bx a b c), some (.p (wD true L R)), some (.p (wD false L R)), o3, o4, o5, o6, o7, o8, o9, o10, o11, none]
      = some (.nx [some (bx a' b' c'), some (.p (wD true L R)), some (.p (wD false L R)), o3, o4', o5', o6', o7', o8', o9', o10', o11', none]) := by
  obtain ⟨a1, b1, c1, s, hlie, S⟩ := lies_ok O a b c
  have s1 : sAsg (.tp [(.sl 4), (.sl 5)]) (uTup (uaCons (uCall D_law_lies (uaCons (uVar 0) (uaCons (uVar 1) uaNil))) (uaCons (uLst (uaCons (uC .none) (uaCons (uTup uaNil) (uaCons (uFrz (uLst uaNil)) (uaCons (uC (.int 0)) (uaCons (uC (.bool true)) (uaCons (uC (.str "")) (uaCons (uFrz (uLst (uaCons (uC (.int 0)) uaNil))) (uaCons (uFrz (uLst (uaCons (uC (.int 0)) (uaCons (uC (.int 0)) uaNil)))) (uaCons (uFrz (uLst (uaCons (uFrz (uLst (uaCons (uC (.int 0)) (uaCons (uC (.int 1)) uaNil)))) uaNil))) uaNil)))))))))) uaNil))) [some (bx a b c), some (.p (wD true L R)), some (.p (wD false L R)), o3, o4, o5, o6, o7, o8, o9, o10, o11, none]
      = some (.nx (rE6 a1 b1 c1 L R o3 s (some (.l (firsts.map .p))) o6 o7 o8 o9 o10 o11)) := by
    simp [sAsg, uTup, uCall, uLst, uFrz, uC, uaCons, uaNil, uVar, passL, passOp, hlie, backL, stM_eq, takeL, G.take, frz, frzL, mkT, allP, asg, asgL, tupE, firsts]
  obtain ⟨a2, b2, c2, ys, q6, q7, hy, l2⟩ := b2_loop6 O S h0 o3 o8 o9 o10 o11 (rgD 0 4) a1 b1 c1 firsts o6 o7 (by decide) firsts_ls
  have s2 := (for_go (p := .sl 6) (body := m_law_right_k06_b2) (r1_ok (ua := uaCons (uC (.int 4)) uaNil) (j := 4) (env := rE6 a1 b1 c1 L R o3 s (some (.l (firsts.map .p))) o6 o7 o8 o9 o10 o11) (e := rE6 a1 b1 c1 L R o3 s (some (.l (firsts.map .p))) o6 o7 o8 o9 o10 o11) rfl (rg_ok 4 (by decide)))).trans l2
  have it5 : uiSeq (uVar 5) (rE6 a2 b2 c2 L R o3 s (some (.l (ys.map .p))) q6 q7 o8 o9 o10 o11) = some (ys, rE6 a2 b2 c2 L R o3 s (some (.p (.list ys))) q6 q7 o8 o9 o10 o11) := by
    have hf := frzL_map ys
    unfold rE6
    generalize ys.map M.p = ms at hf
    simp [uiSeq, uVar, G.take, takeS, frz, hf, seqD_ll]
  obtain ⟨q8, q9, q10, q11, l3⟩ := b1_loop6 O S a2 b2 c2 o3 (some (.p (.list ys))) q6 q7 ys o8 o9 o10 o11 hy
  have s3 := (for_go (p := .sl 8) (body := m_law_right_k06_b1) it5).trans l3
  refine ⟨a2, b2, c2, some (.p (sD s)), some (.p (.list ys)), q6, q7, q8, q9, q10, q11, ?_⟩
  unfold m_law_right_k06_b3
  rw [seq_go s1]
  refine (seq_go s2).trans ?_
  exact s3
theorem b3_loop6 (O : Ok n L R) (h0 : 0 < L.length) : ∀ (ks : List PyData) (a b c : Int) (o3 o4 o5 o6 o7 o8 o9 o10 o11 : Option M),
    ∃ (a' b' c' : Int) (o3' o4' o5' o6' o7' o8' o9' o10' o11' : Option M), forL (.sl 3) m_law_right_k06_b3 ks [some (bx a b c), some (.p (wD true L R)), some (.p (wD false L R)), o3, o4, o5, o6, o7, o8, o9, o10, o11, none]
      = some (.nx [some (bx a' b' c'), some (.p (wD true L R)), some (.p (wD false L R)), o3', o4', o5', o6', o7', o8', o9', o10', o11', none])
  | [], a, b, c, o3, o4, o5, o6, o7, o8, o9, o10, o11 => ⟨a, b, c, o3, o4, o5, o6, o7, o8, o9, o10, o11, rfl⟩
  | k :: ks, a, b, c, o3, o4, o5, o6, o7, o8, o9, o10, o11 => by
    obtain ⟨a1, b1, c1, p4, p5, p6, p7, p8, p9, p10, p11, h1⟩ := b3_ok6 (R := R) O h0 a b c (some (.p k)) o4 o5 o6 o7 o8 o9 o10 o11
    obtain ⟨a2, b2, c2, q3, q4, q5, q6, q7, q8, q9, q10, q11, ih⟩ := b3_loop6 O h0 ks a1 b1 c1 (some (.p k)) p4 p5 p6 p7 p8 p9 p10 p11
    refine ⟨a2, b2, c2, q3, q4, q5, q6, q7, q8, q9, q10, q11, ?_⟩
    have ea : asg (.sl 3) (.p k) [some (bx a b c), some (.p (wD true L R)), some (.p (wD false L R)), o3, o4, o5, o6, o7, o8, o9, o10, o11, none] = some [some (bx a b c), some (.p (wD true L R)), some (.p (wD false L R)), some (.p k), o4, o5, o6, o7, o8, o9, o10, o11, none] := by simp [asg]
    rw [forL, ea, Option.bind_some, h1, Option.bind_some]
    simp only [stE_eq]
    exact ih
theorem lots_okD (O : Ok n L R) : okD (sq true (L.map fun p => sq true [nI p.1, nI p.2])) = true := by
  refine Sm.ok (n := 2) (k := 40 * (82 + 1)) (Sm.tup (n := 1) (k := 82) (m := 40) (fun x hx => ?_) (by rw [List.length_map]; exact O.ll)) (by decide)
  obtain ⟨p, hp, rfl⟩ := List.mem_map.mp hx
  have := O.lt p hp
  have := O.n8
  refine Sm.mono (n := 1) (k := 2 * (40 + 1)) (Sm.tup (n := 0) (k := 40) (m := 2) (fun y hy => ?_) (by simp)) (by decide) (by decide)
  simp only [List.mem_cons, List.not_mem_nil, or_false] at hy
  rcases hy with rfl | rfl <;> exact Sm.int (by rw [Int.natAbs_natCast]; omega)
theorem lots_ne (O : Ok n L R) : dNe (sq true (L.map fun p => sq true [nI p.1, nI p.2])) (.tuple []) = some (.bool (!L.isEmpty)) := by
  have ok2 : okD (.tuple []) = true := by decide +kernel
  have hok := lots_okD O
  unfold dNe
  rw [hok, ok2]
  cases L with
  | nil => simp [sq, PyData.eqv, PyData.eqvAll]
  | cons p L => simp [sq, PyData.eqv, PyData.eqvAll]
theorem mul_a (j i : Int) (h : cMul j i = true) : fMulI (.p (.int j)) (.p (.int i)) = some (.p (.int (j * i))) := by
  simp [fMulI, lift2, frz, iIc, h]
theorem mul_b (j i : Int) (h : cMul j i = true) : fMul (.p (.int j)) (.p (.int i)) = some (.p (.int (j * i))) := by
  have := mul_a j i h
  unfold fMul
  rw [this]
  rfl
theorem mul_j (j : Nat) (hj : j ≤ 100) (i : Int) : fMul (.p (.int j)) (.p (.int i)) = some (.p (.int (j * i))) := mul_b j i (cMul_l (i := (j : Int)) i (by omega) (by omega))
theorem turns_i (O : Ok n L R) (e : G.Env) (h1 : e[1]? = some (some (.p (wD true L R)))) : uFun fInt (uaCons (uBin (lift2 dNe) (uItem (uVar 1) (uC (.int 0))) (uTup uaNil)) uaNil) e = some (.tmp (.p (.int (if L.isEmpty then 0 else 1))), e) := by
  have hne := lots_ne O
  have hi : fInt [.p (.bool (!L.isEmpty))] = some (.p (.int (if L.isEmpty then 0 else 1))) := by cases L <;> rfl
  have hit : itemM (.p (wD true L R)) 0 = some (.p (sq true (L.map fun p => sq true [nI p.1, nI p.2]))) := item_w0
  have hdw : isD (.p (wD true L R)) = false := rfl
  generalize sq true (L.map fun p => sq true [nI p.1, nI p.2]) = dd at hne hit
  generalize wD true L R = ww at h1 hit hdw
  generalize (if L.isEmpty then 0 else 1 : Int) = z at hi ⊢
  generalize (!L.isEmpty) = zb at hi hne
  simp [uBin, uC, uFun, uaCons, uaNil, uItem, uVar, uTup, h1, rd, rdL, hdw, itemI, hit, giveM, takeL, mkT, allP, lift2, frz, hne, hi]
theorem hz_ok (j : Nat) (k : Bool) : (j : Int) * (if k then 0 else 1) = ((if k then 0 else j : Nat) : Int) := by
  cases k <;> simp
theorem bin_ok {u v : U} {F : M → M → Option M} {e : G.Env} {x y r : M} (h : u e = some (.tmp x, e)) (h' : v e = some (.tmp y, e)) (hf : F x y = some r) : uaCons (uBin F u v) uaNil e = some ([.tmp r], e) := by
  simp [uaCons, uaNil, uBin, h, h', rd, hf]
theorem turns_u (O : Ok n L R) (j : Nat) (hj : j ≤ 100) (e : G.Env) (h1 : e[1]? = some (some (.p (wD true L R)))) : uaCons (uBin fMul (uC (.int j)) (uFun fInt (uaCons (uBin (lift2 dNe) (uItem (uVar 1) (uC (.int 0))) (uTup uaNil)) uaNil))) uaNil e = some ([.tmp (.p (.int ((if L.isEmpty then 0 else j : Nat) : Int)))], e) := by
  have hmul := mul_j j hj (if L.isEmpty then 0 else 1)
  rw [hz_ok] at hmul
  exact bin_ok (F := fMul) (u := uC (.int j)) rfl (turns_i O e h1) hmul
theorem turns_r (O : Ok n L R) (j : Nat) (hj : j ≤ 100) (e : G.Env) (h1 : e[1]? = some (some (.p (wD true L R)))) : uiR1 (uaCons (uBin fMul (uC (.int j)) (uFun fInt (uaCons (uBin (lift2 dNe) (uItem (uVar 1) (uC (.int 0))) (uTup uaNil)) uaNil))) uaNil) e = some (rgD 0 ((if L.isEmpty then 0 else j : Nat) : Int), e) := by
  have hz : (if L.isEmpty then 0 else j : Nat) ≤ 1000 := by split <;> omega
  exact r1_ok (turns_u O j hj e h1) (rg_ok _ hz)
theorem right_ok_k06 : RightOk D_law_right_k06 := by
  intro a b c
  obtain ⟨a1, b1, c1, n, L, R, O, _, hL, h1⟩ := field_ok 6 12 (by decide) (by decide) (by decide) a b c
  have hlis := listed_w O
  have hfz := frz_lW L R
  have t1 : sAsg (.sl 1) (uCall D_law_field (uaCons (uVar 0) (uaCons (uC (.int 6)) (uaCons (uC (.int 12)) uaNil)))) [some (bx a b c), none, none, none, none, none, none, none, none, none, none, none, none]
      = some (.nx [some (bx a1 b1 c1), some (.p (wD true L R)), none, none, none, none, none, none, none, none, none, none, none]) := by
    have h1 : D_law_field [bx a b c, .p (.int 6), .p (.int 12)] = some (.p (wD true L R), [some (bx a1 b1 c1), some (.p (.int 6)), some (.p (.int 12))]) := h1
    simp [sAsg, uCall, uaCons, uaNil, uVar, uC, passL, passOp, h1, backL, stM_eq, G.take, asg]
  have t2 : sAsg (.sl 2) (uFrz (uCall D_law_listed (uaCons (uVar 1) uaNil))) [some (bx a1 b1 c1), some (.p (wD true L R)), none, none, none, none, none, none, none, none, none, none, none]
      = some (.nx [some (bx a1 b1 c1), some (.p (wD true L R)), some (.p (wD false L R)), none, none, none, none, none, none, none, none, none, none]) := by
    simp [sAsg, uFrz, uCall, uaCons, uaNil, uVar, passL, passOp, hlis, hfz, backL, stM_eq, G.take, asg]
  have hr := turns_r O 2 (by decide) [some (bx a1 b1 c1), some (.p (wD true L R)), some (.p (wD false L R)), none, none, none, none, none, none, none, none, none, none] rfl
  have t3 : ∃ (a' b' c' : Int) (o3' o4' o5' o6' o7' o8' o9' o10' o11' : Option M), forL (.sl 3) m_law_right_k06_b3 (rgD 0 ((if L.isEmpty then 0 else 2 : Nat) : Int)) [some (bx a1 b1 c1), some (.p (wD true L R)), some (.p (wD false L R)), none, none, none, none, none, none, none, none, none, none]
      = some (.nx [some (bx a' b' c'), some (.p (wD true L R)), some (.p (wD false L R)), o3', o4', o5', o6', o7', o8', o9', o10', o11', none]) := by
    by_cases hLe : L = []
    · subst hLe
      exact ⟨a1, b1, c1, none, none, none, none, none, none, none, none, none, rfl⟩
    · exact b3_loop6 O (List.length_pos_iff.mpr hLe) _ a1 b1 c1 _ _ _ _ _ _ _ _ _
  obtain ⟨a3, b3, c3, q3, q4, q5, q6, q7, q8, q9, q10, q11, t3⟩ := t3
  refine ⟨a3, b3, c3, fn_go (n := 13) (k := 1) (np := 1) (f := m_law_right_k06) (ms := [bx a b c]) (Eq.refl 1) (e := [some (bx a3 b3 c3), some (.p (wD true L R)), some (.p (wD false L R)), q3, q4, q5, q6, q7, q8, q9, q10, q11, none]) ?_⟩
  show m_law_right_k06 [some (bx a b c), none, none, none, none, none, none, none, none, none, none, none, none] = _
  unfold m_law_right_k06
  rw [seq_go t1]
  refine (seq_go t2).trans ?_
  refine (seq_go ((for_go hr).trans t3)).trans ?_
  rfl
theorem law_true_k06 : ∀ ns : List Int, ns.length ≤ 63 → ∃ outs, D_law_k06 [.p (.list (ns.map .int))] = some (.p (.bool true), outs) := lawB_true (u := 3) (.inr rfl) right_ok_k06
end
end Hc

namespace Hc
open PySem PySem.Spec PyProof.Rows L2 G
section
variable {n : Nat} {L : List (Nat × Nat)} {R : List (List Nat)} {s : List Nat}
abbrev rM (xs : List Nat) : M := .p (.list (xs.map nI))
abbrev e70 (a b c : Int) (L : List (Nat × Nat)) (R : List (List Nat)) (n : Nat) (s : List Nat) (o4 o5 o6 o7 o8 o9 o10 o11 o12 o13 : Option M) : G.Env :=
  [some (bx a b c), some (.p (wD true L R)), some (.p (sD s)), some (iN n), o4, o5, o6, o7, o8, o9, o10, o11, o12, o13, none]
def Rs (N : Nat) (rs : List (List Nat)) : Prop := ∀ xs, xs ∈ rs → xs.length ≤ 50 ∧ ∀ i, i ∈ xs → i < N
theorem rs_in {N : Nat} {rs : List (List Nat)} {xs : List Nat} (hN : N ≤ 40) (h : Rs N rs) (hx : xs.length ≤ 50 ∧ ∀ i, i ∈ xs → i < N) (hl : rs.length ≤ 100) : ∃ k, inM (rM xs) (.l (rs.map rM)) = some k := by
  have sm1 : ∀ xs : List Nat, xs.length ≤ 50 → (∀ i, i ∈ xs → i < N) → Sm 1 (50 * 41) (.list (xs.map nI)) := fun xs h1 h2 => Sm.lst (fun x hx => by
    obtain ⟨i, hi, rfl⟩ := List.mem_map.mp hx
    exact Sm.int (by rw [Int.natAbs_natCast]; have := h2 i hi; omega)) (by rw [List.length_map]; exact h1)
  have o1 := (sm1 xs hx.1 hx.2).ok (by decide)
  have sm2 : Sm 2 (100 * (50 * 41 + 1)) (.list (rs.map fun xs => PyData.list (xs.map nI))) := Sm.lst (fun x hx => by
    obtain ⟨ys, hy, rfl⟩ := List.mem_map.mp hx
    exact sm1 ys (h ys hy).1 (h ys hy).2) (by rw [List.length_map]; exact hl)
  have o2 := sm2.ok (by decide)
  have hf : frz (.l (rs.map rM)) = some (.list (rs.map fun xs => PyData.list (xs.map nI))) := by
    have : rs.map rM = (rs.map fun xs => PyData.list (xs.map nI)).map M.p := by rw [List.map_map]; rfl
    rw [this]
    show (frzL _).map _ = _
    rw [frzL_map]
    rfl
  have hd : isD (.l (rs.map rM)) = false := rfl
  refine ⟨(rs.map fun xs => PyData.list (xs.map nI)).any fun z => PyData.eqv z (.list (xs.map nI)), ?_⟩
  unfold inM
  rw [hd, if_neg Bool.false_ne_true, hf]
  show (some (PyData.list (xs.map nI))).bind _ = _
  rw [Option.bind_some, Option.bind_some]
  unfold inD
  simp only [o1, o2, Bool.and_self, if_pos]
theorem eq_nil {xs : List Nat} (hx : ∀ x, x ∈ xs → x < 1000) : dEq (.list (xs.map nI)) (.list []) = some (.bool xs.isEmpty) := by
  have o1 := (okD_nats (r := xs) hx).1
  have o2 : okD (.list []) = true := (okD_nats (r := []) fun j hj => by cases hj).1
  unfold dEq
  rw [o1, o2]
  cases xs <;> simp [PyData.eqv, PyData.eqvAll]
theorem ne_nil {xs : List Nat} (hx : ∀ x, x ∈ xs → x < 1000) : dNe (.list (xs.map nI)) (.list []) = some (.bool (!xs.isEmpty)) := by
  have o1 := (okD_nats (r := xs) hx).1
  have o2 : okD (.list []) = true := (okD_nats (r := []) fun j hj => by cases hj).1
  unfold dNe
  rw [o1, o2]
  cases xs <;> simp [PyData.eqv, PyData.eqvAll]
theorem inM_nm {y : Nat} {zs : List Nat} {m : M} (hm : Nm zs m) (hz : ∀ z, z ∈ zs → z < 1000) : inM (iN y) m = some (decide (y ∈ zs)) := by
  rcases hm with rfl | rfl
  · have h := inM_nat (y := y) hz
    unfold inM at h ⊢
    have e1 : isD (.l (zs.map iN)) = false := rfl
    have e2 : isD (.p (.list (zs.map nI))) = false := rfl
    rw [e2] at h
    rw [e1]
    rw [nm_frz (.inl rfl)]
    exact h
  · exact inM_nat hz
/-- each ring told ahead is shown just where it stands -/
theorem circ70 (O : Ok n L R) (S : Sd L s) (a b c : Int) (o4 o5 o7 o8 o9 o10 o11 o12 : Option M) : ∀ (rs : List (List Nat)) (o13 : Option M), Rs L.length rs →
    ∃ o13', forL (.sl 13) m_law_right_k70_v2_b1 (rs.map fun xs => PyData.list (xs.map nI)) (e70 a b c L R n s o4 o5 none o7 o8 o9 o10 o11 o12 o13) = some (.nx (e70 a b c L R n s o4 o5 none o7 o8 o9 o10 o11 o12 o13'))
  | [], o13, _ => ⟨o13, rfl⟩
  | xs :: rs, o13, h => by
    obtain ⟨o13', ih⟩ := circ70 O S a b c o4 o5 o7 o8 o9 o10 o11 o12 rs (some (rM xs)) fun ys hy => h ys (List.mem_cons_of_mem _ hy)
    obtain ⟨hx1, hx2⟩ := h xs (List.mem_cons_self ..)
    refine ⟨o13', ?_⟩
    have ea : asg (.sl 13) (.p (.list (xs.map nI))) (e70 a b c L R n s o4 o5 none o7 o8 o9 o10 o11 o12 o13) = some (e70 a b c L R n s o4 o5 none o7 o8 o9 o10 o11 o12 (some (rM xs))) := by simp [asg]
    have k1 := shows_ok (b := true) O (sd_hd S) (sd_rp s) (d := .list (xs.map nI)) (fun ds hd => by
      cases hd
      exact ⟨by rw [List.length_map]; omega, fun x hx => by obtain ⟨i, hi, rfl⟩ := List.mem_map.mp hx; exact (Sm.int (by rw [Int.natAbs_natCast]; have := hx2 i hi; have := O.ll; omega)).s⟩)
    have k2 := isring_ok (b := true) O (sd_hd S) (sd_rp s) (xs := xs) hx2 (by omega)
    have hnum : numsOf (xs.map nI) = xs := by
      clear k1 k2 ea ih h hx1 hx2
      induction xs with
      | nil => rfl
      | cons x xs ihx => show (x : Int).toNat :: numsOf (xs.map nI) = _; rw [ihx]; rfl
    have hall : (xs.map nI).all (okI L.length) = true := List.all_eq_true.mpr fun x hx => by
      obtain ⟨i, hi, rfl⟩ := List.mem_map.mp hx
      exact decide_eq_true ⟨by omega, by have := hx2 i hi; omega⟩
    have hrd : ringD L R (s.map some) (.list (xs.map nI)) = ringP L R (s.map some) xs := by
      show ((xs.map nI).all (okI L.length) && ringP L R (s.map some) (numsOf (xs.map nI))) = _
      rw [hall, hnum, Bool.true_and]
    rw [hrd] at k1
    have hne : lift2 dNe (.p (.bool (ringP L R (s.map some) xs))) (.p (.bool (ringP L R (s.map some) xs))) = some (.p (.bool false)) := by
      cases ringP L R (s.map some) xs <;> rfl
    rw [List.map_cons, forL, ea, Option.bind_some]
    have hb : m_law_right_k70_v2_b1 (e70 a b c L R n s o4 o5 none o7 o8 o9 o10 o11 o12 (some (rM xs))) = some (.nx (e70 a b c L R n s o4 o5 none o7 o8 o9 o10 o11 o12 (some (rM xs)))) := by
      unfold m_law_right_k70_v2_b1
      exact if_no (m9 := .p .none) (truB_tv (bin_et (call_et (ar3 rfl rfl rfl) k1).ev (call_et (ar3 rfl rfl rfl) k2).ev hne).ev)
    rw [hb, Option.bind_some]
    simp only [stE_eq]
    exact ih
end
end Hc

namespace Hc
open PySem PySem.Spec PyProof.Rows L2 G
theorem ne_bb (k : Bool) : lift2 dNe (.p (.bool k)) (.p (.bool k)) = some (.p (.bool false)) := by cases k <;> rfl
/-- is there one in (not in) a list -/
theorem any_in {e : G.Env} {k j v : Nat} {neg : Bool} {xs ys : List Nat} {mk mj : M} {o : Option M} (hk : e[k]? = some (some mk)) (hmk : Nm xs mk) (hj : e[j]? = some (some mj)) (hmj : Nm ys mj) (hv : e[v]? = some o) (ho : plO o = true) (hkv : k ≠ v) (hjv : j ≠ v) (hkj : k ≠ j) (hy : ∀ y, y ∈ ys → y < 1000) (hl : xs.length ≤ 1000) :
    Tv (uTru (uFun fAny (uaCons (uLc (uiSeq (uVar k)) (.sl v) uYes (uIn neg (uVar v) (uVar j)) [v]) uaNil))) e (xs.any fun x => if neg then !decide (x ∈ ys) else decide (x ∈ ys)) (e.set k (some (.p (.list (xs.map nI))))) := by
  have it := seq_var hk (nm_frz hmk) (ds := xs.map nI) rfl
  have hv1 : (e.set k (some (.p (.list (xs.map nI)))))[v]? = some o := (set_ne (fun q => hkv q.symm)).trans hv
  have := lc_over (it := uiSeq (uVar k)) (t := uYes) (u := uIn neg (uVar v) (uVar j)) (fun _ => true) (fun x => match x with | .int z => .p (.bool (if neg then !decide (z.toNat ∈ ys) else decide (z.toNat ∈ ys))) | _ => .p .none) it (by rw [List.length_map]; exact hl) hv1 ho
    (fun x hx => rfl)
    (fun x hx _ => by
      obtain ⟨i, hi, rfl⟩ := List.mem_map.mp hx
      have h2 : ((e.set k (some (.p (.list (xs.map nI))))).set v (some (.p (nI i))))[j]? = some (some mj) := (set_ne hjv).trans ((set_ne (fun q => hkj q.symm)).trans hj)
      refine ⟨_, in_et (ev v (set_at hv1)) (ev j h2) (inM_nm hmj hy), rfl⟩)
  rw [List.filter_eq_self.mpr (fun _ _ => rfl), List.map_map] at this
  have := any_tv (c := fun x => if neg then !decide (x ∈ ys) else decide (x ∈ ys)) (xs := xs) this
  exact trb_tv this.ev
section
variable {n : Nat} {L : List (Nat × Nat)} {R : List (List Nat)} {s : List Nat}
theorem rgs_lt {nx : Nat → List Nat} {N : Nat} {is : List Nat} {rg : Nat → List Nat} (Y : Rgs nx N is rg) (hN : N ≤ 40) : ∀ x, x ∈ is → x < 1000 := fun x hx => by have := ((Y.mem x).mp hx).1; omega
theorem turn70 (O : Ok n L R) (S : Sd L s) (h0 : 0 < L.length) (a b c : Int) {is : List Nat} {rg : Nat → List Nat} (Y : Rgs (nextsP L R (s.map some)) L.length is rg) {m4 : M} (hm4 : Nm is m4) {rs : List (List Nat)} (hrs : Rs L.length rs) (hl : rs.length ≤ 90) (o7 o8 o9 o10 o11 o12 o13 : Option M) (ho : plO o10 = true) :
    ∃ (a' b' c' : Int) (s' is' : List Nat) (rg' : Nat → List Nat) (m4' : M) (rs' : List (List Nat)) (o8' o9' o10' o11' o12' o13' : Option M), Sd L s' ∧ Rgs (nextsP L R (s'.map some)) L.length is' rg' ∧ Nm is' m4' ∧ Rs L.length rs' ∧ rs'.length ≤ rs.length + 1 ∧ plO o10' = true ∧
      m_law_right_k70_v2_b2 (e70 a b c L R n s (some m4) (some (.p (.bool is.isEmpty))) (some (.l (rs.map rM))) o7 o8 o9 o10 o11 o12 o13) = some (.nx (e70 a' b' c' L R n s' (some m4') (some (.p (.bool is'.isEmpty))) (some (.l (rs'.map rM))) o7 o8' o9' o10' o11' o12' o13')) := by
  have hn8 := O.n8
  have hLl := O.ll
  obtain ⟨_, _, r, k3, k4⟩ := free_ok (b := true) O (sd_hd S) (sd_rp s)
  have t1 := asg_at (i := 8) (call_et (e := e70 a b c L R n s (some m4) (some (.p (.bool is.isEmpty))) (some (.l (rs.map rM))) o7 o8 o9 o10 o11 o12 o13) (ar2 (i := 1) (j := 2) rfl rfl) k3) (by simp)
  have t2 : ∃ rs', Rs L.length rs' ∧ rs'.length ≤ rs.length + 1 ∧ sIf (uAnd (uTruB (uBin fIsNot (uVar 8) (uC .none))) (uTruB (uIn true (uVar 8) (uVar 6)))) (sExpr (uApp 6 (uVar 8))) sPass (e70 a b c L R n s (some m4) (some (.p (.bool is.isEmpty))) (some (.l (rs.map rM))) o7 (some (.p r)) o9 o10 o11 o12 o13) = some (.nx (e70 a b c L R n s (some m4) (some (.p (.bool is.isEmpty))) (some (.l (rs'.map rM))) o7 (some (.p r)) o9 o10 o11 o12 o13)) := by
    have hn := (fis_ring k4).2
    have c0 : Tv (uTruB (uBin fIsNot (uVar 8) (uC .none))) (e70 a b c L R n s (some m4) (some (.p (.bool is.isEmpty))) (some (.l (rs.map rM))) o7 (some (.p r)) o9 o10 o11 o12 o13) (!freeB L R (s.map some)) _ := truB_tv (bin_et (ev 8 rfl) c_et.ev hn).ev
    rcases k4 with ⟨e1, rfl⟩ | ⟨e1, i, ps, rfl, hi, hch, nd, _, hps⟩
    · rw [e1] at c0
      exact ⟨rs, hrs, by omega, if_no (m9 := .p .none) (and_f c0)⟩
    · rw [e1] at c0
      have hpl := nd_len _ ps nd hps
      have hxs : (i :: ps.reverse).length ≤ 50 ∧ ∀ j, j ∈ i :: ps.reverse → j < L.length := ⟨by rw [List.length_cons, List.length_reverse]; omega, fun j hj => by
        rcases List.mem_cons.mp hj with rfl | hj
        · exact hi
        · exact hps j (List.mem_reverse.mp hj)⟩
      obtain ⟨k, hk⟩ := rs_in hLl hrs hxs (by omega)
      have c1 : Tv (uTruB (uIn true (uVar 8) (uVar 6))) (e70 a b c L R n s (some m4) (some (.p (.bool is.isEmpty))) (some (.l (rs.map rM))) o7 (some (rM (i :: ps.reverse))) o9 o10 o11 o12 o13) (!k) _ := truB_tv (in_et (ev 8 rfl) (ev 6 rfl) hk).ev
      have c2 := (and_t c0).trans c1
      cases k with
      | true => exact ⟨rs, hrs, by omega, if_no (m9 := .p .none) c2⟩
      | false =>
        refine ⟨rs ++ [i :: ps.reverse], fun xs hx => ?_, by rw [List.length_append, List.length_singleton]; omega, ?_⟩
        · rcases List.mem_append.mp hx with z | z
          · exact hrs xs z
          · rw [List.mem_singleton.mp z]; exact hxs
        · refine (if_true c2).trans ?_
          rw [List.map_append]
          exact app_s (i := 6) rfl (var_ek rfl) rfl (by rw [List.length_map]; omega)
  obtain ⟨rs', hrs', hl', t2⟩ := t2
  have t3 := asg_at (i := 9) (able_lc (b := true) O S (kW := 1) (kS := 2) (kN := 3) (v := 10) (e := e70 a b c L R n s (some m4) (some (.p (.bool is.isEmpty))) (some (.l (rs'.map rM))) o7 (some (.p r)) o9 o10 o11 o12 o13) rfl rfl rfl rfl ho (by decide) (by decide)) (by simp)
  have hal := able_len (s := s) O
  have hne := able_ne O S h0
  have hable := fun w => able_iff (R := R) (s := s) (n := n) (w := w)
  generalize ableP R s n = able at hal hne hable t3
  obtain ⟨a1, b1, c1, d, hd, hof⟩ := of_lst a b c (able.map nI) (fun z => hne (List.map_eq_nil_iff.mp z)) (by rw [List.length_map]; omega) _ (.inl rfl)
  obtain ⟨who, hwho, rfl⟩ := List.mem_map.mp hd
  obtain ⟨hwn, hwne⟩ := (hable who).mp hwho
  rw [← iN_m] at hof
  obtain ⟨i, rr, hir⟩ : ∃ i r, hadP R s who = i :: r := by
    cases hq : hadP R s who with
    | nil => exact absurd hq hwne
    | cons i r => exact ⟨i, r, rfl⟩
  have hi := (had_lt O (who := who) (i := i) (s := s) (by rw [hir]; exact List.mem_cons_self ..)).1
  have u4 : uCall D_law_of (uaCons (uVar 0) (uaCons (uVar 9) uaNil)) (e70 a b c L R n s (some m4) (some (.p (.bool is.isEmpty))) (some (.l (rs'.map rM))) o7 (some (.p r)) (some (.l (able.map iN))) o10 o11 o12 o13) = some (.tmp (iN who), e70 a1 b1 c1 L R n s (some m4) (some (.p (.bool is.isEmpty))) (some (.l (rs'.map rM))) o7 (some (.p r)) (some (.l (able.map iN))) o10 o11 o12 o13) := by
    unfold e70
    generalize able.map iN = am at hof ⊢
    generalize rs'.map rM = rm
    generalize wD true L R = W
    generalize sD s = sd
    simp [uCall, uaCons, uaNil, uVar, passL, passOp, hof, backL, stM_eq]
  have t4 := asg_at (i := 10) u4 (by simp)
  have S' := sd_give S O hi
  have hnx := next_ok (b := true) O S hwn
  rw [hir] at hnx
  have hmv := moved_ok (b := true) O S hwn hir
  have t5 := tup2_s (i := 11) (j := 2) (e := e70 a1 b1 c1 L R n s (some m4) (some (.p (.bool is.isEmpty))) (some (.l (rs'.map rM))) o7 (some (.p r)) (some (.l (able.map iN))) (some (iN who)) o11 o12 o13)
    (ekl_t (call_et (ar3 (i := 1) (j := 2) (k := 10) rfl rfl rfl) hnx) (ekl_t (call_et (ar3 (i := 1) (j := 2) (k := 10) rfl rfl rfl) hmv) ekl_nil)) (by simp) (by simp)
  obtain ⟨is', rg', Y', hrk⟩ := rings_ok O (sd_hd S')
  obtain ⟨g1, _, g3⟩ := hrk true _ (sd_rp _)
  have hlt' := rgs_lt Y' hLl
  have hlt := rgs_lt Y hLl
  have hsub : ∀ x, x ∈ is' → x ≠ i ∧ x ∈ is := fun x hx => by
    obtain ⟨q1, q2⟩ := (Y'.mem x).mp hx
    obtain ⟨q3, q4⟩ := ring_left O S hir q2
    exact ⟨q3, (Y.mem x).mpr ⟨q1, q4⟩⟩
  have t6 := asg_at (i := 12) (call_et (e := e70 a1 b1 c1 L R n (giveP L s i) (some m4) (some (.p (.bool is.isEmpty))) (some (.l (rs'.map rM))) o7 (some (.p r)) (some (.l (able.map iN))) (some (iN who)) (some (iN i)) o12 o13) (ar2 (i := 1) (j := 2) rfl rfl) g1) (by simp)
  have cA := truB_tv (in_et (neg := false) (ev 11 (e := e70 a1 b1 c1 L R n (giveP L s i) (some m4) (some (.p (.bool is.isEmpty))) (some (.l (rs'.map rM))) o7 (some (.p r)) (some (.l (able.map iN))) (some (iN who)) (some (iN i)) (some (.l (is'.map iN))) o13) rfl) (ev 12 rfl) (inM_nm (y := i) (zs := is') (.inl rfl) hlt')).ev
  rw [decide_eq_false (fun q => (hsub i q).1 rfl)] at cA
  have cB := any_in (e := e70 a1 b1 c1 L R n (giveP L s i) (some m4) (some (.p (.bool is.isEmpty))) (some (.l (rs'.map rM))) o7 (some (.p r)) (some (.l (able.map iN))) (some (iN who)) (some (iN i)) (some (.l (is'.map iN))) o13) (k := 12) (j := 4) (v := 14) (neg := true) (xs := is') (ys := is) rfl (.inl rfl) rfl hm4 rfl rfl (by decide) (by decide) (by decide) hlt (by have := Y'.isl; omega)
  have hany : (is'.any fun x => if true = true then !decide (x ∈ is) else decide (x ∈ is)) = false := by
    rw [List.any_eq_false]
    intro x hx
    simp [(hsub x hx).2]
  rw [hany] at cB
  have q1 : lift2 dNe (.p (.list (is'.map nI))) (.l []) = some (.p (.bool (!is'.isEmpty))) := by
    show (dNe (.list (is'.map nI)) (.list [])).map M.p = _
    rw [ne_nil hlt']
    rfl
  have cC := and_tv (e := e70 a1 b1 c1 L R n (giveP L s i) (some m4) (some (.p (.bool is.isEmpty))) (some (.l (rs'.map rM))) o7 (some (.p r)) (some (.l (able.map iN))) (some (iN who)) (some (iN i)) (some (.p (.list (is'.map nI)))) o13) (trb_tv (ev 5 rfl)) fun _ => truB_tv (bin_et (ev 12 rfl) nilL_et.ev q1).ev
  have hz : (is.isEmpty && !is'.isEmpty) = false := by
    cases hq : is' with
    | nil => simp
    | cons x xs =>
      have := (hsub x (by rw [hq]; exact List.mem_cons_self ..)).2
      cases hz : is with
      | nil => rw [hz] at this; cases this
      | cons _ _ => rfl
  rw [hz] at cC
  have c7 := (or_f cA).trans ((or_f cB).trans cC)
  have t7 := if_no (m9 := .p .none) (a := sRet (uC (.bool false))) c7
  obtain ⟨o13', l8⟩ := circ70 O S' a1 b1 c1 (some m4) (some (.p (.bool is.isEmpty))) o7 (some (.p r)) (some (.l (able.map iN))) (some (iN who)) (some (iN i)) (some (.p (.list (is'.map nI)))) rs' o13 hrs'
  have t8 : sForO 6 (.sl 13) m_law_right_k70_v2_b1 (e70 a1 b1 c1 L R n (giveP L s i) (some m4) (some (.p (.bool is.isEmpty))) (some (.l (rs'.map rM))) o7 (some (.p r)) (some (.l (able.map iN))) (some (iN who)) (some (iN i)) (some (.p (.list (is'.map nI)))) o13)
      = some (.nx (e70 a1 b1 c1 L R n (giveP L s i) (some m4) (some (.p (.bool is.isEmpty))) (some (.l (rs'.map rM))) o7 (some (.p r)) (some (.l (able.map iN))) (some (iN who)) (some (iN i)) (some (.p (.list (is'.map nI)))) o13')) := by
    have ha : allP (rs'.map rM) = some (rs'.map fun xs => PyData.list (xs.map nI)) := by
      have : rs'.map rM = (rs'.map fun xs => PyData.list (xs.map nI)).map M.p := by rw [List.map_map]; rfl
      rw [this, allP_map]
    unfold sForO
    show (allP (rs'.map rM)).bind _ = _
    rw [ha, Option.bind_some]
    show (forL (.sl 13) m_law_right_k70_v2_b1 (rs'.map fun xs => PyData.list (xs.map nI)) (e70 a1 b1 c1 L R n (giveP L s i) (some m4) (some (.p (.bool is.isEmpty))) none o7 (some (.p r)) (some (.l (able.map iN))) (some (iN who)) (some (iN i)) (some (.p (.list (is'.map nI)))) o13)).bind _ = _
    rw [l8, Option.bind_some]
    rfl
  have q9 : lift2 dEq (.p (.list (is'.map nI))) (.l []) = some (.p (.bool is'.isEmpty)) := by
    show (dEq (.list (is'.map nI)) (.list [])).map M.p = _
    rw [eq_nil hlt']
    rfl
  have t9 := tup2_s (i := 4) (j := 5) (e := e70 a1 b1 c1 L R n (giveP L s i) (some m4) (some (.p (.bool is.isEmpty))) (some (.l (rs'.map rM))) o7 (some (.p r)) (some (.l (able.map iN))) (some (iN who)) (some (iN i)) (some (.p (.list (is'.map nI)))) o13')
    (ekl_v (i := 12) rfl (ekl_t (bin_et (ev 12 rfl) nilL_et.ev q9) ekl_nil) rfl) (by simp) (by simp)
  have t10 := if_no (m9 := .p .none) (a := sRet (uC (.bool false))) (truB_tv (bin_et (F := lift2 dNe) (call_et (e := e70 a1 b1 c1 L R n (giveP L s i) (some (.p (.list (is'.map nI)))) (some (.p (.bool is'.isEmpty))) (some (.l (rs'.map rM))) o7 (some (.p r)) (some (.l (able.map iN))) (some (iN who)) (some (iN i)) (some (.p (.list (is'.map nI)))) o13') (ar2 (i := 1) (j := 2) rfl rfl) g3).ev (ev 5 rfl) (ne_bb _)).ev)
  refine ⟨a1, b1, c1, giveP L s i, is', rg', _, rs', some (.p r), some (.l (able.map iN)), some (iN who), some (iN i), some (.p (.list (is'.map nI))), o13', S', Y', .inr rfl, hrs', hl', rfl, ?_⟩
  unfold m_law_right_k70_v2_b2
  refine (seq_go t1).trans ?_
  refine (seq_go t2).trans ?_
  refine (seq_go t3).trans ?_
  refine (seq_go t4).trans ?_
  refine (seq_go t5).trans ?_
  refine (seq_go t6).trans ?_
  refine (seq_go t7).trans ?_
  refine (seq_go t8).trans ?_
  refine (seq_go t9).trans ?_
  exact t10
end
end Hc

namespace Hc
open PySem PySem.Spec PyProof.Rows L2 G
section
variable {n : Nat} {L : List (Nat × Nat)} {R : List (List Nat)} {s : List Nat}
def I70 (L : List (Nat × Nat)) (R : List (List Nat)) (n : Nat) (i : Nat) (e : G.Env) : Prop := ∃ (a b c : Int) (s is : List Nat) (rg : Nat → List Nat) (m4 : M) (rs : List (List Nat)) (o7 o8 o9 o10 o11 o12 o13 : Option M), Sd L s ∧ Rgs (nextsP L R (s.map some)) L.length is rg ∧ Nm is m4 ∧ Rs L.length rs ∧ rs.length ≤ i ∧ plO o10 = true ∧
  e = e70 a b c L R n s (some m4) (some (.p (.bool is.isEmpty))) (some (.l (rs.map rM))) o7 o8 o9 o10 o11 o12 o13
theorem loop70 (O : Ok n L R) (h0 : 0 < L.length) (ds : List PyData) (hd : ds.length ≤ 60) (e : G.Env) (h : I70 L R n 0 e) : ∃ e', forL (.sl 7) m_law_right_k70_v2_b2 ds e = some (.nx e') ∧ I70 L R n (0 + ds.length) e' :=
  for_inv (I70 L R n) ds 0 e h fun j d e hj _ hI => by
    obtain ⟨a, b, c, s, is, rg, m4, rs, o7, o8, o9, o10, o11, o12, o13, S, Y, hm, hrs, hl, ho, rfl⟩ := hI
    obtain ⟨a', b', c', s', is', rg', m4', rs', o8', o9', o10', o11', o12', o13', S', Y', hm', hrs', hl', ho', ht⟩ := turn70 O S h0 a b c Y hm hrs (by omega) (some (.p d)) o8 o9 o10 o11 o12 o13 ho
    refine ⟨_, _, by simp [asg], ht, a', b', c', s', is', rg', m4', rs', some (.p d), o8', o9', o10', o11', o12', o13', S', Y', hm', hrs', by omega, ho', rfl⟩
theorem right_ok_k70 : RightOk D_law_right_k70_v2 := by
  intro a b c
  obtain ⟨a1, b1, c1, n, L, R, O, _, hL, h1⟩ := field_ok 8 16 (by decide) (by decide) (by decide) a b c
  obtain ⟨a2, b2, c2, s, hlie, S⟩ := lies_ok O a1 b1 c1
  have hLl := O.ll
  have t1 : sAsg (.sl 1) (uCall D_law_field (uaCons (uVar 0) (uaCons (uC (.int 8)) (uaCons (uC (.int 16)) uaNil)))) [some (bx a b c), none, none, none, none, none, none, none, none, none, none, none, none, none, none]
      = some (.nx [some (bx a1 b1 c1), some (.p (wD true L R)), none, none, none, none, none, none, none, none, none, none, none, none, none]) := by
    have h1 : D_law_field [bx a b c, .p (.int 8), .p (.int 16)] = some (.p (wD true L R), [some (bx a1 b1 c1), some (.p (.int 8)), some (.p (.int 16))]) := h1
    simp [sAsg, uCall, uaCons, uaNil, uVar, uC, passL, passOp, h1, backL, stM_eq, G.take, asg]
  have t2 : sAsg (.tp [(.sl 2), (.sl 3)]) (uTup (uaCons (uCall D_law_lies (uaCons (uVar 0) (uaCons (uVar 1) uaNil))) (uaCons (uFun fLen (uaCons (uItem (uVar 1) (uC (.int 1))) uaNil)) uaNil))) [some (bx a1 b1 c1), some (.p (wD true L R)), none, none, none, none, none, none, none, none, none, none, none, none, none]
      = some (.nx (e70 a2 b2 c2 L R n s none none none none none none none none none none)) := by
    have i1 : itemM (.p (wD true L R)) 1 = some (.p (sq true (R.map fun r => sq true (r.map nI)))) := item_w1
    have hdw : isD (.p (wD true L R)) = false := rfl
    have hlen : lenM (.p (sq true (R.map fun r => sq true (r.map nI)))) = some n := by rw [lenM_sq, List.length_map, O.rl]
    unfold e70
    generalize sD s = sd at hlie ⊢
    generalize wD true L R = W at i1 hdw hlie ⊢
    generalize sq true (R.map fun r => sq true (r.map nI)) = RR at i1 hlen
    simp [sAsg, uTup, uFun, uaCons, uaNil, uItem, uVar, uC, rd, rdL, hdw, itemI, i1, giveM, fLen, hlen, uCall, passL, passOp, hlie, backL, stM_eq, takeL, G.take, mkT, allP, asg, asgL, tupE]
  obtain ⟨is, rg, Y, hrk⟩ := rings_ok O (sd_hd S)
  obtain ⟨g1, _, g3⟩ := hrk true _ (sd_rp _)
  have t3 := tup3_s (i := 4) (j := 5) (l := 6) (e := e70 a2 b2 c2 L R n s none none none none none none none none none none)
    (ekl_t (call_et (ar2 (i := 1) (j := 2) rfl rfl) g1) (ekl_t (call_et (ar2 (i := 1) (j := 2) rfl rfl) g3) (ekl_t nilL_et ekl_nil))) (by simp) (by simp) (by simp)
  have it := r1_ok (turns_u O 40 (by decide) (e70 a2 b2 c2 L R n s (some (.l (is.map iN))) (some (.p (.bool is.isEmpty))) (some (.l ([].map rM))) none none none none none none none) rfl) (rg_ok _ (by split <;> omega))
  have t4 : ∃ (a' b' c' : Int) (e : List (Option M)), forL (.sl 7) m_law_right_k70_v2_b2 (rgD 0 ((if L.isEmpty then 0 else 40 : Nat) : Int)) (e70 a2 b2 c2 L R n s (some (.l (is.map iN))) (some (.p (.bool is.isEmpty))) (some (.l ([].map rM))) none none none none none none none) = some (.nx (some (bx a' b' c') :: e)) := by
    by_cases hLe : L = []
    · subst hLe
      exact ⟨a2, b2, c2, _, rfl⟩
    · obtain ⟨e', h1, h2⟩ := loop70 O (List.length_pos_iff.mpr hLe) (rgD 0 ((if L.isEmpty then 0 else 40 : Nat) : Int)) (by rw [rgD_nI, List.length_map, List.length_range]; split <;> omega) _ ⟨a2, b2, c2, s, is, rg, _, [], none, none, none, none, none, none, none, S, Y, .inl rfl, (fun xs hx => absurd hx List.not_mem_nil), Nat.le_refl _, rfl, rfl⟩
      obtain ⟨a', b', c', _, _, _, _, _, _, _, _, _, _, _, _, _, _, _, _, _, _, rfl⟩ := h2
      exact ⟨a', b', c', _, h1⟩
  obtain ⟨a3, b3, c3, e3, t4⟩ := t4
  refine ⟨a3, b3, c3, fn_go (n := 15) (k := 1) (np := 1) (f := m_law_right_k70_v2) (ms := [bx a b c]) (Eq.refl 1) (r := .p (.bool true)) (e := some (bx a3 b3 c3) :: e3) ?_⟩
  show m_law_right_k70_v2 [some (bx a b c), none, none, none, none, none, none, none, none, none, none, none, none, none, none] = _
  unfold m_law_right_k70_v2
  refine (seq_go t1).trans ?_
  refine (seq_go t2).trans ?_
  refine (seq_go t3).trans ?_
  refine (seq_go ((for_go it).trans t4)).trans ?_
  exact ret_et c_et
theorem law_true_k70 : ∀ ns : List Int, ns.length ≤ 63 → ∃ outs, D_law_k70_v2 [.p (.list (ns.map .int))] = some (.p (.bool true), outs) := lawB_true (u := 3) (.inr rfl) right_ok_k70
end
end Hc

namespace Dk70
open PySem PySem.Spec PyProof.Rows L2 G Hc
def topS (i : Nat) : Stmt := PySem.Challenge.pw_leastdear_k70_whole_rings_are_left_alone.main.body.getD i (.Pass ⟨0, 0, 0, 0⟩)
abbrev s_is_number : Stmt := topS 3
abbrev n_is_number : List Str := ["thing"]
theorem c_is_number : FnScope n_is_number ["thing"] (defScope s_is_number) := ⟨rfl, rfl, rfl, by decide +kernel, rfl, by decide +kernel, by decide +kernel⟩
theorem l_is_number : ∀ ms r, D_is_number ms = some r → ms.length = 1 := fun _ _ h => fnOf_len h
abbrev s_other_of : Stmt := topS 4
abbrev n_other_of : List Str := ["world", "thing", "who", "one", "other"]
theorem c_other_of : FnScope n_other_of ["world", "thing", "who"] (defScope s_other_of) := ⟨rfl, rfl, rfl, by decide +kernel, rfl, by decide +kernel, by decide +kernel⟩
theorem l_other_of : ∀ ms r, D_other_of ms = some r → ms.length = 3 := fun _ _ h => fnOf_len h
abbrev s_had : Stmt := topS 6
abbrev n_had : List Str := ["world", "standing", "who", "thing"]
theorem c_had : FnScope n_had ["world", "standing", "who"] (defScope s_had) := ⟨rfl, rfl, rfl, by decide +kernel, rfl, by decide +kernel, by decide +kernel⟩
theorem l_had : ∀ ms r, D_had ms = some r → ms.length = 3 := fun _ _ h => fnOf_len h
abbrev s_next_of : Stmt := topS 7
abbrev n_next_of : List Str := ["world", "standing", "who", "some"]
theorem c_next_of : FnScope n_next_of ["world", "standing", "who"] (defScope s_next_of) := ⟨rfl, rfl, rfl, by decide +kernel, rfl, by decide +kernel, by decide +kernel⟩
theorem l_next_of : ∀ ms r, D_next_of ms = some r → ms.length = 3 := fun _ _ h => fnOf_len h
abbrev s_handed : Stmt := topS 8
abbrev n_handed : List Str := ["world", "standing", "thing", "who"]
theorem c_handed : FnScope n_handed ["world", "standing", "thing"] (defScope s_handed) := ⟨rfl, rfl, rfl, by decide +kernel, rfl, by decide +kernel, by decide +kernel⟩
theorem l_handed : ∀ ms r, D_handed ms = some r → ms.length = 3 := fun _ _ h => fnOf_len h
abbrev s_moved : Stmt := topS 9
abbrev n_moved : List Str := ["world", "standing", "who", "thing"]
theorem c_moved : FnScope n_moved ["world", "standing", "who"] (defScope s_moved) := ⟨rfl, rfl, rfl, by decide +kernel, rfl, by decide +kernel, by decide +kernel⟩
theorem l_moved : ∀ ms r, D_moved ms = some r → ms.length = 3 := fun _ _ h => fnOf_len h
abbrev s_nexts : Stmt := topS 11
abbrev n_nexts : List Str := ["world", "standing", "thing", "who", "order", "less"]
theorem c_nexts : FnScope n_nexts ["world", "standing", "thing"] (defScope s_nexts) := ⟨rfl, rfl, rfl, by decide +kernel, rfl, by decide +kernel, by decide +kernel⟩
theorem l_nexts : ∀ ms r, D_nexts ms = some r → ms.length = 3 := fun _ _ h => fnOf_len h
abbrev s_all_nexts : Stmt := topS 12
abbrev n_all_nexts : List Str := ["world", "standing", "thing"]
theorem c_all_nexts : FnScope n_all_nexts ["world", "standing"] (defScope s_all_nexts) := ⟨rfl, rfl, rfl, by decide +kernel, rfl, by decide +kernel, by decide +kernel⟩
theorem l_all_nexts : ∀ ms r, D_all_nexts ms = some r → ms.length = 2 := fun _ _ h => fnOf_len h
abbrev s_round_from : Stmt := topS 13
abbrev n_round_from : List Str := ["arrows", "thing", "ahead", "layer", "later", "here", "less", "found"]
theorem c_round_from : FnScope n_round_from ["arrows", "thing"] (defScope s_round_from) := ⟨rfl, rfl, rfl, by decide +kernel, rfl, by decide +kernel, by decide +kernel⟩
theorem l_round_from : ∀ ms r, D_round_from ms = some r → ms.length = 2 := fun _ _ h => fnOf_len h
abbrev s_all_rounds : Stmt := topS 14
abbrev n_all_rounds : List Str := ["world", "standing", "arrows", "found", "thing", "ring"]
theorem c_all_rounds : FnScope n_all_rounds ["world", "standing"] (defScope s_all_rounds) := ⟨rfl, rfl, rfl, by decide +kernel, rfl, by decide +kernel, by decide +kernel⟩
theorem l_all_rounds : ∀ ms r, D_all_rounds ms = some r → ms.length = 2 := fun _ _ h => fnOf_len h
abbrev s_ring_in : Stmt := topS 15
abbrev n_ring_in : List Str := ["world", "standing", "found", "least", "ring"]
theorem c_ring_in : FnScope n_ring_in ["world", "standing"] (defScope s_ring_in) := ⟨rfl, rfl, rfl, by decide +kernel, rfl, by decide +kernel, by decide +kernel⟩
theorem l_ring_in : ∀ ms r, D_ring_in ms = some r → ms.length = 2 := fun _ _ h => fnOf_len h
abbrev s_is_free : Stmt := topS 16
abbrev n_is_free : List Str := ["world", "standing"]
theorem c_is_free : FnScope n_is_free ["world", "standing"] (defScope s_is_free) := ⟨rfl, rfl, rfl, by decide +kernel, rfl, by decide +kernel, by decide +kernel⟩
theorem l_is_free : ∀ ms r, D_is_free ms = some r → ms.length = 2 := fun _ _ h => fnOf_len h
abbrev s_ringed : Stmt := topS 17
abbrev n_ringed : List Str := ["world", "standing", "ring"]
theorem c_ringed : FnScope n_ringed ["world", "standing"] (defScope s_ringed) := ⟨rfl, rfl, rfl, by decide +kernel, rfl, by decide +kernel, by decide +kernel⟩
theorem l_ringed : ∀ ms r, D_ringed ms = some r → ms.length = 2 := fun _ _ h => fnOf_len h
abbrev s_shows_ring : Stmt := topS 18
abbrev n_shows_ring : List Str := ["world", "standing", "thing", "one", "less"]
theorem c_shows_ring : FnScope n_shows_ring ["world", "standing", "thing"] (defScope s_shows_ring) := ⟨rfl, rfl, rfl, by decide +kernel, rfl, by decide +kernel, by decide +kernel⟩
theorem l_shows_ring : ∀ ms r, D_shows_ring ms = some r → ms.length = 3 := fun _ _ h => fnOf_len h
abbrev s_law_box : Stmt := topS 20
abbrev n_law_box : List Str := ["_law_cells_here", "_law_k", "_law_cell"]
theorem c_law_box : FnScope n_law_box ["_law_cells_here", "_law_k"] (defScope s_law_box) := ⟨rfl, rfl, rfl, by decide +kernel, rfl, by decide +kernel, by decide +kernel⟩
theorem l_law_box : ∀ ms r, D_law_box ms = some r → ms.length = 2 := fun _ _ h => fnOf_len h
abbrev s_law_take : Stmt := topS 21
abbrev n_law_take : List Str := ["_law_box_here", "_law_below", "_law_found", "_law_blend"]
theorem c_law_take : FnScope n_law_take ["_law_box_here", "_law_below"] (defScope s_law_take) := ⟨rfl, rfl, rfl, by decide +kernel, rfl, by decide +kernel, by decide +kernel⟩
theorem l_law_take : ∀ ms r, D_law_take ms = some r → ms.length = 2 := fun _ _ h => fnOf_len h
abbrev s_law_cells : Stmt := topS 22
abbrev n_law_cells : List Str := ["_law_script", "_law_utmost", "_law_cells_here", "_law_k", "_law_cell"]
theorem c_law_cells : FnScope n_law_cells ["_law_script", "_law_utmost"] (defScope s_law_cells) := ⟨rfl, rfl, rfl, by decide +kernel, rfl, by decide +kernel, by decide +kernel⟩
theorem l_law_cells : ∀ ms r, D_law_cells ms = some r → ms.length = 2 := fun _ _ h => fnOf_len h
abbrev s_law_of : Stmt := topS 23
abbrev n_law_of : List Str := ["_law_box_here", "_law_some"]
theorem c_law_of : FnScope n_law_of ["_law_box_here", "_law_some"] (defScope s_law_of) := ⟨rfl, rfl, rfl, by decide +kernel, rfl, by decide +kernel, by decide +kernel⟩
theorem l_law_of : ∀ ms r, D_law_of ms = some r → ms.length = 2 := fun _ _ h => fnOf_len h
abbrev s_law_strewn : Stmt := topS 24
abbrev n_law_strewn : List Str := ["_law_box_here", "_law_some", "_law_rest", "_law_found", "_law_turn"]
theorem c_law_strewn : FnScope n_law_strewn ["_law_box_here", "_law_some"] (defScope s_law_strewn) := ⟨rfl, rfl, rfl, by decide +kernel, rfl, by decide +kernel, by decide +kernel⟩
theorem l_law_strewn : ∀ ms r, D_law_strewn ms = some r → ms.length = 2 := fun _ _ h => fnOf_len h
abbrev s_law_field : Stmt := topS 25
abbrev n_law_field : List Str := ["_law_box_here", "_law_folk", "_law_most", "_law_size", "_law_pairs", "_law_its", "_law_some", "_law_lots", "_law_whole", "_law_way", "_law_ranks", "_law_person", "_law_own", "_law_mine", "_law_turn", "_law_item"]
theorem c_law_field : FnScope n_law_field ["_law_box_here", "_law_folk", "_law_most"] (defScope s_law_field) := ⟨rfl, rfl, rfl, by decide +kernel, rfl, by decide +kernel, by decide +kernel⟩
theorem l_law_field : ∀ ms r, D_law_field ms = some r → ms.length = 3 := fun _ _ h => fnOf_len h
abbrev s_law_lies : Stmt := topS 26
abbrev n_law_lies : List Str := ["_law_box_here", "_law_field_here", "_law_pair"]
theorem c_law_lies : FnScope n_law_lies ["_law_box_here", "_law_field_here"] (defScope s_law_lies) := ⟨rfl, rfl, rfl, by decide +kernel, rfl, by decide +kernel, by decide +kernel⟩
theorem l_law_lies : ∀ ms r, D_law_lies ms = some r → ms.length = 2 := fun _ _ h => fnOf_len h
abbrev s_law_lacker : Stmt := topS 27
abbrev n_law_lacker : List Str := ["_law_field_here", "_law_lies_here", "_law_item", "_law_person"]
theorem c_law_lacker : FnScope n_law_lacker ["_law_field_here", "_law_lies_here", "_law_item"] (defScope s_law_lacker) := ⟨rfl, rfl, rfl, by decide +kernel, rfl, by decide +kernel, by decide +kernel⟩
theorem l_law_lacker : ∀ ms r, D_law_lacker ms = some r → ms.length = 3 := fun _ _ h => fnOf_len h
abbrev s_law_has : Stmt := topS 28
abbrev n_law_has : List Str := ["_law_field_here", "_law_lies_here", "_law_person", "_law_item"]
theorem c_law_has : FnScope n_law_has ["_law_field_here", "_law_lies_here", "_law_person"] (defScope s_law_has) := ⟨rfl, rfl, rfl, by decide +kernel, rfl, by decide +kernel, by decide +kernel⟩
theorem l_law_has : ∀ ms r, D_had ms = some r → ms.length = 3 := fun _ _ h => fnOf_len h
abbrev s_law_after : Stmt := topS 29
abbrev n_law_after : List Str := ["_law_field_here", "_law_lies_here", "_law_item", "_law_person", "_law_ranks", "_law_its"]
theorem c_law_after : FnScope n_law_after ["_law_field_here", "_law_lies_here", "_law_item"] (defScope s_law_after) := ⟨rfl, rfl, rfl, by decide +kernel, rfl, by decide +kernel, by decide +kernel⟩
theorem l_law_after : ∀ ms r, D_law_after ms = some r → ms.length = 3 := fun _ _ h => fnOf_len h
abbrev s_law_is_ring : Stmt := topS 30
abbrev n_law_is_ring : List Str := ["_law_field_here", "_law_lies_here", "_law_matter", "_law_item", "_law_its"]
theorem c_law_is_ring : FnScope n_law_is_ring ["_law_field_here", "_law_lies_here", "_law_matter"] (defScope s_law_is_ring) := ⟨rfl, rfl, rfl, by decide +kernel, rfl, by decide +kernel, by decide +kernel⟩
theorem l_law_is_ring : ∀ ms r, D_law_is_ring ms = some r → ms.length = 3 := fun _ _ h => fnOf_len h
abbrev s_law_right : Stmt := topS 31
abbrev n_law_right : List Str := ["_law_box_here", "_law_field_here", "_law_lies_here", "_law_size", "_law_some", "_law_was_free", "_law_rings_so", "_law_turn", "_law_told", "_law_able", "_law_person", "_law_item", "_law_later", "_law_circle", "_law_its"]
theorem c_law_right : FnScope n_law_right ["_law_box_here"] (defScope s_law_right) := ⟨rfl, rfl, rfl, by decide +kernel, rfl, by decide +kernel, by decide +kernel⟩
theorem l_law_right : ∀ ms r, D_law_right_k70_v2 ms = some r → ms.length = 1 := fun _ _ h => fnOf_len h
abbrev s_law : Stmt := topS 32
abbrev n_law : List Str := ["_law_script", "_law_cells_here", "_law_k"]
theorem c_law : FnScope n_law ["_law_script"] (defScope s_law) := ⟨rfl, rfl, rfl, by decide +kernel, rfl, by decide +kernel, by decide +kernel⟩
theorem l_law : ∀ ms r, D_law_k70_v2 ms = some r → ms.length = 1 := fun _ _ h => fnOf_len h
structure Txt (K : PySem.W.Frag) (mg : Str → Option Value) (A : Nat → Addr) (Fd : Nat → FuncData) : Prop where
  F_is_number : Fun K "is_number" "is_number" s_is_number (A 0) (Fd 0)
  b_is_number : Binds K (Fd 0) ["thing"] []
  g_is_number : mg "is_number" = some (.ref (A 0))
  F_other_of : Fun K "other_of" "other_of" s_other_of (A 1) (Fd 1)
  b_other_of : Binds K (Fd 1) ["world", "thing", "who"] []
  g_other_of : mg "other_of" = some (.ref (A 1))
  F_had : Fun K "had" "had" s_had (A 2) (Fd 2)
  b_had : Binds K (Fd 2) ["world", "standing", "who"] []
  g_had : mg "had" = some (.ref (A 2))
  F_next_of : Fun K "next_of" "next_of" s_next_of (A 3) (Fd 3)
  b_next_of : Binds K (Fd 3) ["world", "standing", "who"] []
  g_next_of : mg "next_of" = some (.ref (A 3))
  F_handed : Fun K "handed" "handed" s_handed (A 4) (Fd 4)
  b_handed : Binds K (Fd 4) ["world", "standing", "thing"] []
  g_handed : mg "handed" = some (.ref (A 4))
  F_moved : Fun K "moved" "moved" s_moved (A 5) (Fd 5)
  b_moved : Binds K (Fd 5) ["world", "standing", "who"] []
  g_moved : mg "moved" = some (.ref (A 5))
  F_nexts : Fun K "nexts" "nexts" s_nexts (A 6) (Fd 6)
  b_nexts : Binds K (Fd 6) ["world", "standing", "thing"] []
  g_nexts : mg "nexts" = some (.ref (A 6))
  F_all_nexts : Fun K "all_nexts" "all_nexts" s_all_nexts (A 7) (Fd 7)
  b_all_nexts : Binds K (Fd 7) ["world", "standing"] []
  g_all_nexts : mg "all_nexts" = some (.ref (A 7))
  F_round_from : Fun K "round_from" "round_from" s_round_from (A 8) (Fd 8)
  b_round_from : Binds K (Fd 8) ["arrows", "thing"] []
  g_round_from : mg "round_from" = some (.ref (A 8))
  F_all_rounds : Fun K "all_rounds" "all_rounds" s_all_rounds (A 9) (Fd 9)
  b_all_rounds : Binds K (Fd 9) ["world", "standing"] []
  g_all_rounds : mg "all_rounds" = some (.ref (A 9))
  F_ring_in : Fun K "ring_in" "ring_in" s_ring_in (A 10) (Fd 10)
  b_ring_in : Binds K (Fd 10) ["world", "standing"] []
  g_ring_in : mg "ring_in" = some (.ref (A 10))
  F_is_free : Fun K "is_free" "is_free" s_is_free (A 11) (Fd 11)
  b_is_free : Binds K (Fd 11) ["world", "standing"] []
  g_is_free : mg "is_free" = some (.ref (A 11))
  F_ringed : Fun K "ringed" "ringed" s_ringed (A 12) (Fd 12)
  b_ringed : Binds K (Fd 12) ["world", "standing"] []
  g_ringed : mg "ringed" = some (.ref (A 12))
  F_shows_ring : Fun K "shows_ring" "shows_ring" s_shows_ring (A 13) (Fd 13)
  b_shows_ring : Binds K (Fd 13) ["world", "standing", "thing"] []
  g_shows_ring : mg "shows_ring" = some (.ref (A 13))
  F_law_box : Fun K "_law_box" "_law_box" s_law_box (A 14) (Fd 14)
  b_law_box : Binds K (Fd 14) ["_law_cells_here", "_law_k"] []
  g_law_box : mg "_law_box" = some (.ref (A 14))
  F_law_take : Fun K "_law_take" "_law_take" s_law_take (A 15) (Fd 15)
  b_law_take : Binds K (Fd 15) ["_law_box_here", "_law_below"] []
  g_law_take : mg "_law_take" = some (.ref (A 15))
  F_law_cells : Fun K "_law_cells" "_law_cells" s_law_cells (A 16) (Fd 16)
  b_law_cells : Binds K (Fd 16) ["_law_script", "_law_utmost"] []
  g_law_cells : mg "_law_cells" = some (.ref (A 16))
  F_law_of : Fun K "_law_of" "_law_of" s_law_of (A 17) (Fd 17)
  b_law_of : Binds K (Fd 17) ["_law_box_here", "_law_some"] []
  g_law_of : mg "_law_of" = some (.ref (A 17))
  F_law_strewn : Fun K "_law_strewn" "_law_strewn" s_law_strewn (A 18) (Fd 18)
  b_law_strewn : Binds K (Fd 18) ["_law_box_here", "_law_some"] []
  g_law_strewn : mg "_law_strewn" = some (.ref (A 18))
  F_law_field : Fun K "_law_field" "_law_field" s_law_field (A 19) (Fd 19)
  b_law_field : Binds K (Fd 19) ["_law_box_here", "_law_folk", "_law_most"] []
  g_law_field : mg "_law_field" = some (.ref (A 19))
  F_law_lies : Fun K "_law_lies" "_law_lies" s_law_lies (A 20) (Fd 20)
  b_law_lies : Binds K (Fd 20) ["_law_box_here", "_law_field_here"] []
  g_law_lies : mg "_law_lies" = some (.ref (A 20))
  F_law_lacker : Fun K "_law_lacker" "_law_lacker" s_law_lacker (A 21) (Fd 21)
  b_law_lacker : Binds K (Fd 21) ["_law_field_here", "_law_lies_here", "_law_item"] []
  g_law_lacker : mg "_law_lacker" = some (.ref (A 21))
  F_law_has : Fun K "_law_has" "_law_has" s_law_has (A 22) (Fd 22)
  b_law_has : Binds K (Fd 22) ["_law_field_here", "_law_lies_here", "_law_person"] []
  g_law_has : mg "_law_has" = some (.ref (A 22))
  F_law_after : Fun K "_law_after" "_law_after" s_law_after (A 23) (Fd 23)
  b_law_after : Binds K (Fd 23) ["_law_field_here", "_law_lies_here", "_law_item"] []
  g_law_after : mg "_law_after" = some (.ref (A 23))
  F_law_is_ring : Fun K "_law_is_ring" "_law_is_ring" s_law_is_ring (A 24) (Fd 24)
  b_law_is_ring : Binds K (Fd 24) ["_law_field_here", "_law_lies_here", "_law_matter"] []
  g_law_is_ring : mg "_law_is_ring" = some (.ref (A 24))
  F_law_right : Fun K "_law_right" "_law_right" s_law_right (A 25) (Fd 25)
  b_law_right : Binds K (Fd 25) ["_law_box_here"] []
  g_law_right : mg "_law_right" = some (.ref (A 25))
  F_law : Fun K "law" "law" s_law (A 26) (Fd 26)
  b_law : Binds K (Fd 26) ["_law_script"] []
  g_law : mg "law" = some (.ref (A 26))
  z_abs : mg "abs" = none
  z_all : mg "all" = none
  z_any : mg "any" = none
  z_bool : mg "bool" = none
  z_enumerate : mg "enumerate" = none
  z_int : mg "int" = none
  z_isinstance : mg "isinstance" = none
  z_len : mg "len" = none
  z_list : mg "list" = none
  z_min : mg "min" = none
  z_range : mg "range" = none
  z_set : mg "set" = none
  z_sorted : mg "sorted" = none
  z_tuple : mg "tuple" = none
  z_zip : mg "zip" = none
section
variable {P : Program} {w : World} {K : PySem.W.Frag} {mg : Str → Option Value} {base : Heap} {A : Nat → Addr} {Fd : Nat → FuncData}
theorem ok_is_number (T : Txt K mg A Fd) : FnG P w K mg base 1 (A 0) (Fd 0) ["thing"] (spG K 1 D_is_number) := by
  refine okG T.F_is_number c_is_number rfl rfl (by decide) fun cdv A' outer s H E hgd hr => ?_
  have nd := c_is_number.nd
  exact (gss_one (gs_ret (g_andV (g_isi1 .int T.z_isinstance T.z_int (g_v 0)) (g_one (g_notV (g_isi1 .bl T.z_isinstance T.z_bool (g_v 0)))))))
theorem ok_other_of (T : Txt K mg A Fd) : FnG P w K mg base 1 (A 1) (Fd 1) ["world", "thing", "who"] (spG K 3 D_other_of) := by
  refine okG T.F_other_of c_other_of rfl rfl (by decide) fun cdv A' outer s H E hgd hr => ?_
  have nd := c_other_of.nd
  exact (gss_cons (gs_asg (g_item (room1 hr) (g_item (room1 hr) (g_v 0) g_int) (g_v 1)) (gg_t rfl (ggs_cons (gg_n 3 nd) (ggs_cons (gg_n 4 nd) ggs_nil))))
    (gss_one (gs_ret (g_if (gt_eq (room64 hr) (g_v 2) (g_v 3)) (g_v 4) (g_v 3)))))
theorem ok_had (T : Txt K mg A Fd) : FnG P w K mg base 1 (A 2) (Fd 2) ["world", "standing", "who"] (spG K 3 D_had) := by
  refine okG T.F_had c_had rfl rfl (by decide) fun cdv A' outer s H E hgd hr => ?_
  have nd := c_had.nd
  exact (gss_one (gs_ret (g_lc [("thing", 3)] rfl nd (gi_seq (g_item (room1 hr) (g_item (room1 hr) (g_v 0) g_int) (g_v 2))) (blkOk_by (N := n_had) (sc := defScope s_had) (by decide +kernel)) (fun _ _ _ _ _ => (gg_n 3 nd)) (fun _ _ _ _ _ => (gts_one (gt_eq (room64 hr) (g_item (room1 hr) (g_v 1) (g_v 3)) (g_v 2)))) (fun _ _ _ _ _ => (g_v 3)))))
theorem ok_next_of (T : Txt K mg A Fd) : FnG P w K mg base 2 (A 3) (Fd 3) ["world", "standing", "who"] (spG K 3 D_next_of) := by
  refine okG T.F_next_of c_next_of rfl rfl (by decide) fun cdv A' outer s H E hgd hr => ?_
  have nd := c_next_of.nd
  exact (gss_cons (gs_set nd (g_call l_had (ok_had T) hgd (hr.mono (by omega)) T.g_had T.F_had.kp T.b_had (ga_cons (g_v 0) (ga_cons (g_v 1) (ga_cons (g_v 2) ga_nil)))))
    (gss_one (gs_ret (g_if (gt_gt (g_len T.z_len (ga_cons (g_v 3) ga_nil)) g_int) (g_item (room1 hr) (g_v 3) g_int) g_non))))
theorem ok_handed (T : Txt K mg A Fd) : FnG P w K mg base 2 (A 4) (Fd 4) ["world", "standing", "thing"] (spG K 3 D_handed) := by
  refine okG T.F_handed c_handed rfl rfl (by decide) fun cdv A' outer s H E hgd hr => ?_
  have nd := c_handed.nd
  exact (gss_cons (gs_set nd (g_call l_other_of (ok_other_of T) hgd (hr.mono (by omega)) T.g_other_of T.F_other_of.kp T.b_other_of (ga_cons (g_v 0) (ga_cons (g_v 2) (ga_cons (g_item (room1 hr) (g_v 1) (g_v 2)) ga_nil)))))
    (gss_one (gs_ret (g_add (g_add (g_tuple T.z_tuple (ga_cons (g_sl (g_v 1) go_none (go_some (g_v 2))) ga_nil)) (g_tup (ga_cons (g_v 3) ga_nil))) (g_tuple T.z_tuple (ga_cons (g_sl (g_v 1) (go_some (g_add (g_v 2) g_int)) go_none) ga_nil))))))
theorem ok_moved (T : Txt K mg A Fd) : FnG P w K mg base 3 (A 5) (Fd 5) ["world", "standing", "who"] (spG K 3 D_moved) := by
  refine okG T.F_moved c_moved rfl rfl (by decide) fun cdv A' outer s H E hgd hr => ?_
  have nd := c_moved.nd
  exact (gss_cons (gs_set nd (g_call l_next_of (ok_next_of T) hgd (hr.mono (by omega)) T.g_next_of T.F_next_of.kp T.b_next_of (ga_cons (g_v 0) (ga_cons (g_v 1) (ga_cons (g_v 2) ga_nil)))))
    (gss_cons (gs_if (gt_isA (g_v 3) g_non) (gss_one gs_never) gss_nil)
    (gss_one (gs_ret (g_call l_handed (ok_handed T) hgd (hr.mono (by omega)) T.g_handed T.F_handed.kp T.b_handed (ga_cons (g_v 0) (ga_cons (g_v 1) (ga_cons (g_v 3) ga_nil))))))))
theorem ok_nexts (T : Txt K mg A Fd) : FnG P w K mg base 2 (A 6) (Fd 6) ["world", "standing", "thing"] (spG K 3 D_nexts) := by
  refine okG T.F_nexts c_nexts rfl rfl (by decide) fun cdv A' outer s H E hgd hr => ?_
  have nd := c_nexts.nd
  exact (gss_cons (gs_if (gt_isA (g_item (room1 hr) (g_v 1) (g_v 2)) g_non) (gss_one (gs_ret (g_lst ga_nil))) gss_nil)
    (gss_cons (gs_set nd (g_call l_other_of (ok_other_of T) hgd (hr.mono (by omega)) T.g_other_of T.F_other_of.kp T.b_other_of (ga_cons (g_v 0) (ga_cons (g_v 2) (ga_cons (g_item (room1 hr) (g_v 1) (g_v 2)) ga_nil)))))
    (gss_cons (gs_set nd (g_list T.z_list (ga_cons (g_item (room1 hr) (g_item (room1 hr) (g_v 0) g_int) (g_v 3)) ga_nil)))
    (gss_one (gs_ret (g_lc [("less", 5)] rfl nd (gi_seq (g_sl (g_v 4) go_none (go_some (g_index (room65 hr) (g_v 4) (g_v 2))))) (blkOk_by (N := n_nexts) (sc := defScope s_nexts) (by decide +kernel)) (fun _ _ _ _ _ => (gg_n 5 nd)) (fun _ _ _ _ _ => (gts_one (gt_eq (room64 hr) (g_item (room1 hr) (g_v 1) (g_v 5)) (g_v 3)))) (fun _ _ _ _ _ => (g_v 5))))))))
theorem ok_all_nexts (T : Txt K mg A Fd) : FnG P w K mg base 3 (A 7) (Fd 7) ["world", "standing"] (spG K 2 D_all_nexts) := by
  refine okG T.F_all_nexts c_all_nexts rfl rfl (by decide) fun cdv A' outer s H E hgd hr => ?_
  have nd := c_all_nexts.nd
  exact (gss_one (gs_ret (g_dc [("thing", 2)] rfl nd (gi_r1 T.z_range (ga_cons (g_len T.z_len (ga_cons (g_item (room1 hr) (g_v 0) g_int) ga_nil)) ga_nil)) (blkOk_by (N := n_all_nexts) (sc := defScope s_all_nexts) (by decide +kernel)) (fun _ _ _ _ _ => (gg_n 2 nd)) (fun _ _ _ _ _ => gts_nil) (fun _ _ _ _ _ => (g_v 2)) (fun _ _ _ _ _ => (g_frz (g_call l_nexts (ok_nexts T) hgd (hr.mono (by omega)) T.g_nexts T.F_nexts.kp T.b_nexts (ga_cons (g_v 0) (ga_cons (g_v 1) (ga_cons (g_v 2) ga_nil)))))))))
theorem ok_round_from (T : Txt K mg A Fd) : FnG P w K mg base 1 (A 8) (Fd 8) ["arrows", "thing"] (spG K 2 D_round_from) := by
  refine okG T.F_round_from c_round_from rfl rfl (by decide) fun cdv A' outer s H E hgd hr => ?_
  have nd := c_round_from.nd
  exact (gss_cons (gs_par rfl nd (ga_cons g_dk (ga_cons (g_lst (ga_cons (g_v 1) ga_nil)) ga_nil)))
    (gss_cons (gs_while PassesOwn.never (gt_gt (g_len T.z_len (ga_cons (g_v 3) ga_nil)) g_int) (gss_cons (gs_set nd (g_lst ga_nil))
    (gss_cons (gs_for PassesOwn.never rfl (gi_seq (g_v 3)) (gg_n 5 nd) (gss_one (gs_for PassesOwn.never rfl (gi_seq (g_item (room1 hr) (g_v 0) (g_v 5))) (gg_n 6 nd) (gss_one (gs_if (gt_notin (room65 hr) (g_v 6) (g_v 2)) (gss_cons (gs_setI (room1 hr) (tv 2) (g_v 6) (g_v 5))
    (gss_one (gs_expr (g_app (tv 4) (g_v 6))))) gss_nil)))))
    (gss_one (gs_set nd (g_v 4))))))
    (gss_cons (gs_if (gt_notin (room65 hr) (g_v 1) (g_v 2)) (gss_one (gs_ret g_non)) gss_nil)
    (gss_cons (gs_par rfl nd (ga_cons (g_lst (ga_cons (g_v 1) ga_nil)) (ga_cons (g_item (room1 hr) (g_v 2) (g_v 1)) ga_nil)))
    (gss_cons (gs_while PassesOwn.never (gt_ne (room64 hr) (g_v 5) (g_v 1)) (gss_cons (gs_expr (g_app (tv 7) (g_v 5)))
    (gss_one (gs_set nd (g_item (room1 hr) (g_v 2) (g_v 5))))))
    (gss_one (gs_ret (g_add (g_lst (ga_cons (g_v 1) ga_nil)) (g_revT (g_v 7))))))))))
theorem ok_all_rounds (T : Txt K mg A Fd) : FnG P w K mg base 4 (A 9) (Fd 9) ["world", "standing"] (spG K 2 D_all_rounds) := by
  refine okG T.F_all_rounds c_all_rounds rfl rfl (by decide) fun cdv A' outer s H E hgd hr => ?_
  have nd := c_all_rounds.nd
  exact (gss_cons (gs_set nd (g_call l_all_nexts (ok_all_nexts T) hgd (hr.mono (by omega)) T.g_all_nexts T.F_all_nexts.kp T.b_all_nexts (ga_cons (g_v 0) (ga_cons (g_v 1) ga_nil))))
    (gss_cons (gs_setLc [("thing", 4)] rfl nd (sw_true rfl rfl rfl (by decide +kernel)) (gi_keys (tv 2)) (blkOk_by (N := n_all_rounds) (sc := defScope s_all_rounds) (by decide +kernel)) (fun _ _ _ _ _ => (gg_n 4 nd)) (fun _ _ _ _ _ => gts_nil) (fun _ _ _ _ _ => (g_call l_round_from (ok_round_from T) hgd (hr.mono (by omega)) T.g_round_from T.F_round_from.kp T.b_round_from (ga_cons (g_v 2) (ga_cons (g_v 4) ga_nil)))))
    (gss_one (gs_ret (g_lc [("ring", 5)] rfl nd (gi_seq (g_v 3)) (blkOk_by (N := n_all_rounds) (sc := defScope s_all_rounds) (by decide +kernel)) (fun _ _ _ _ _ => (gg_n 5 nd)) (fun _ _ _ _ _ => (gts_one (gt_isnotA (g_v 5) g_non))) (fun _ _ _ _ _ => (g_v 5)))))))
theorem ok_ring_in (T : Txt K mg A Fd) : FnG P w K mg base 5 (A 10) (Fd 10) ["world", "standing"] (spG K 2 D_ring_in) := by
  refine okG T.F_ring_in c_ring_in rfl rfl (by decide) fun cdv A' outer s H E hgd hr => ?_
  have nd := c_ring_in.nd
  exact (gss_cons (gs_set nd (g_call l_all_rounds (ok_all_rounds T) hgd (hr.mono (by omega)) T.g_all_rounds T.F_all_rounds.kp T.b_all_rounds (ga_cons (g_v 0) (ga_cons (g_v 1) ga_nil))))
    (gss_cons (gs_set nd (g_minD rfl (room1 hr) T.z_min (g_lc [("ring", 4)] rfl nd (gi_seq (g_v 2)) (blkOk_by (N := n_ring_in) (sc := defScope s_ring_in) (by decide +kernel)) (fun _ _ _ _ _ => (gg_n 4 nd)) (fun _ _ _ _ _ => gts_nil) (fun _ _ _ _ _ => (g_len T.z_len (ga_cons (g_v 4) ga_nil)))) g_int))
    (gss_one (gs_ret (g_if (gt_gt (g_v 3) g_int) (g_item (room1 hr) (g_lc [("ring", 4)] rfl nd (gi_seq (g_v 2)) (blkOk_by (N := n_ring_in) (sc := defScope s_ring_in) (by decide +kernel)) (fun _ _ _ _ _ => (gg_n 4 nd)) (fun _ _ _ _ _ => (gts_one (gt_eq (room64 hr) (g_len T.z_len (ga_cons (g_v 4) ga_nil)) (g_v 3)))) (fun _ _ _ _ _ => (g_v 4))) g_int) g_non)))))
theorem ok_is_free (T : Txt K mg A Fd) : FnG P w K mg base 6 (A 11) (Fd 11) ["world", "standing"] (spG K 2 D_is_free) := by
  refine okG T.F_is_free c_is_free rfl rfl (by decide) fun cdv A' outer s H E hgd hr => ?_
  have nd := c_is_free.nd
  exact (gss_one (gs_ret (g_isA (g_call l_ring_in (ok_ring_in T) hgd (hr.mono (by omega)) T.g_ring_in T.F_ring_in.kp T.b_ring_in (ga_cons (g_v 0) (ga_cons (g_v 1) ga_nil))) g_non)))
theorem ok_ringed (T : Txt K mg A Fd) : FnG P w K mg base 5 (A 12) (Fd 12) ["world", "standing"] (spG K 2 D_ringed) := by
  refine okG T.F_ringed c_ringed rfl rfl (by decide) fun cdv A' outer s H E hgd hr => ?_
  have nd := c_ringed.nd
  exact (gss_one (gs_ret (g_sorted T.z_sorted (ga_cons (g_lc [("ring", 2)] rfl nd (gi_seq (g_call l_all_rounds (ok_all_rounds T) hgd (hr.mono (by omega)) T.g_all_rounds T.F_all_rounds.kp T.b_all_rounds (ga_cons (g_v 0) (ga_cons (g_v 1) ga_nil)))) (blkOk_by (N := n_ringed) (sc := defScope s_ringed) (by decide +kernel)) (fun _ _ _ _ _ => (gg_n 2 nd)) (fun _ _ _ _ _ => gts_nil) (fun _ _ _ _ _ => (g_item (room1 hr) (g_v 2) g_int))) ga_nil))))
theorem ok_shows_ring (T : Txt K mg A Fd) : FnG P w K mg base 3 (A 13) (Fd 13) ["world", "standing", "thing"] (spG K 3 D_shows_ring) := by
  refine okG T.F_shows_ring c_shows_ring rfl rfl (by decide) fun cdv A' outer s H E hgd hr => ?_
  have nd := c_shows_ring.nd
  exact (gss_cons (gs_if (PW.pt (gw_or (gt_not (gt_val (g_isi1 .lst T.z_isinstance T.z_list (g_v 2)))) (gw_or (gt_lt (g_len T.z_len (ga_cons (g_v 2) ga_nil)) g_int) (gw_or1 (gt_not (gt_val (g_all rfl T.z_all (ga_cons (g_lc [("one", 3)] rfl nd (gi_seq (g_v 2)) (blkOk_by (N := n_shows_ring) (sc := defScope s_shows_ring) (by decide +kernel)) (fun _ _ _ _ _ => (gg_n 3 nd)) (fun _ _ _ _ _ => gts_nil) (fun _ _ _ _ _ => (g_call l_is_number (ok_is_number T) hgd (hr.mono (by omega)) T.g_is_number T.F_is_number.kp T.b_is_number (ga_cons (g_v 3) ga_nil)))) ga_nil)))))))) (gss_one (gs_ret g_bl)) gss_nil)
    (gss_cons (gs_if (PW.pt (gw_or (gt_not (gt_val (g_all rfl T.z_all (ga_cons (g_lc [("one", 3)] rfl nd (gi_seq (g_v 2)) (blkOk_by (N := n_shows_ring) (sc := defScope s_shows_ring) (by decide +kernel)) (fun _ _ _ _ _ => (gg_n 3 nd)) (fun _ _ _ _ _ => gts_nil) (fun _ _ _ _ _ => (g_chain s_B0 op_le s_B0 op_lt g_int (g_v 3) (g_len T.z_len (ga_cons (g_item (room1 hr) (g_v 0) g_int) ga_nil))))) ga_nil)))) (gw_or1 (gt_ne (room64 hr) (g_lenSet rfl T.z_len T.z_set (g_v 2)) (g_len T.z_len (ga_cons (g_v 2) ga_nil)))))) (gss_one (gs_ret g_bl)) gss_nil)
    (gss_one (gs_ret (g_all rfl T.z_all (ga_cons (g_lc [("one", 3), ("less", 4)] rfl nd (gi_zip T.z_zip (ga_cons (g_v 2) (ga_cons (g_add (g_sl (g_v 2) (go_some g_int) go_none) (g_sl (g_v 2) go_none (go_some g_int))) ga_nil))) (blkOk_by (N := n_shows_ring) (sc := defScope s_shows_ring) (by decide +kernel)) (fun _ _ _ _ _ => (gg_t rfl (ggs_cons (gg_n 3 nd) (ggs_cons (gg_n 4 nd) ggs_nil)))) (fun _ _ _ _ _ => gts_nil) (fun _ _ _ _ _ => (g_in (room65 hr) (g_v 4) (g_frz (g_call l_nexts (ok_nexts T) hgd (hr.mono (by omega)) T.g_nexts T.F_nexts.kp T.b_nexts (ga_cons (g_v 0) (ga_cons (g_v 1) (ga_cons (g_v 3) ga_nil)))))))) ga_nil))))))
theorem ok_law_box (T : Txt K mg A Fd) : FnG P w K mg base 1 (A 14) (Fd 14) ["_law_cells_here", "_law_k"] (spG K 2 D_law_box) := by
  refine okG T.F_law_box c_law_box rfl rfl (by decide) fun cdv A' outer s H E hgd hr => ?_
  have nd := c_law_box.nd
  exact (gss_cons (gs_set nd (g_item (room1 hr) (g_v 0) (g_v 1)))
    (gss_one (gs_ret (g_lst (ga_cons (g_mul (g_abs T.z_abs (ga_cons (g_v 2) ga_nil)) (g_intf T.z_int (ga_cons (g_ge (g_abs T.z_abs (ga_cons (g_v 2) ga_nil)) (g_pow g_int g_int)) ga_nil))) (ga_cons (g_add (g_add (g_mod (g_v 2) g_int) (g_mul g_int (g_v 1))) g_int) (ga_cons g_int ga_nil)))))))
theorem ok_law_take (T : Txt K mg A Fd) : FnG P w K mg base 1 (A 15) (Fd 15) ["_law_box_here", "_law_below"] (spG K 2 D_law_take) := by
  refine okG T.F_law_take c_law_take rfl rfl (by decide) fun cdv A' outer s H E hgd hr => ?_
  have nd := c_law_take.nd
  exact (gss_cons (gs_if (gt_gt (g_item (room1 hr) (g_v 0) g_int) g_int) (gss_cons (gs_set nd (g_mod (g_item (room1 hr) (g_v 0) g_int) (g_v 1)))
    (gss_cons (gs_setI (room1 hr) (tv 0) g_int (g_div (g_item (room1 hr) (g_v 0) g_int) (g_v 1)))
    (gss_one (gs_ret (g_v 2))))) gss_nil)
    (gss_cons (gs_setI (room1 hr) (tv 0) g_int (g_add (g_item (room1 hr) (g_v 0) g_int) g_int))
    (gss_cons (gs_set nd (g_mod (g_add (g_item (room1 hr) (g_v 0) g_int) (g_mul g_int (g_item (room1 hr) (g_v 0) g_int))) g_int))
    (gss_cons (gs_set nd (g_mod (g_add (g_add (g_mul (g_v 3) (g_v 3)) (g_mul g_int (g_item (room1 hr) (g_v 0) g_int))) g_int) g_int))
    (gss_cons (gs_set nd (g_mod (g_add (g_mul (g_v 3) (g_add (g_div (g_v 3) g_int) g_int)) (g_item (room1 hr) (g_v 0) g_int)) g_int))
    (gss_one (gs_ret (g_mod (g_div (g_v 3) g_int) (g_v 1)))))))))
theorem ok_law_cells (T : Txt K mg A Fd) : FnG P w K mg base 1 (A 16) (Fd 16) ["_law_script", "_law_utmost"] (spG K 2 D_law_cells) := by
  refine okG T.F_law_cells c_law_cells rfl rfl (by decide) fun cdv A' outer s H E hgd hr => ?_
  have nd := c_law_cells.nd
  exact (gss_cons (gs_set nd (g_orV (g_list T.z_list (ga_cons (g_sl (g_v 0) go_none (go_some (g_v 1))) ga_nil)) (g_one (g_lst (ga_cons g_int ga_nil)))))
    (gss_cons (gs_for PassesOwn.never rfl (gi_enumL T.z_enumerate (ga_cons (g_sl (g_v 0) (go_some (g_v 1)) (go_some g_int)) ga_nil)) (gg_t rfl (ggs_cons (gg_n 3 nd) (ggs_cons (gg_n 4 nd) ggs_nil))) (gss_one (gs_setI (room1 hr) (tv 2) (g_mod (g_v 3) (g_v 1)) (g_add (g_item (room1 hr) (g_v 2) (g_mod (g_v 3) (g_v 1))) (g_mul (g_v 4) (g_add (g_v 3) g_int))))))
    (gss_one (gs_ret (g_v 2)))))
theorem ok_law_of (T : Txt K mg A Fd) : FnG P w K mg base 2 (A 17) (Fd 17) ["_law_box_here", "_law_some"] (spG K 2 D_law_of) := by
  refine okG T.F_law_of c_law_of rfl rfl (by decide) fun cdv A' outer s H E hgd hr => ?_
  have nd := c_law_of.nd
  exact (gss_one (gs_ret (g_item (room1 hr) (g_v 1) (g_call l_law_take (ok_law_take T) hgd (hr.mono (by omega)) T.g_law_take T.F_law_take.kp T.b_law_take (ga_cons (g_v 0) (ga_cons (g_len T.z_len (ga_cons (g_v 1) ga_nil)) ga_nil))))))
theorem ok_law_strewn (T : Txt K mg A Fd) : FnG P w K mg base 2 (A 18) (Fd 18) ["_law_box_here", "_law_some"] (spG K 2 D_law_strewn) := by
  refine okG T.F_law_strewn c_law_strewn rfl rfl (by decide) fun cdv A' outer s H E hgd hr => ?_
  have nd := c_law_strewn.nd
  exact (gss_cons (gs_par rfl nd (ga_cons (g_list T.z_list (ga_cons (g_v 1) ga_nil)) (ga_cons (g_lst ga_nil) ga_nil)))
    (gss_cons (gs_for PassesOwn.never rfl (gi_r1 T.z_range (ga_cons (g_len T.z_len (ga_cons (g_v 2) ga_nil)) ga_nil)) (gg_n 4 nd) (gss_one (gs_expr (g_app (tv 3) (g_popAt (tv 2) (g_call l_law_take (ok_law_take T) hgd (hr.mono (by omega)) T.g_law_take T.F_law_take.kp T.b_law_take (ga_cons (g_v 0) (ga_cons (g_len T.z_len (ga_cons (g_v 2) ga_nil)) ga_nil))))))))
    (gss_one (gs_ret (g_v 3)))))
theorem ok_law_field (T : Txt K mg A Fd) : FnG P w K mg base 3 (A 19) (Fd 19) ["_law_box_here", "_law_folk", "_law_most"] (spG K 3 D_law_field) := by
  refine okG T.F_law_field c_law_field rfl rfl (by decide) fun cdv A' outer s H E hgd hr => ?_
  have nd := c_law_field.nd
  exact (gss_cons (gs_par rfl nd (ga_cons (g_add g_int (g_call l_law_take (ok_law_take T) hgd (hr.mono (by omega)) T.g_law_take T.F_law_take.kp T.b_law_take (ga_cons (g_v 0) (ga_cons (g_v 1) ga_nil)))) (ga_cons (g_lst ga_nil) ga_nil)))
    (gss_cons (gs_for PassesOwn.never rfl (gi_r1 T.z_range (ga_cons (g_v 3) ga_nil)) (gg_n 5 nd) (gss_one (gs_set nd (g_add (g_v 4) (g_lc [("_law_mine", 13)] rfl nd (gi_r1 T.z_range (ga_cons (g_v 5) ga_nil)) (blkOk_by (N := n_law_field) (sc := defScope s_law_field) (by decide +kernel)) (fun _ _ _ _ _ => (gg_n 13 nd)) (fun _ _ _ _ _ => gts_nil) (fun _ _ _ _ _ => (g_tup (ga_cons (g_v 13) (ga_cons (g_v 5) ga_nil)))))))))
    (gss_cons (gs_set nd (g_sl (g_call l_law_strewn (ok_law_strewn T) hgd (hr.mono (by omega)) T.g_law_strewn T.F_law_strewn.kp T.b_law_strewn (ga_cons (g_v 0) (ga_cons (g_v 4) ga_nil))) go_none (go_some (g_add g_int (g_call l_law_take (ok_law_take T) hgd (hr.mono (by omega)) T.g_law_take T.F_law_take.kp T.b_law_take (ga_cons (g_v 0) (ga_cons (g_add (g_len T.z_len (ga_cons (g_v 4) ga_nil)) g_int) ga_nil)))))))
    (gss_cons (gs_set nd (g_lc [("_law_turn", 14)] rfl nd (gi_r1 T.z_range (ga_cons (g_mul (g_call l_law_take (ok_law_take T) hgd (hr.mono (by omega)) T.g_law_take T.F_law_take.kp T.b_law_take (ga_cons (g_v 0) (ga_cons (g_add (g_v 2) g_int) ga_nil))) (g_intf T.z_int (ga_cons (g_ne (room64 hr) (g_v 6) (g_lst ga_nil)) ga_nil))) ga_nil)) (blkOk_by (N := n_law_field) (sc := defScope s_law_field) (by decide +kernel)) (fun _ _ _ _ _ => (gg_n 14 nd)) (fun _ _ _ _ _ => gts_nil) (fun _ _ _ _ _ => (g_call l_law_of (ok_law_of T) hgd (hr.mono (by omega)) T.g_law_of T.F_law_of.kp T.b_law_of (ga_cons (g_v 0) (ga_cons (g_v 6) ga_nil))))))
    (gss_cons (gs_par3 rfl nd (ga_cons (g_call l_law_strewn (ok_law_strewn T) hgd (hr.mono (by omega)) T.g_law_strewn T.F_law_strewn.kp T.b_law_strewn (ga_cons (g_v 0) (ga_cons (g_lr rfl T.z_list (gr_1 T.z_range (g_len T.z_len (ga_cons (g_v 7) ga_nil)))) ga_nil))) (ga_cons (g_call l_law_take (ok_law_take T) hgd (hr.mono (by omega)) T.g_law_take T.F_law_take.kp T.b_law_take (ga_cons (g_v 0) (ga_cons g_int ga_nil))) (ga_cons (g_lst ga_nil) ga_nil))))
    (gss_cons (gs_for PassesOwn.never rfl (gi_r1 T.z_range (ga_cons (g_v 3) ga_nil)) (gg_n 11 nd) (gss_cons (gs_setLc [("_law_item", 15)] rfl nd (sw_true rfl rfl rfl (by decide +kernel)) (gi_seq (g_v 8)) (blkOk_by (N := n_law_field) (sc := defScope s_law_field) (by decide +kernel)) (fun _ _ _ _ _ => (gg_n 15 nd)) (fun _ _ _ _ _ => (gts_one (gt_in (room65 hr) (g_v 11) (g_item (room1 hr) (g_v 7) (g_v 15))))) (fun _ _ _ _ _ => (g_v 15)))
    (gss_cons (gs_set nd (g_if (PW.pt (gw_and (gt_eq (room64 hr) (g_v 9) g_int) (gw_and1 (gt_eq (room64 hr) (g_mod (g_v 11) g_int) g_int)))) (g_rev (g_v 12)) (g_if (gt_gt (g_v 9) g_int) (g_call l_law_strewn (ok_law_strewn T) hgd (hr.mono (by omega)) T.g_law_strewn T.F_law_strewn.kp T.b_law_strewn (ga_cons (g_v 0) (ga_cons (g_v 12) ga_nil))) (g_v 12))))
    (gss_one (gs_expr (g_app (tv 10) (g_tuple T.z_tuple (ga_cons (g_v 12) ga_nil))))))))
    (gss_one (gs_ret (g_tup (ga_cons (g_tuple T.z_tuple (ga_cons (g_v 7) ga_nil)) (ga_cons (g_tuple T.z_tuple (ga_cons (g_v 10) ga_nil)) ga_nil)))))))))))
theorem ok_law_lies (T : Txt K mg A Fd) : FnG P w K mg base 2 (A 20) (Fd 20) ["_law_box_here", "_law_field_here"] (spG K 2 D_law_lies) := by
  refine okG T.F_law_lies c_law_lies rfl rfl (by decide) fun cdv A' outer s H E hgd hr => ?_
  have nd := c_law_lies.nd
  exact (gss_one (gs_ret (g_tuple T.z_tuple (ga_cons (g_lc [("_law_pair", 2)] rfl nd (gi_seq (g_item (room1 hr) (g_v 1) g_int)) (blkOk_by (N := n_law_lies) (sc := defScope s_law_lies) (by decide +kernel)) (fun _ _ _ _ _ => (gg_n 2 nd)) (fun _ _ _ _ _ => gts_nil) (fun _ _ _ _ _ => (g_item (room1 hr) (g_v 2) (g_call l_law_take (ok_law_take T) hgd (hr.mono (by omega)) T.g_law_take T.F_law_take.kp T.b_law_take (ga_cons (g_v 0) (ga_cons g_int ga_nil)))))) ga_nil))))
theorem ok_law_lacker (T : Txt K mg A Fd) : FnG P w K mg base 1 (A 21) (Fd 21) ["_law_field_here", "_law_lies_here", "_law_item"] (spG K 3 D_law_lacker) := by
  refine okG T.F_law_lacker c_law_lacker rfl rfl (by decide) fun cdv A' outer s H E hgd hr => ?_
  have nd := c_law_lacker.nd
  exact (gss_one (gs_ret (g_item (room1 hr) (g_lc [("_law_person", 3)] rfl nd (gi_seq (g_item (room1 hr) (g_item (room1 hr) (g_v 0) g_int) (g_v 2))) (blkOk_by (N := n_law_lacker) (sc := defScope s_law_lacker) (by decide +kernel)) (fun _ _ _ _ _ => (gg_n 3 nd)) (fun _ _ _ _ _ => (gts_one (gt_ne (room64 hr) (g_v 3) (g_item (room1 hr) (g_v 1) (g_v 2))))) (fun _ _ _ _ _ => (g_v 3))) g_int)))
theorem ok_law_has (T : Txt K mg A Fd) : FnG P w K mg base 1 (A 22) (Fd 22) ["_law_field_here", "_law_lies_here", "_law_person"] (spG K 3 D_had) := by
  refine okG T.F_law_has c_law_has rfl rfl (by decide) fun cdv A' outer s H E hgd hr => ?_
  have nd := c_law_has.nd
  exact (gss_one (gs_ret (g_lc [("_law_item", 3)] rfl nd (gi_seq (g_item (room1 hr) (g_item (room1 hr) (g_v 0) g_int) (g_v 2))) (blkOk_by (N := n_law_has) (sc := defScope s_law_has) (by decide +kernel)) (fun _ _ _ _ _ => (gg_n 3 nd)) (fun _ _ _ _ _ => (gts_one (gt_eq (room64 hr) (g_item (room1 hr) (g_v 1) (g_v 3)) (g_v 2)))) (fun _ _ _ _ _ => (g_v 3)))))
theorem ok_law_after (T : Txt K mg A Fd) : FnG P w K mg base 2 (A 23) (Fd 23) ["_law_field_here", "_law_lies_here", "_law_item"] (spG K 3 D_law_after) := by
  refine okG T.F_law_after c_law_after rfl rfl (by decide) fun cdv A' outer s H E hgd hr => ?_
  have nd := c_law_after.nd
  exact (gss_cons (gs_if (gt_isA (g_item (room1 hr) (g_v 1) (g_v 2)) g_non) (gss_one (gs_ret (g_lst ga_nil))) gss_nil)
    (gss_cons (gs_set nd (g_call l_law_lacker (ok_law_lacker T) hgd (hr.mono (by omega)) T.g_law_lacker T.F_law_lacker.kp T.b_law_lacker (ga_cons (g_v 0) (ga_cons (g_v 1) (ga_cons (g_v 2) ga_nil)))))
    (gss_cons (gs_set nd (g_list T.z_list (ga_cons (g_item (room1 hr) (g_item (room1 hr) (g_v 0) g_int) (g_v 3)) ga_nil)))
    (gss_one (gs_ret (g_lc [("_law_its", 5)] rfl nd (gi_seq (g_sl (g_v 4) go_none (go_some (g_index (room65 hr) (g_v 4) (g_v 2))))) (blkOk_by (N := n_law_after) (sc := defScope s_law_after) (by decide +kernel)) (fun _ _ _ _ _ => (gg_n 5 nd)) (fun _ _ _ _ _ => (gts_one (gt_eq (room64 hr) (g_item (room1 hr) (g_v 1) (g_v 5)) (g_v 3)))) (fun _ _ _ _ _ => (g_v 5))))))))
theorem ok_law_is_ring (T : Txt K mg A Fd) : FnG P w K mg base 3 (A 24) (Fd 24) ["_law_field_here", "_law_lies_here", "_law_matter"] (spG K 3 D_law_is_ring) := by
  refine okG T.F_law_is_ring c_law_is_ring rfl rfl (by decide) fun cdv A' outer s H E hgd hr => ?_
  have nd := c_law_is_ring.nd
  exact (gss_cons (gs_if (PW.pt (gw_or (gt_lt (g_len T.z_len (ga_cons (g_v 2) ga_nil)) g_int) (gw_or1 (gt_ne (room64 hr) (g_lenSet rfl T.z_len T.z_set (g_v 2)) (g_len T.z_len (ga_cons (g_v 2) ga_nil)))))) (gss_one (gs_ret g_bl)) gss_nil)
    (gss_one (gs_ret (g_all rfl T.z_all (ga_cons (g_lc [("_law_item", 3), ("_law_its", 4)] rfl nd (gi_zip T.z_zip (ga_cons (g_v 2) (ga_cons (g_add (g_sl (g_v 2) (go_some g_int) go_none) (g_sl (g_v 2) go_none (go_some g_int))) ga_nil))) (blkOk_by (N := n_law_is_ring) (sc := defScope s_law_is_ring) (by decide +kernel)) (fun _ _ _ _ _ => (gg_t rfl (ggs_cons (gg_n 3 nd) (ggs_cons (gg_n 4 nd) ggs_nil)))) (fun _ _ _ _ _ => gts_nil) (fun _ _ _ _ _ => (g_in (room65 hr) (g_v 4) (g_frz (g_call l_law_after (ok_law_after T) hgd (hr.mono (by omega)) T.g_law_after T.F_law_after.kp T.b_law_after (ga_cons (g_v 0) (ga_cons (g_v 1) (ga_cons (g_v 3) ga_nil)))))))) ga_nil)))))
theorem ok_law_right (T : Txt K mg A Fd) : FnG P w K mg base 7 (A 25) (Fd 25) ["_law_box_here"] (spG K 1 D_law_right_k70_v2) := by
  refine okG T.F_law_right c_law_right rfl rfl (by decide) fun cdv A' outer s H E hgd hr => ?_
  have nd := c_law_right.nd
  exact (gss_cons (gs_set nd (g_call l_law_field (ok_law_field T) hgd (hr.mono (by omega)) T.g_law_field T.F_law_field.kp T.b_law_field (ga_cons (g_v 0) (ga_cons g_int (ga_cons g_int ga_nil)))))
    (gss_cons (gs_asg (g_tup (ga_cons (g_call l_law_lies (ok_law_lies T) hgd (hr.mono (by omega)) T.g_law_lies T.F_law_lies.kp T.b_law_lies (ga_cons (g_v 0) (ga_cons (g_v 1) ga_nil))) (ga_cons (g_len T.z_len (ga_cons (g_item (room1 hr) (g_v 1) g_int) ga_nil)) ga_nil))) (gg_t rfl (ggs_cons (gg_n 2 nd) (ggs_cons (gg_n 3 nd) ggs_nil))))
    (gss_cons (gs_asg (g_tup (ga_cons (g_call l_ringed (ok_ringed T) hgd (hr.mono (by omega)) T.g_ringed T.F_ringed.kp T.b_ringed (ga_cons (g_v 1) (ga_cons (g_v 2) ga_nil))) (ga_cons (g_call l_is_free (ok_is_free T) hgd (hr.mono (by omega)) T.g_is_free T.F_is_free.kp T.b_is_free (ga_cons (g_v 1) (ga_cons (g_v 2) ga_nil))) (ga_cons (g_lst ga_nil) ga_nil)))) (gg_t rfl (ggs_cons (gg_n 4 nd) (ggs_cons (gg_n 5 nd) (ggs_cons (gg_n 6 nd) ggs_nil)))))
    (gss_cons (gs_for PassesOwn.never rfl (gi_r1 T.z_range (ga_cons (g_mul g_int (g_intf T.z_int (ga_cons (g_ne (room64 hr) (g_item (room1 hr) (g_v 1) g_int) (g_tup ga_nil)) ga_nil))) ga_nil)) (gg_n 7 nd) (gss_cons (gs_set nd (g_call l_ring_in (ok_ring_in T) hgd (hr.mono (by omega)) T.g_ring_in T.F_ring_in.kp T.b_ring_in (ga_cons (g_v 1) (ga_cons (g_v 2) ga_nil))))
    (gss_cons (gs_if (PW.pt (gw_and (gt_isnotA (g_v 8) g_non) (gw_and1 (gt_notin (room65 hr) (g_v 8) (g_v 6))))) (gss_one (gs_expr (g_app (tv 6) (g_v 8)))) gss_nil)
    (gss_cons (gs_setLc [("_law_person", 10)] rfl nd (sw_true rfl rfl rfl (by decide +kernel)) (gi_r1 T.z_range (ga_cons (g_v 3) ga_nil)) (blkOk_by (N := n_law_right) (sc := defScope s_law_right) (by decide +kernel)) (fun _ _ _ _ _ => (gg_n 10 nd)) (fun _ _ _ _ _ => (gts_one (gt_ne (room64 hr) (g_call l_law_has (ok_law_has T) hgd (hr.mono (by omega)) T.g_law_has T.F_law_has.kp T.b_law_has (ga_cons (g_v 1) (ga_cons (g_v 2) (ga_cons (g_v 10) ga_nil)))) (g_lst ga_nil)))) (fun _ _ _ _ _ => (g_v 10)))
    (gss_cons (gs_set nd (g_call l_law_of (ok_law_of T) hgd (hr.mono (by omega)) T.g_law_of T.F_law_of.kp T.b_law_of (ga_cons (g_v 0) (ga_cons (g_v 9) ga_nil))))
    (gss_cons (gs_asg (g_tup (ga_cons (g_call l_next_of (ok_next_of T) hgd (hr.mono (by omega)) T.g_next_of T.F_next_of.kp T.b_next_of (ga_cons (g_v 1) (ga_cons (g_v 2) (ga_cons (g_v 10) ga_nil)))) (ga_cons (g_call l_moved (ok_moved T) hgd (hr.mono (by omega)) T.g_moved T.F_moved.kp T.b_moved (ga_cons (g_v 1) (ga_cons (g_v 2) (ga_cons (g_v 10) ga_nil)))) ga_nil))) (gg_t rfl (ggs_cons (gg_n 11 nd) (ggs_cons (gg_n 2 nd) ggs_nil))))
    (gss_cons (gs_set nd (g_call l_ringed (ok_ringed T) hgd (hr.mono (by omega)) T.g_ringed T.F_ringed.kp T.b_ringed (ga_cons (g_v 1) (ga_cons (g_v 2) ga_nil))))
    (gss_cons (gs_if (PW.pt (gw_or (gt_in (room65 hr) (g_v 11) (g_v 12)) (gw_or (gt_val (g_any rfl T.z_any (ga_cons (g_lc [("_law_its", 14)] rfl nd (gi_seq (g_v 12)) (blkOk_by (N := n_law_right) (sc := defScope s_law_right) (by decide +kernel)) (fun _ _ _ _ _ => (gg_n 14 nd)) (fun _ _ _ _ _ => gts_nil) (fun _ _ _ _ _ => (g_notin (room65 hr) (g_v 14) (g_v 4)))) ga_nil))) (gw_or1 (PW.pt (gw_and (gt_val (g_v 5)) (gw_and1 (gt_ne (room64 hr) (g_v 12) (g_lst ga_nil))))))))) (gss_one (gs_ret g_bl)) gss_nil)
    (gss_cons (gs_forO 7 6 PassesOwn.never rfl (tv 6) (gg_n 13 nd) (gss_one (gs_if (gt_ne (room64 hr) (g_call l_shows_ring (ok_shows_ring T) hgd (hr.mono (by omega)) T.g_shows_ring T.F_shows_ring.kp T.b_shows_ring (ga_cons (g_v 1) (ga_cons (g_v 2) (ga_cons (g_v 13) ga_nil)))) (g_call l_law_is_ring (ok_law_is_ring T) hgd (hr.mono (by omega)) T.g_law_is_ring T.F_law_is_ring.kp T.b_law_is_ring (ga_cons (g_v 1) (ga_cons (g_v 2) (ga_cons (g_v 13) ga_nil))))) (gss_one (gs_ret g_bl)) gss_nil)))
    (gss_cons (gs_asg (g_tup (ga_cons (g_v 12) (ga_cons (g_eq (room64 hr) (g_v 12) (g_lst ga_nil)) ga_nil))) (gg_t rfl (ggs_cons (gg_n 4 nd) (ggs_cons (gg_n 5 nd) ggs_nil))))
    (gss_one (gs_if (gt_ne (room64 hr) (g_call l_is_free (ok_is_free T) hgd (hr.mono (by omega)) T.g_is_free T.F_is_free.kp T.b_is_free (ga_cons (g_v 1) (ga_cons (g_v 2) ga_nil))) (g_v 5)) (gss_one (gs_ret g_bl)) gss_nil))))))))))))
    (gss_one (gs_ret g_bl))))))
theorem ok_law (T : Txt K mg A Fd) : FnG P w K mg base 8 (A 26) (Fd 26) ["_law_script"] (spG K 1 D_law_k70_v2) := by
  refine okG T.F_law c_law rfl rfl (by decide) fun cdv A' outer s H E hgd hr => ?_
  have nd := c_law.nd
  exact (gss_cons (gs_set nd (g_call l_law_cells (ok_law_cells T) hgd (hr.mono (by omega)) T.g_law_cells T.F_law_cells.kp T.b_law_cells (ga_cons (g_v 0) (ga_cons g_int ga_nil))))
    (gss_one (gs_ret (g_all rfl T.z_all (ga_cons (g_lc [("_law_k", 2)] rfl nd (gi_r1 T.z_range (ga_cons (g_len T.z_len (ga_cons (g_v 1) ga_nil)) ga_nil)) (blkOk_by (N := n_law) (sc := defScope s_law) (by decide +kernel)) (fun _ _ _ _ _ => (gg_n 2 nd)) (fun _ _ _ _ _ => gts_nil) (fun _ _ _ _ _ => (g_call l_law_right (ok_law_right T) hgd (hr.mono (by omega)) T.g_law_right T.F_law_right.kp T.b_law_right (ga_cons (g_call l_law_box (ok_law_box T) hgd (hr.mono (by omega)) T.g_law_box T.F_law_box.kp T.b_law_box (ga_cons (g_v 1) (ga_cons (g_v 2) ga_nil))) ga_nil)))) ga_nil)))))
end
theorem all_mk {l : PySem.W.OpenLaw} {w : World} {K : PySem.W.Frag} {h : Heap} {mg : Str → Option Value} {fa : Addr} (X : K.In h) (G : h.Ns mainGlobals mg) (hfa : mg "law" = some (.ref fa))
    {f0 : Addr} {od0 an0 : Option Addr} {sl0 : Array (Option Value)} {oc0 kV0 dc0 pm0 cd0 ct0 : Value}
    (a0 : PySem.W.nsIn K mainGlobals "is_number" = some (some (.ref f0))) (l0 : K.lookup f0 = some ⟨oc0, od0, .func (PySem.W.fnOf "is_number" "is_number" (defArgs s_is_number) (defBody s_is_number) (defScope s_is_number) .none kV0 dc0 pm0 an0 cd0 ct0), sl0⟩) (c0 : PySem.W.codeIn K cd0 "is_number" = true) (k0 : PySem.W.keepIn K (.ref f0) = true)
    {f1 : Addr} {od1 an1 : Option Addr} {sl1 : Array (Option Value)} {oc1 kV1 dc1 pm1 cd1 ct1 : Value}
    (a1 : PySem.W.nsIn K mainGlobals "other_of" = some (some (.ref f1))) (l1 : K.lookup f1 = some ⟨oc1, od1, .func (PySem.W.fnOf "other_of" "other_of" (defArgs s_other_of) (defBody s_other_of) (defScope s_other_of) .none kV1 dc1 pm1 an1 cd1 ct1), sl1⟩) (c1 : PySem.W.codeIn K cd1 "other_of" = true) (k1 : PySem.W.keepIn K (.ref f1) = true)
    {f2 : Addr} {od2 an2 : Option Addr} {sl2 : Array (Option Value)} {oc2 kV2 dc2 pm2 cd2 ct2 : Value}
    (a2 : PySem.W.nsIn K mainGlobals "had" = some (some (.ref f2))) (l2 : K.lookup f2 = some ⟨oc2, od2, .func (PySem.W.fnOf "had" "had" (defArgs s_had) (defBody s_had) (defScope s_had) .none kV2 dc2 pm2 an2 cd2 ct2), sl2⟩) (c2 : PySem.W.codeIn K cd2 "had" = true) (k2 : PySem.W.keepIn K (.ref f2) = true)
    {f3 : Addr} {od3 an3 : Option Addr} {sl3 : Array (Option Value)} {oc3 kV3 dc3 pm3 cd3 ct3 : Value}
    (a3 : PySem.W.nsIn K mainGlobals "next_of" = some (some (.ref f3))) (l3 : K.lookup f3 = some ⟨oc3, od3, .func (PySem.W.fnOf "next_of" "next_of" (defArgs s_next_of) (defBody s_next_of) (defScope s_next_of) .none kV3 dc3 pm3 an3 cd3 ct3), sl3⟩) (c3 : PySem.W.codeIn K cd3 "next_of" = true) (k3 : PySem.W.keepIn K (.ref f3) = true)
    {f4 : Addr} {od4 an4 : Option Addr} {sl4 : Array (Option Value)} {oc4 kV4 dc4 pm4 cd4 ct4 : Value}
    (a4 : PySem.W.nsIn K mainGlobals "handed" = some (some (.ref f4))) (l4 : K.lookup f4 = some ⟨oc4, od4, .func (PySem.W.fnOf "handed" "handed" (defArgs s_handed) (defBody s_handed) (defScope s_handed) .none kV4 dc4 pm4 an4 cd4 ct4), sl4⟩) (c4 : PySem.W.codeIn K cd4 "handed" = true) (k4 : PySem.W.keepIn K (.ref f4) = true)
    {f5 : Addr} {od5 an5 : Option Addr} {sl5 : Array (Option Value)} {oc5 kV5 dc5 pm5 cd5 ct5 : Value}
    (a5 : PySem.W.nsIn K mainGlobals "moved" = some (some (.ref f5))) (l5 : K.lookup f5 = some ⟨oc5, od5, .func (PySem.W.fnOf "moved" "moved" (defArgs s_moved) (defBody s_moved) (defScope s_moved) .none kV5 dc5 pm5 an5 cd5 ct5), sl5⟩) (c5 : PySem.W.codeIn K cd5 "moved" = true) (k5 : PySem.W.keepIn K (.ref f5) = true)
    {f6 : Addr} {od6 an6 : Option Addr} {sl6 : Array (Option Value)} {oc6 kV6 dc6 pm6 cd6 ct6 : Value}
    (a6 : PySem.W.nsIn K mainGlobals "nexts" = some (some (.ref f6))) (l6 : K.lookup f6 = some ⟨oc6, od6, .func (PySem.W.fnOf "nexts" "nexts" (defArgs s_nexts) (defBody s_nexts) (defScope s_nexts) .none kV6 dc6 pm6 an6 cd6 ct6), sl6⟩) (c6 : PySem.W.codeIn K cd6 "nexts" = true) (k6 : PySem.W.keepIn K (.ref f6) = true)
    {f7 : Addr} {od7 an7 : Option Addr} {sl7 : Array (Option Value)} {oc7 kV7 dc7 pm7 cd7 ct7 : Value}
    (a7 : PySem.W.nsIn K mainGlobals "all_nexts" = some (some (.ref f7))) (l7 : K.lookup f7 = some ⟨oc7, od7, .func (PySem.W.fnOf "all_nexts" "all_nexts" (defArgs s_all_nexts) (defBody s_all_nexts) (defScope s_all_nexts) .none kV7 dc7 pm7 an7 cd7 ct7), sl7⟩) (c7 : PySem.W.codeIn K cd7 "all_nexts" = true) (k7 : PySem.W.keepIn K (.ref f7) = true)
    {f8 : Addr} {od8 an8 : Option Addr} {sl8 : Array (Option Value)} {oc8 kV8 dc8 pm8 cd8 ct8 : Value}
    (a8 : PySem.W.nsIn K mainGlobals "round_from" = some (some (.ref f8))) (l8 : K.lookup f8 = some ⟨oc8, od8, .func (PySem.W.fnOf "round_from" "round_from" (defArgs s_round_from) (defBody s_round_from) (defScope s_round_from) .none kV8 dc8 pm8 an8 cd8 ct8), sl8⟩) (c8 : PySem.W.codeIn K cd8 "round_from" = true) (k8 : PySem.W.keepIn K (.ref f8) = true)
    {f9 : Addr} {od9 an9 : Option Addr} {sl9 : Array (Option Value)} {oc9 kV9 dc9 pm9 cd9 ct9 : Value}
    (a9 : PySem.W.nsIn K mainGlobals "all_rounds" = some (some (.ref f9))) (l9 : K.lookup f9 = some ⟨oc9, od9, .func (PySem.W.fnOf "all_rounds" "all_rounds" (defArgs s_all_rounds) (defBody s_all_rounds) (defScope s_all_rounds) .none kV9 dc9 pm9 an9 cd9 ct9), sl9⟩) (c9 : PySem.W.codeIn K cd9 "all_rounds" = true) (k9 : PySem.W.keepIn K (.ref f9) = true)
    {f10 : Addr} {od10 an10 : Option Addr} {sl10 : Array (Option Value)} {oc10 kV10 dc10 pm10 cd10 ct10 : Value}
    (a10 : PySem.W.nsIn K mainGlobals "ring_in" = some (some (.ref f10))) (l10 : K.lookup f10 = some ⟨oc10, od10, .func (PySem.W.fnOf "ring_in" "ring_in" (defArgs s_ring_in) (defBody s_ring_in) (defScope s_ring_in) .none kV10 dc10 pm10 an10 cd10 ct10), sl10⟩) (c10 : PySem.W.codeIn K cd10 "ring_in" = true) (k10 : PySem.W.keepIn K (.ref f10) = true)
    {f11 : Addr} {od11 an11 : Option Addr} {sl11 : Array (Option Value)} {oc11 kV11 dc11 pm11 cd11 ct11 : Value}
    (a11 : PySem.W.nsIn K mainGlobals "is_free" = some (some (.ref f11))) (l11 : K.lookup f11 = some ⟨oc11, od11, .func (PySem.W.fnOf "is_free" "is_free" (defArgs s_is_free) (defBody s_is_free) (defScope s_is_free) .none kV11 dc11 pm11 an11 cd11 ct11), sl11⟩) (c11 : PySem.W.codeIn K cd11 "is_free" = true) (k11 : PySem.W.keepIn K (.ref f11) = true)
    {f12 : Addr} {od12 an12 : Option Addr} {sl12 : Array (Option Value)} {oc12 kV12 dc12 pm12 cd12 ct12 : Value}
    (a12 : PySem.W.nsIn K mainGlobals "ringed" = some (some (.ref f12))) (l12 : K.lookup f12 = some ⟨oc12, od12, .func (PySem.W.fnOf "ringed" "ringed" (defArgs s_ringed) (defBody s_ringed) (defScope s_ringed) .none kV12 dc12 pm12 an12 cd12 ct12), sl12⟩) (c12 : PySem.W.codeIn K cd12 "ringed" = true) (k12 : PySem.W.keepIn K (.ref f12) = true)
    {f13 : Addr} {od13 an13 : Option Addr} {sl13 : Array (Option Value)} {oc13 kV13 dc13 pm13 cd13 ct13 : Value}
    (a13 : PySem.W.nsIn K mainGlobals "shows_ring" = some (some (.ref f13))) (l13 : K.lookup f13 = some ⟨oc13, od13, .func (PySem.W.fnOf "shows_ring" "shows_ring" (defArgs s_shows_ring) (defBody s_shows_ring) (defScope s_shows_ring) .none kV13 dc13 pm13 an13 cd13 ct13), sl13⟩) (c13 : PySem.W.codeIn K cd13 "shows_ring" = true) (k13 : PySem.W.keepIn K (.ref f13) = true)
    {f14 : Addr} {od14 an14 : Option Addr} {sl14 : Array (Option Value)} {oc14 kV14 dc14 pm14 cd14 ct14 : Value}
    (a14 : PySem.W.nsIn K mainGlobals "_law_box" = some (some (.ref f14))) (l14 : K.lookup f14 = some ⟨oc14, od14, .func (PySem.W.fnOf "_law_box" "_law_box" (defArgs s_law_box) (defBody s_law_box) (defScope s_law_box) .none kV14 dc14 pm14 an14 cd14 ct14), sl14⟩) (c14 : PySem.W.codeIn K cd14 "_law_box" = true) (k14 : PySem.W.keepIn K (.ref f14) = true)
    {f15 : Addr} {od15 an15 : Option Addr} {sl15 : Array (Option Value)} {oc15 kV15 dc15 pm15 cd15 ct15 : Value}
    (a15 : PySem.W.nsIn K mainGlobals "_law_take" = some (some (.ref f15))) (l15 : K.lookup f15 = some ⟨oc15, od15, .func (PySem.W.fnOf "_law_take" "_law_take" (defArgs s_law_take) (defBody s_law_take) (defScope s_law_take) .none kV15 dc15 pm15 an15 cd15 ct15), sl15⟩) (c15 : PySem.W.codeIn K cd15 "_law_take" = true) (k15 : PySem.W.keepIn K (.ref f15) = true)
    {f16 : Addr} {od16 an16 : Option Addr} {sl16 : Array (Option Value)} {oc16 kV16 dc16 pm16 cd16 ct16 : Value}
    (a16 : PySem.W.nsIn K mainGlobals "_law_cells" = some (some (.ref f16))) (l16 : K.lookup f16 = some ⟨oc16, od16, .func (PySem.W.fnOf "_law_cells" "_law_cells" (defArgs s_law_cells) (defBody s_law_cells) (defScope s_law_cells) .none kV16 dc16 pm16 an16 cd16 ct16), sl16⟩) (c16 : PySem.W.codeIn K cd16 "_law_cells" = true) (k16 : PySem.W.keepIn K (.ref f16) = true)
    {f17 : Addr} {od17 an17 : Option Addr} {sl17 : Array (Option Value)} {oc17 kV17 dc17 pm17 cd17 ct17 : Value}
    (a17 : PySem.W.nsIn K mainGlobals "_law_of" = some (some (.ref f17))) (l17 : K.lookup f17 = some ⟨oc17, od17, .func (PySem.W.fnOf "_law_of" "_law_of" (defArgs s_law_of) (defBody s_law_of) (defScope s_law_of) .none kV17 dc17 pm17 an17 cd17 ct17), sl17⟩) (c17 : PySem.W.codeIn K cd17 "_law_of" = true) (k17 : PySem.W.keepIn K (.ref f17) = true)
    {f18 : Addr} {od18 an18 : Option Addr} {sl18 : Array (Option Value)} {oc18 kV18 dc18 pm18 cd18 ct18 : Value}
    (a18 : PySem.W.nsIn K mainGlobals "_law_strewn" = some (some (.ref f18))) (l18 : K.lookup f18 = some ⟨oc18, od18, .func (PySem.W.fnOf "_law_strewn" "_law_strewn" (defArgs s_law_strewn) (defBody s_law_strewn) (defScope s_law_strewn) .none kV18 dc18 pm18 an18 cd18 ct18), sl18⟩) (c18 : PySem.W.codeIn K cd18 "_law_strewn" = true) (k18 : PySem.W.keepIn K (.ref f18) = true)
    {f19 : Addr} {od19 an19 : Option Addr} {sl19 : Array (Option Value)} {oc19 kV19 dc19 pm19 cd19 ct19 : Value}
    (a19 : PySem.W.nsIn K mainGlobals "_law_field" = some (some (.ref f19))) (l19 : K.lookup f19 = some ⟨oc19, od19, .func (PySem.W.fnOf "_law_field" "_law_field" (defArgs s_law_field) (defBody s_law_field) (defScope s_law_field) .none kV19 dc19 pm19 an19 cd19 ct19), sl19⟩) (c19 : PySem.W.codeIn K cd19 "_law_field" = true) (k19 : PySem.W.keepIn K (.ref f19) = true)
    {f20 : Addr} {od20 an20 : Option Addr} {sl20 : Array (Option Value)} {oc20 kV20 dc20 pm20 cd20 ct20 : Value}
    (a20 : PySem.W.nsIn K mainGlobals "_law_lies" = some (some (.ref f20))) (l20 : K.lookup f20 = some ⟨oc20, od20, .func (PySem.W.fnOf "_law_lies" "_law_lies" (defArgs s_law_lies) (defBody s_law_lies) (defScope s_law_lies) .none kV20 dc20 pm20 an20 cd20 ct20), sl20⟩) (c20 : PySem.W.codeIn K cd20 "_law_lies" = true) (k20 : PySem.W.keepIn K (.ref f20) = true)
    {f21 : Addr} {od21 an21 : Option Addr} {sl21 : Array (Option Value)} {oc21 kV21 dc21 pm21 cd21 ct21 : Value}
    (a21 : PySem.W.nsIn K mainGlobals "_law_lacker" = some (some (.ref f21))) (l21 : K.lookup f21 = some ⟨oc21, od21, .func (PySem.W.fnOf "_law_lacker" "_law_lacker" (defArgs s_law_lacker) (defBody s_law_lacker) (defScope s_law_lacker) .none kV21 dc21 pm21 an21 cd21 ct21), sl21⟩) (c21 : PySem.W.codeIn K cd21 "_law_lacker" = true) (k21 : PySem.W.keepIn K (.ref f21) = true)
    {f22 : Addr} {od22 an22 : Option Addr} {sl22 : Array (Option Value)} {oc22 kV22 dc22 pm22 cd22 ct22 : Value}
    (a22 : PySem.W.nsIn K mainGlobals "_law_has" = some (some (.ref f22))) (l22 : K.lookup f22 = some ⟨oc22, od22, .func (PySem.W.fnOf "_law_has" "_law_has" (defArgs s_law_has) (defBody s_law_has) (defScope s_law_has) .none kV22 dc22 pm22 an22 cd22 ct22), sl22⟩) (c22 : PySem.W.codeIn K cd22 "_law_has" = true) (k22 : PySem.W.keepIn K (.ref f22) = true)
    {f23 : Addr} {od23 an23 : Option Addr} {sl23 : Array (Option Value)} {oc23 kV23 dc23 pm23 cd23 ct23 : Value}
    (a23 : PySem.W.nsIn K mainGlobals "_law_after" = some (some (.ref f23))) (l23 : K.lookup f23 = some ⟨oc23, od23, .func (PySem.W.fnOf "_law_after" "_law_after" (defArgs s_law_after) (defBody s_law_after) (defScope s_law_after) .none kV23 dc23 pm23 an23 cd23 ct23), sl23⟩) (c23 : PySem.W.codeIn K cd23 "_law_after" = true) (k23 : PySem.W.keepIn K (.ref f23) = true)
    {f24 : Addr} {od24 an24 : Option Addr} {sl24 : Array (Option Value)} {oc24 kV24 dc24 pm24 cd24 ct24 : Value}
    (a24 : PySem.W.nsIn K mainGlobals "_law_is_ring" = some (some (.ref f24))) (l24 : K.lookup f24 = some ⟨oc24, od24, .func (PySem.W.fnOf "_law_is_ring" "_law_is_ring" (defArgs s_law_is_ring) (defBody s_law_is_ring) (defScope s_law_is_ring) .none kV24 dc24 pm24 an24 cd24 ct24), sl24⟩) (c24 : PySem.W.codeIn K cd24 "_law_is_ring" = true) (k24 : PySem.W.keepIn K (.ref f24) = true)
    {f25 : Addr} {od25 an25 : Option Addr} {sl25 : Array (Option Value)} {oc25 kV25 dc25 pm25 cd25 ct25 : Value}
    (a25 : PySem.W.nsIn K mainGlobals "_law_right" = some (some (.ref f25))) (l25 : K.lookup f25 = some ⟨oc25, od25, .func (PySem.W.fnOf "_law_right" "_law_right" (defArgs s_law_right) (defBody s_law_right) (defScope s_law_right) .none kV25 dc25 pm25 an25 cd25 ct25), sl25⟩) (c25 : PySem.W.codeIn K cd25 "_law_right" = true) (k25 : PySem.W.keepIn K (.ref f25) = true)
    {f26 : Addr} {od26 an26 : Option Addr} {sl26 : Array (Option Value)} {oc26 kV26 dc26 pm26 cd26 ct26 : Value}
    (a26 : PySem.W.nsIn K mainGlobals "law" = some (some (.ref f26))) (l26 : K.lookup f26 = some ⟨oc26, od26, .func (PySem.W.fnOf "law" "law" (defArgs s_law) (defBody s_law) (defScope s_law) .none kV26 dc26 pm26 an26 cd26 ct26), sl26⟩) (c26 : PySem.W.codeIn K cd26 "law" = true) (k26 : PySem.W.keepIn K (.ref f26) = true)
    (z_abs : PySem.W.nsIn K mainGlobals "abs" = some none)
    (z_all : PySem.W.nsIn K mainGlobals "all" = some none)
    (z_any : PySem.W.nsIn K mainGlobals "any" = some none)
    (z_bool : PySem.W.nsIn K mainGlobals "bool" = some none)
    (z_enumerate : PySem.W.nsIn K mainGlobals "enumerate" = some none)
    (z_int : PySem.W.nsIn K mainGlobals "int" = some none)
    (z_isinstance : PySem.W.nsIn K mainGlobals "isinstance" = some none)
    (z_len : PySem.W.nsIn K mainGlobals "len" = some none)
    (z_list : PySem.W.nsIn K mainGlobals "list" = some none)
    (z_min : PySem.W.nsIn K mainGlobals "min" = some none)
    (z_range : PySem.W.nsIn K mainGlobals "range" = some none)
    (z_set : PySem.W.nsIn K mainGlobals "set" = some none)
    (z_sorted : PySem.W.nsIn K mainGlobals "sorted" = some none)
    (z_tuple : PySem.W.nsIn K mainGlobals "tuple" = some none)
    (z_zip : PySem.W.nsIn K mainGlobals "zip" = some none) :
    ∃ fd : FuncData, (∀ (s : Shared) (v : Value), BindsTo s fd ⟨[v], []⟩ [("_law_script", v)]) ∧ ∀ base : Heap, K.In base → base.Ns mainGlobals mg → FnG l.prog w K mg base 8 fa fd ["_law_script"] (spG K 1 D_law_k70_v2) := by
  have e := hfa.symm.trans (PySem.W.mg_of X G a26)
  cases e
  have F0 := fun_mk (st := s_is_number) l0 c0 k0
  have F1 := fun_mk (st := s_other_of) l1 c1 k1
  have F2 := fun_mk (st := s_had) l2 c2 k2
  have F3 := fun_mk (st := s_next_of) l3 c3 k3
  have F4 := fun_mk (st := s_handed) l4 c4 k4
  have F5 := fun_mk (st := s_moved) l5 c5 k5
  have F6 := fun_mk (st := s_nexts) l6 c6 k6
  have F7 := fun_mk (st := s_all_nexts) l7 c7 k7
  have F8 := fun_mk (st := s_round_from) l8 c8 k8
  have F9 := fun_mk (st := s_all_rounds) l9 c9 k9
  have F10 := fun_mk (st := s_ring_in) l10 c10 k10
  have F11 := fun_mk (st := s_is_free) l11 c11 k11
  have F12 := fun_mk (st := s_ringed) l12 c12 k12
  have F13 := fun_mk (st := s_shows_ring) l13 c13 k13
  have F14 := fun_mk (st := s_law_box) l14 c14 k14
  have F15 := fun_mk (st := s_law_take) l15 c15 k15
  have F16 := fun_mk (st := s_law_cells) l16 c16 k16
  have F17 := fun_mk (st := s_law_of) l17 c17 k17
  have F18 := fun_mk (st := s_law_strewn) l18 c18 k18
  have F19 := fun_mk (st := s_law_field) l19 c19 k19
  have F20 := fun_mk (st := s_law_lies) l20 c20 k20
  have F21 := fun_mk (st := s_law_lacker) l21 c21 k21
  have F22 := fun_mk (st := s_law_has) l22 c22 k22
  have F23 := fun_mk (st := s_law_after) l23 c23 k23
  have F24 := fun_mk (st := s_law_is_ring) l24 c24 k24
  have F25 := fun_mk (st := s_law_right) l25 c25 k25
  have F26 := fun_mk (st := s_law) l26 c26 k26
  let A : Nat → Addr := fun i => match i with
    | 0 => f0
    | 1 => f1
    | 2 => f2
    | 3 => f3
    | 4 => f4
    | 5 => f5
    | 6 => f6
    | 7 => f7
    | 8 => f8
    | 9 => f9
    | 10 => f10
    | 11 => f11
    | 12 => f12
    | 13 => f13
    | 14 => f14
    | 15 => f15
    | 16 => f16
    | 17 => f17
    | 18 => f18
    | 19 => f19
    | 20 => f20
    | 21 => f21
    | 22 => f22
    | 23 => f23
    | 24 => f24
    | 25 => f25
    | 26 => fa
    | _ => 0
  let Fd : Nat → FuncData := fun i => match i with
    | 0 => PySem.W.fnOf "is_number" "is_number" (defArgs s_is_number) (defBody s_is_number) (defScope s_is_number) .none kV0 dc0 pm0 an0 cd0 ct0
    | 1 => PySem.W.fnOf "other_of" "other_of" (defArgs s_other_of) (defBody s_other_of) (defScope s_other_of) .none kV1 dc1 pm1 an1 cd1 ct1
    | 2 => PySem.W.fnOf "had" "had" (defArgs s_had) (defBody s_had) (defScope s_had) .none kV2 dc2 pm2 an2 cd2 ct2
    | 3 => PySem.W.fnOf "next_of" "next_of" (defArgs s_next_of) (defBody s_next_of) (defScope s_next_of) .none kV3 dc3 pm3 an3 cd3 ct3
    | 4 => PySem.W.fnOf "handed" "handed" (defArgs s_handed) (defBody s_handed) (defScope s_handed) .none kV4 dc4 pm4 an4 cd4 ct4
    | 5 => PySem.W.fnOf "moved" "moved" (defArgs s_moved) (defBody s_moved) (defScope s_moved) .none kV5 dc5 pm5 an5 cd5 ct5
    | 6 => PySem.W.fnOf "nexts" "nexts" (defArgs s_nexts) (defBody s_nexts) (defScope s_nexts) .none kV6 dc6 pm6 an6 cd6 ct6
    | 7 => PySem.W.fnOf "all_nexts" "all_nexts" (defArgs s_all_nexts) (defBody s_all_nexts) (defScope s_all_nexts) .none kV7 dc7 pm7 an7 cd7 ct7
    | 8 => PySem.W.fnOf "round_from" "round_from" (defArgs s_round_from) (defBody s_round_from) (defScope s_round_from) .none kV8 dc8 pm8 an8 cd8 ct8
    | 9 => PySem.W.fnOf "all_rounds" "all_rounds" (defArgs s_all_rounds) (defBody s_all_rounds) (defScope s_all_rounds) .none kV9 dc9 pm9 an9 cd9 ct9
    | 10 => PySem.W.fnOf "ring_in" "ring_in" (defArgs s_ring_in) (defBody s_ring_in) (defScope s_ring_in) .none kV10 dc10 pm10 an10 cd10 ct10
    | 11 => PySem.W.fnOf "is_free" "is_free" (defArgs s_is_free) (defBody s_is_free) (defScope s_is_free) .none kV11 dc11 pm11 an11 cd11 ct11
    | 12 => PySem.W.fnOf "ringed" "ringed" (defArgs s_ringed) (defBody s_ringed) (defScope s_ringed) .none kV12 dc12 pm12 an12 cd12 ct12
    | 13 => PySem.W.fnOf "shows_ring" "shows_ring" (defArgs s_shows_ring) (defBody s_shows_ring) (defScope s_shows_ring) .none kV13 dc13 pm13 an13 cd13 ct13
    | 14 => PySem.W.fnOf "_law_box" "_law_box" (defArgs s_law_box) (defBody s_law_box) (defScope s_law_box) .none kV14 dc14 pm14 an14 cd14 ct14
    | 15 => PySem.W.fnOf "_law_take" "_law_take" (defArgs s_law_take) (defBody s_law_take) (defScope s_law_take) .none kV15 dc15 pm15 an15 cd15 ct15
    | 16 => PySem.W.fnOf "_law_cells" "_law_cells" (defArgs s_law_cells) (defBody s_law_cells) (defScope s_law_cells) .none kV16 dc16 pm16 an16 cd16 ct16
    | 17 => PySem.W.fnOf "_law_of" "_law_of" (defArgs s_law_of) (defBody s_law_of) (defScope s_law_of) .none kV17 dc17 pm17 an17 cd17 ct17
    | 18 => PySem.W.fnOf "_law_strewn" "_law_strewn" (defArgs s_law_strewn) (defBody s_law_strewn) (defScope s_law_strewn) .none kV18 dc18 pm18 an18 cd18 ct18
    | 19 => PySem.W.fnOf "_law_field" "_law_field" (defArgs s_law_field) (defBody s_law_field) (defScope s_law_field) .none kV19 dc19 pm19 an19 cd19 ct19
    | 20 => PySem.W.fnOf "_law_lies" "_law_lies" (defArgs s_law_lies) (defBody s_law_lies) (defScope s_law_lies) .none kV20 dc20 pm20 an20 cd20 ct20
    | 21 => PySem.W.fnOf "_law_lacker" "_law_lacker" (defArgs s_law_lacker) (defBody s_law_lacker) (defScope s_law_lacker) .none kV21 dc21 pm21 an21 cd21 ct21
    | 22 => PySem.W.fnOf "_law_has" "_law_has" (defArgs s_law_has) (defBody s_law_has) (defScope s_law_has) .none kV22 dc22 pm22 an22 cd22 ct22
    | 23 => PySem.W.fnOf "_law_after" "_law_after" (defArgs s_law_after) (defBody s_law_after) (defScope s_law_after) .none kV23 dc23 pm23 an23 cd23 ct23
    | 24 => PySem.W.fnOf "_law_is_ring" "_law_is_ring" (defArgs s_law_is_ring) (defBody s_law_is_ring) (defScope s_law_is_ring) .none kV24 dc24 pm24 an24 cd24 ct24
    | 25 => PySem.W.fnOf "_law_right" "_law_right" (defArgs s_law_right) (defBody s_law_right) (defScope s_law_right) .none kV25 dc25 pm25 an25 cd25 ct25
    | 26 => PySem.W.fnOf "law" "law" (defArgs s_law) (defBody s_law) (defScope s_law) .none kV26 dc26 pm26 an26 cd26 ct26
    | _ => PySem.W.fnOf "law" "law" (defArgs s_law) (defBody s_law) (defScope s_law) .none kV26 dc26 pm26 an26 cd26 ct26
  have T : Txt K mg A Fd := {
    F_is_number := F0
    b_is_number := F0.binds (ps := ["thing"]) fun _ _ _ _ _ _ us hl => match us, hl with | [_], _ => rfl
    g_is_number := PySem.W.mg_of X G a0
    F_other_of := F1
    b_other_of := F1.binds (ps := ["world", "thing", "who"]) fun _ _ _ _ _ _ us hl => match us, hl with | [_, _, _], _ => rfl
    g_other_of := PySem.W.mg_of X G a1
    F_had := F2
    b_had := F2.binds (ps := ["world", "standing", "who"]) fun _ _ _ _ _ _ us hl => match us, hl with | [_, _, _], _ => rfl
    g_had := PySem.W.mg_of X G a2
    F_next_of := F3
    b_next_of := F3.binds (ps := ["world", "standing", "who"]) fun _ _ _ _ _ _ us hl => match us, hl with | [_, _, _], _ => rfl
    g_next_of := PySem.W.mg_of X G a3
    F_handed := F4
    b_handed := F4.binds (ps := ["world", "standing", "thing"]) fun _ _ _ _ _ _ us hl => match us, hl with | [_, _, _], _ => rfl
    g_handed := PySem.W.mg_of X G a4
    F_moved := F5
    b_moved := F5.binds (ps := ["world", "standing", "who"]) fun _ _ _ _ _ _ us hl => match us, hl with | [_, _, _], _ => rfl
    g_moved := PySem.W.mg_of X G a5
    F_nexts := F6
    b_nexts := F6.binds (ps := ["world", "standing", "thing"]) fun _ _ _ _ _ _ us hl => match us, hl with | [_, _, _], _ => rfl
    g_nexts := PySem.W.mg_of X G a6
    F_all_nexts := F7
    b_all_nexts := F7.binds (ps := ["world", "standing"]) fun _ _ _ _ _ _ us hl => match us, hl with | [_, _], _ => rfl
    g_all_nexts := PySem.W.mg_of X G a7
    F_round_from := F8
    b_round_from := F8.binds (ps := ["arrows", "thing"]) fun _ _ _ _ _ _ us hl => match us, hl with | [_, _], _ => rfl
    g_round_from := PySem.W.mg_of X G a8
    F_all_rounds := F9
    b_all_rounds := F9.binds (ps := ["world", "standing"]) fun _ _ _ _ _ _ us hl => match us, hl with | [_, _], _ => rfl
    g_all_rounds := PySem.W.mg_of X G a9
    F_ring_in := F10
    b_ring_in := F10.binds (ps := ["world", "standing"]) fun _ _ _ _ _ _ us hl => match us, hl with | [_, _], _ => rfl
    g_ring_in := PySem.W.mg_of X G a10
    F_is_free := F11
    b_is_free := F11.binds (ps := ["world", "standing"]) fun _ _ _ _ _ _ us hl => match us, hl with | [_, _], _ => rfl
    g_is_free := PySem.W.mg_of X G a11
    F_ringed := F12
    b_ringed := F12.binds (ps := ["world", "standing"]) fun _ _ _ _ _ _ us hl => match us, hl with | [_, _], _ => rfl
    g_ringed := PySem.W.mg_of X G a12
    F_shows_ring := F13
    b_shows_ring := F13.binds (ps := ["world", "standing", "thing"]) fun _ _ _ _ _ _ us hl => match us, hl with | [_, _, _], _ => rfl
    g_shows_ring := PySem.W.mg_of X G a13
    F_law_box := F14
    b_law_box := F14.binds (ps := ["_law_cells_here", "_law_k"]) fun _ _ _ _ _ _ us hl => match us, hl with | [_, _], _ => rfl
    g_law_box := PySem.W.mg_of X G a14
    F_law_take := F15
    b_law_take := F15.binds (ps := ["_law_box_here", "_law_below"]) fun _ _ _ _ _ _ us hl => match us, hl with | [_, _], _ => rfl
    g_law_take := PySem.W.mg_of X G a15
    F_law_cells := F16
    b_law_cells := F16.binds (ps := ["_law_script", "_law_utmost"]) fun _ _ _ _ _ _ us hl => match us, hl with | [_, _], _ => rfl
    g_law_cells := PySem.W.mg_of X G a16
    F_law_of := F17
    b_law_of := F17.binds (ps := ["_law_box_here", "_law_some"]) fun _ _ _ _ _ _ us hl => match us, hl with | [_, _], _ => rfl
    g_law_of := PySem.W.mg_of X G a17
    F_law_strewn := F18
    b_law_strewn := F18.binds (ps := ["_law_box_here", "_law_some"]) fun _ _ _ _ _ _ us hl => match us, hl with | [_, _], _ => rfl
    g_law_strewn := PySem.W.mg_of X G a18
    F_law_field := F19
    b_law_field := F19.binds (ps := ["_law_box_here", "_law_folk", "_law_most"]) fun _ _ _ _ _ _ us hl => match us, hl with | [_, _, _], _ => rfl
    g_law_field := PySem.W.mg_of X G a19
    F_law_lies := F20
    b_law_lies := F20.binds (ps := ["_law_box_here", "_law_field_here"]) fun _ _ _ _ _ _ us hl => match us, hl with | [_, _], _ => rfl
    g_law_lies := PySem.W.mg_of X G a20
    F_law_lacker := F21
    b_law_lacker := F21.binds (ps := ["_law_field_here", "_law_lies_here", "_law_item"]) fun _ _ _ _ _ _ us hl => match us, hl with | [_, _, _], _ => rfl
    g_law_lacker := PySem.W.mg_of X G a21
    F_law_has := F22
    b_law_has := F22.binds (ps := ["_law_field_here", "_law_lies_here", "_law_person"]) fun _ _ _ _ _ _ us hl => match us, hl with | [_, _, _], _ => rfl
    g_law_has := PySem.W.mg_of X G a22
    F_law_after := F23
    b_law_after := F23.binds (ps := ["_law_field_here", "_law_lies_here", "_law_item"]) fun _ _ _ _ _ _ us hl => match us, hl with | [_, _, _], _ => rfl
    g_law_after := PySem.W.mg_of X G a23
    F_law_is_ring := F24
    b_law_is_ring := F24.binds (ps := ["_law_field_here", "_law_lies_here", "_law_matter"]) fun _ _ _ _ _ _ us hl => match us, hl with | [_, _, _], _ => rfl
    g_law_is_ring := PySem.W.mg_of X G a24
    F_law_right := F25
    b_law_right := F25.binds (ps := ["_law_box_here"]) fun _ _ _ _ _ _ us hl => match us, hl with | [_], _ => rfl
    g_law_right := PySem.W.mg_of X G a25
    F_law := F26
    b_law := F26.binds (ps := ["_law_script"]) fun _ _ _ _ _ _ us hl => match us, hl with | [_], _ => rfl
    g_law := PySem.W.mg_of X G a26
    z_abs := PySem.W.mg_none_of X G z_abs
    z_all := PySem.W.mg_none_of X G z_all
    z_any := PySem.W.mg_none_of X G z_any
    z_bool := PySem.W.mg_none_of X G z_bool
    z_enumerate := PySem.W.mg_none_of X G z_enumerate
    z_int := PySem.W.mg_none_of X G z_int
    z_isinstance := PySem.W.mg_none_of X G z_isinstance
    z_len := PySem.W.mg_none_of X G z_len
    z_list := PySem.W.mg_none_of X G z_list
    z_min := PySem.W.mg_none_of X G z_min
    z_range := PySem.W.mg_none_of X G z_range
    z_set := PySem.W.mg_none_of X G z_set
    z_sorted := PySem.W.mg_none_of X G z_sorted
    z_tuple := PySem.W.mg_none_of X G z_tuple
    z_zip := PySem.W.mg_none_of X G z_zip
  }
  exact ⟨Fd 26, fun s v => .of_eq rfl, fun base _ _ => ok_law T⟩
end Dk70

open PySem PySem.W PyProof.Rows
set_option maxHeartbeats 0 in
theorem PySem.Challenge.cw_leastdear_k70_whole_rings_are_left_alone_holds : PySem.Challenge.rw_leastdear_k70_whole_rings_are_left_alone.Holds := by
  w_on; o_law; k_head; (case hw => w_witness2)
  k_fill
  refine G.walk_g (l := PySem.Challenge.rw_leastdear_k70_whole_rings_are_left_alone) (n := 63) (k := 8) (x := "_law_script") (F := Hc.D_law_k70_v2) rfl (by decide) rfl ⟨rfl, by decide, by decide⟩ (fun w h Y => PySem.W.kIn_of Y) ?F Hc.law_true_k70
  case F =>
    intro w mg fa h KX G hmg
    refine' Dk70.all_mk KX G hmg ?a0 ?l0 ?c0 ?k0 ?a1 ?l1 ?c1 ?k1 ?a2 ?l2 ?c2 ?k2 ?a3 ?l3 ?c3 ?k3 ?a4 ?l4 ?c4 ?k4 ?a5 ?l5 ?c5 ?k5 ?a6 ?l6 ?c6 ?k6 ?a7 ?l7 ?c7 ?k7 ?a8 ?l8 ?c8 ?k8 ?a9 ?l9 ?c9 ?k9 ?a10 ?l10 ?c10 ?k10 ?a11 ?l11 ?c11 ?k11 ?a12 ?l12 ?c12 ?k12 ?a13 ?l13 ?c13 ?k13 ?a14 ?l14 ?c14 ?k14 ?a15 ?l15 ?c15 ?k15 ?a16 ?l16 ?c16 ?k16 ?a17 ?l17 ?c17 ?k17 ?a18 ?l18 ?c18 ?k18 ?a19 ?l19 ?c19 ?k19 ?a20 ?l20 ?c20 ?k20 ?a21 ?l21 ?c21 ?k21 ?a22 ?l22 ?c22 ?k22 ?a23 ?l23 ?c23 ?k23 ?a24 ?l24 ?c24 ?k24 ?a25 ?l25 ?c25 ?k25 ?a26 ?l26 ?c26 ?k26 ?z_abs ?z_all ?z_any ?z_bool ?z_enumerate ?z_int ?z_isinstance ?z_len ?z_list ?z_min ?z_range ?z_set ?z_sorted ?z_tuple ?z_zip
    (case a0 => k_is); (case l0 => k_is); (case c0 => k_is); (case k0 => k_is); (case a1 => k_is); (case l1 => k_is); (case c1 => k_is); (case k1 => k_is); (case a2 => k_is); (case l2 => k_is); (case c2 => k_is); (case k2 => k_is); (case a3 => k_is); (case l3 => k_is); (case c3 => k_is); (case k3 => k_is); (case a4 => k_is); (case l4 => k_is); (case c4 => k_is); (case k4 => k_is); (case a5 => k_is); (case l5 => k_is); (case c5 => k_is); (case k5 => k_is); (case a6 => k_is); (case l6 => k_is); (case c6 => k_is); (case k6 => k_is); (case a7 => k_is); (case l7 => k_is); (case c7 => k_is); (case k7 => k_is); (case a8 => k_is); (case l8 => k_is); (case c8 => k_is); (case k8 => k_is); (case a9 => k_is); (case l9 => k_is); (case c9 => k_is); (case k9 => k_is); (case a10 => k_is); (case l10 => k_is); (case c10 => k_is); (case k10 => k_is); (case a11 => k_is); (case l11 => k_is); (case c11 => k_is); (case k11 => k_is); (case a12 => k_is); (case l12 => k_is); (case c12 => k_is); (case k12 => k_is); (case a13 => k_is); (case l13 => k_is); (case c13 => k_is); (case k13 => k_is); (case a14 => k_is); (case l14 => k_is); (case c14 => k_is); (case k14 => k_is); (case a15 => k_is); (case l15 => k_is); (case c15 => k_is); (case k15 => k_is); (case a16 => k_is); (case l16 => k_is); (case c16 => k_is); (case k16 => k_is); (case a17 => k_is); (case l17 => k_is); (case c17 => k_is); (case k17 => k_is); (case a18 => k_is); (case l18 => k_is); (case c18 => k_is); (case k18 => k_is); (case a19 => k_is); (case l19 => k_is); (case c19 => k_is); (case k19 => k_is); (case a20 => k_is); (case l20 => k_is); (case c20 => k_is); (case k20 => k_is); (case a21 => k_is); (case l21 => k_is); (case c21 => k_is); (case k21 => k_is); (case a22 => k_is); (case l22 => k_is); (case c22 => k_is); (case k22 => k_is); (case a23 => k_is); (case l23 => k_is); (case c23 => k_is); (case k23 => k_is); (case a24 => k_is); (case l24 => k_is); (case c24 => k_is); (case k24 => k_is); (case a25 => k_is); (case l25 => k_is); (case c25 => k_is); (case k25 => k_is); (case a26 => k_is); (case l26 => k_is); (case c26 => k_is); (case k26 => k_is); (case z_abs => k_is); (case z_all => k_is); (case z_any => k_is); (case z_bool => k_is); (case z_enumerate => k_is); (case z_int => k_is); (case z_isinstance => k_is); (case z_len => k_is); (case z_list => k_is); (case z_min => k_is); (case z_range => k_is); (case z_set => k_is); (case z_sorted => k_is); (case z_tuple => k_is); (case z_zip => k_is)
