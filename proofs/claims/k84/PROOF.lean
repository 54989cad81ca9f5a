import PyProof.Rows.All
import HandS.ForMost
import HandS.ForExc
import HandS.TupAny
import HandS.Wide
import HandS.Style
import HandS.IsInst
import HandS.CallLocal
import HandS.MakeKwOnly
import HandS.More
import HandS.Zip
import KE.GoesEnum
import KE.GoesMore
import HandS.Comp
import HandS.Defaults
import HandS.Words
import HandS.Head0
import HandS.Head1
import HandS.Head2
import HandS.HeadEnd
import HandS.HeadHook1
import HandS.HeadHook2
import PySem.Challenge.RW_gridstead_k84_clearing_judge_and_settlem
section SBvA
set_option linter.all false
set_option Elab.async false
open PySem L2
namespace Bv
/-- the attributes' names, by number -/
def attrNames : List Str := List.map Str.ofString ["_belief", "_done", "_limit", "_lines", "_log", "_moment", "_read", "_state", "_undone", "a", "allowance", "b", "backup", "balance", "bare", "beats", "bids", "black", "book", "burn", "burnt", "capacity", "charge", "clock", "count", "demands", "den", "event", "first", "flows", "found", "frail", "fuel", "handovers", "hold", "hour", "hours", "idle", "index", "islands", "k", "kind", "lag", "launch", "least", "limit", "line", "lines", "links", "live", "loads", "loss", "meters", "most", "node", "nodes", "num", "observation", "offers", "order", "orders", "outputs", "patience", "peak", "place", "plan", "plants", "power", "powers", "pulse", "pulses", "quant", "ramp", "rank", "rating", "reclose", "repair", "reserves", "rest", "rounds", "served", "share", "shed", "starved", "steps", "stores", "surplus", "targets", "tests", "tolerance", "total", "unit", "warm", "weathers", "weight", "whole", "word", "work", "world", "zones"]
def nm (k : Nat) : Str := attrNames.getD k ""
/-! values without the heap: D data, OT a tree of owned mutable objects, SV a slot -/
inductive D where
  | non | bl (b : Bool) | int (i : Int) | str (x : Str) | adr (a : Addr)
  | tup (xs : List D) | lst (xs : List D) | lsk (xs : List D) | dct (kvs : List (Key × D)) | ins (C : Addr) (fs : List (Nat × D))
inductive OT where
  | d (x : D) | l (xs : List OT) | k (kvs : List (Key × D)) | o (C : Addr) (fs : List (Nat × D))
inductive SV where
  | no | t (o : OT) | a (o : OT) | al (j : Nat) (p : List Nat)
abbrev Env := List SV

mutual
def Rep (K : PySem.W.Frag) (G : Hp) : D → V → Prop
  | .non, v => v = .non
  | .bl b, v => v = .bl b
  | .int i, v => v = .int i
  | .str x, v => v = .str x
  | .adr a, v => v = .ref a
  | .tup xs, v => ∃ a vs, v = .ref a ∧ SqT K G a vs ∧ RepL K G xs vs
  | .lst xs, v => ∃ a vs, v = .ref a ∧ Rd G a (.lst vs) ∧ RepL K G xs vs
  | .lsk xs, v => ∃ a vs, v = .ref a ∧ SqL K G a vs ∧ RepL K G xs vs
  | .dct kvs, v => ∃ a ws, v = .ref a ∧ G a = some (.dK ws) ∧ RepK K G kvs ws
  | .ins C fs, v => ∃ a dx ws, v = .ref a ∧ G a = some (.ins C dx ws) ∧ RepF K G fs ws
def RepL (K : PySem.W.Frag) (G : Hp) : List D → List V → Prop
  | [], vs => vs = []
  | x :: xs, vs => ∃ v r, vs = v :: r ∧ Rep K G x v ∧ RepL K G xs r
def RepK (K : PySem.W.Frag) (G : Hp) : List (Key × D) → List (Key × V) → Prop
  | [], vs => vs = []
  | (k, x) :: xs, vs => ∃ v r, vs = (k, v) :: r ∧ Rep K G x v ∧ RepK K G xs r
def RepF (K : PySem.W.Frag) (G : Hp) : List (Nat × D) → List (Str × V) → Prop
  | [], vs => vs = []
  | (k, x) :: xs, vs => ∃ v r, vs = (nm k, v) :: r ∧ Rep K G x v ∧ RepF K G xs r
end

section
variable {K : PySem.W.Frag} {G G' H H' F F' : Hp}
theorem same_rd {a : Addr} {u : HO} (e : Same G G') (h : Rd G a u) : Rd G' a u := by
  rcases h with h | ⟨o, h⟩
  · exact .inl (e _ _ h)
  · exact .inr ⟨o, e _ _ h⟩
theorem same_l {a : Addr} {xs : List V} (e : Same G G') (h : SqL K G a xs) : SqL K G' a xs := by
  rcases h with (h | ⟨o, h⟩) | h
  · exact .inl (.inl (e _ _ h))
  · exact .inl (.inr ⟨o, e _ _ h⟩)
  · exact .inr h
theorem same_t {a : Addr} {xs : List V} (e : Same G G') (h : SqT K G a xs) : SqT K G' a xs := by
  rcases h with (h | ⟨o, h⟩) | h
  · exact .inl (.inl (e _ _ h))
  · exact .inl (.inr ⟨o, e _ _ h⟩)
  · exact .inr h
mutual
theorem Rep.mono (e : Same G G') : ∀ (x : D) {v : V}, Rep K G x v → Rep K G' x v
  | .non, _, h => by simp only [Rep] at h ⊢; exact h
  | .bl _, _, h => by simp only [Rep] at h ⊢; exact h
  | .int _, _, h => by simp only [Rep] at h ⊢; exact h
  | .str _, _, h => by simp only [Rep] at h ⊢; exact h
  | .adr _, _, h => by simp only [Rep] at h ⊢; exact h
  | .tup xs, _, h => by
    simp only [Rep] at h ⊢
    obtain ⟨a, vs, e1, s, r⟩ := h
    exact ⟨a, vs, e1, same_t e s, RepL.mono e xs r⟩
  | .lst xs, _, h => by
    simp only [Rep] at h ⊢
    obtain ⟨a, vs, e1, s, r⟩ := h
    exact ⟨a, vs, e1, same_rd e s, RepL.mono e xs r⟩
  | .lsk xs, _, h => by
    simp only [Rep] at h ⊢
    obtain ⟨a, vs, e1, s, r⟩ := h
    exact ⟨a, vs, e1, same_l e s, RepL.mono e xs r⟩
  | .dct kvs, _, h => by
    simp only [Rep] at h ⊢
    obtain ⟨a, vs, e1, s, r⟩ := h
    exact ⟨a, vs, e1, e _ _ s, RepK.mono e kvs r⟩
  | .ins C fs, _, h => by
    simp only [Rep] at h ⊢
    obtain ⟨a, dx, vs, e1, s, r⟩ := h
    exact ⟨a, dx, vs, e1, e _ _ s, RepF.mono e fs r⟩
theorem RepL.mono (e : Same G G') : ∀ (xs : List D) {vs : List V}, RepL K G xs vs → RepL K G' xs vs
  | [], _, h => by simp only [RepL] at h ⊢; exact h
  | x :: xs, _, h => by
    simp only [RepL] at h ⊢
    obtain ⟨v, r, e1, h1, h2⟩ := h
    exact ⟨v, r, e1, Rep.mono e x h1, RepL.mono e xs h2⟩
theorem RepK.mono (e : Same G G') : ∀ (xs : List (Key × D)) {vs : List (Key × V)}, RepK K G xs vs → RepK K G' xs vs
  | [], _, h => by simp only [RepK] at h ⊢; exact h
  | (k, x) :: xs, _, h => by
    simp only [RepK] at h ⊢
    obtain ⟨v, r, e1, h1, h2⟩ := h
    exact ⟨v, r, e1, Rep.mono e x h1, RepK.mono e xs h2⟩
theorem RepF.mono (e : Same G G') : ∀ (xs : List (Nat × D)) {vs : List (Str × V)}, RepF K G xs vs → RepF K G' xs vs
  | [], _, h => by simp only [RepF] at h ⊢; exact h
  | (k, x) :: xs, _, h => by
    simp only [RepF] at h ⊢
    obtain ⟨v, r, e1, h1, h2⟩ := h
    exact ⟨v, r, e1, Rep.mono e x h1, RepF.mono e xs h2⟩
end
theorem RepL.length : ∀ {xs : List D} {vs : List V}, RepL K G xs vs → xs.length = vs.length
  | [], _, h => by simp only [RepL] at h; subst h; rfl
  | x :: xs, _, h => by
    simp only [RepL] at h
    obtain ⟨v, r, rfl, _, h2⟩ := h
    simp [RepL.length h2]
theorem RepL.get : ∀ {xs : List D} {vs : List V} {i : Nat} {x : D}, RepL K G xs vs → xs[i]? = some x → ∃ v, vs[i]? = some v ∧ Rep K G x v
  | [], _, _, _, _, h => by simp at h
  | y :: xs, _, i, x, h, hx => by
    simp only [RepL] at h
    obtain ⟨v, r, rfl, h1, h2⟩ := h
    cases i with
    | zero =>
      simp only [List.getElem?_cons_zero, Option.some.injEq] at hx
      subst hx
      exact ⟨v, rfl, h1⟩
    | succ i =>
      simp only [List.getElem?_cons_succ] at hx ⊢
      exact RepL.get h2 hx
theorem RepL.get' : ∀ {xs : List D} {vs : List V} {i : Nat} {v : V}, RepL K G xs vs → vs[i]? = some v → ∃ x, xs[i]? = some x ∧ Rep K G x v := fun {xs vs i v} h hv => by
  have hl := h.length
  have hi : i < xs.length := by rw [hl]; exact (List.getElem?_eq_some_iff.mp hv).1
  obtain ⟨v', e, r⟩ := h.get (List.getElem?_eq_getElem hi)
  rw [hv] at e; cases e
  exact ⟨_, List.getElem?_eq_getElem hi, r⟩
theorem RepL.append : ∀ {xs ys : List D} {vs ws : List V}, RepL K G xs vs → RepL K G ys ws → RepL K G (xs ++ ys) (vs ++ ws)
  | [], _, _, _, h, h' => by simp only [RepL] at h; subst h; exact h'
  | x :: xs, _, _, _, h, h' => by
    simp only [RepL] at h
    obtain ⟨v, r, rfl, h1, h2⟩ := h
    simp only [List.cons_append, RepL]
    exact ⟨v, _, rfl, h1, RepL.append h2 h'⟩
theorem RepL.nil : RepL K G [] [] := by simp only [RepL]
theorem RepL.cons {x : D} {v : V} {xs : List D} {vs : List V} (h : Rep K G x v) (h' : RepL K G xs vs) : RepL K G (x :: xs) (v :: vs) := by simp only [RepL]; exact ⟨v, vs, rfl, h, h'⟩
end

/-! ### attributes -/
theorem nm_inj {k k' : Nat} (h : k < 100) (e : nm k' = nm k) : k' = k := by
  have key : ∀ i, i < 100 → ∀ j, j < 100 → nm j = nm i → j = i := by decide +kernel
  have ne : ∀ i, i < 100 → nm i ≠ ("" : Str) := by decide +kernel
  rcases Nat.lt_or_ge k' 100 with q | q
  · exact key k h k' q e
  · exfalso
    have : nm k' = ("" : Str) := by
      unfold nm
      rw [List.getD_eq_getElem?_getD, List.getElem?_eq_none (by rw [show attrNames.length = 100 from by decide +kernel]; exact q)]; rfl
    exact ne k h (e ▸ this)
def getF (k : Nat) : List (Nat × D) → Option D
  | [] => none
  | (j, x) :: r => if j = k then some x else getF k r
def setF (k : Nat) (y : D) : List (Nat × D) → List (Nat × D)
  | [] => [(k, y)]
  | (j, x) :: r => if j = k then (j, y) :: r else (j, x) :: setF k y r
section
variable {K : PySem.W.Frag} {G : Hp}
theorem RepF.get {k : Nat} (hk : k < 100) : ∀ {fs : List (Nat × D)} {ws : List (Str × V)} {x : D}, RepF K G fs ws → getF k fs = some x → ∃ v, ws.lookup (nm k) = some v ∧ Rep K G x v
  | [], _, _, _, e => by simp [getF] at e
  | (j, y) :: r, _, x, h, e => by
    simp only [RepF] at h
    obtain ⟨v, r', rfl, h1, h2⟩ := h
    by_cases hj : j = k
    · subst hj
      simp only [getF, if_true, Option.some.injEq] at e
      subst e
      exact ⟨v, by simp, h1⟩
    · simp only [getF, hj, if_false] at e
      obtain ⟨w, e1, e2⟩ := RepF.get hk h2 e
      refine ⟨w, ?_, e2⟩
      have : (nm k == nm j) = false := by
        rw [beq_eq_false_iff_ne]
        intro z
        exact hj (nm_inj hk z.symm)
      rw [List.lookup_cons, this]
      exact e1
theorem RepF.put {k : Nat} (hk : k < 100) {y : D} {v : V} (hy : Rep K G y v) : ∀ {fs : List (Nat × D)} {ws : List (Str × V)}, RepF K G fs ws → RepF K G (setF k y fs) (putF (nm k) v ws)
  | [], _, h => by
    simp only [RepF] at h
    subst h
    simp only [setF, putF, RepF]
    exact ⟨v, [], rfl, hy, rfl⟩
  | (j, x) :: r, _, h => by
    simp only [RepF] at h
    obtain ⟨w, r', rfl, h1, h2⟩ := h
    by_cases hj : j = k
    · subst hj
      simp only [setF, putF, if_true, RepF]
      exact ⟨v, r', rfl, hy, h2⟩
    · have : nm j ≠ nm k := fun z => hj (nm_inj hk z)
      simp only [setF, putF, hj, this, if_false, RepF]
      exact ⟨w, _, rfl, h1, RepF.put hk hy h2⟩
theorem RepF.length : ∀ {fs : List (Nat × D)} {ws : List (Str × V)}, RepF K G fs ws → fs.length = ws.length
  | [], _, h => by simp only [RepF] at h; subst h; rfl
  | (j, x) :: r, _, h => by
    simp only [RepF] at h
    obtain ⟨w, r', rfl, h1, h2⟩ := h
    simp [RepF.length h2]
end

/-! ### trees of owned objects -/
mutual
def res : OT → D
  | .d x => x
  | .l xs => .lst (resL xs)
  | .k kvs => .dct kvs
  | .o C fs => .ins C fs
def resL : List OT → List D
  | [] => []
  | x :: xs => res x :: resL xs
end
mutual
def TR (K : PySem.W.Frag) (G F H : Hp) : OT → V → List Addr → Prop
  | .d x, v, fp => Rep K G x v ∧ fp = []
  | .l xs, v, fp => ∃ a vs f, v = .ref a ∧ fp = a :: f ∧ H a = some (.lst vs) ∧ G a = none ∧ F a = none ∧ TRL K G F H xs vs f
  | .k kvs, v, fp => ∃ a ws, v = .ref a ∧ fp = [a] ∧ H a = some (.dK ws) ∧ G a = none ∧ F a = none ∧ RepK K G kvs ws
  | .o C fs, v, fp => ∃ a dx ws, v = .ref a ∧ fp = [a] ∧ H a = some (.ins C dx ws) ∧ G a = none ∧ F a = none ∧ RepF K G fs ws
def TRL (K : PySem.W.Frag) (G F H : Hp) : List OT → List V → List Addr → Prop
  | [], vs, fp => vs = [] ∧ fp = []
  | x :: xs, vs, fp => ∃ v r f1 f2, vs = v :: r ∧ fp = f1 ++ f2 ∧ TR K G F H x v f1 ∧ TRL K G F H xs r f2
end
/-- F with what H has at fp -/
def addF (F H : Hp) (fp : List Addr) : Hp := fun a => if a ∈ fp then H a else F a
section
variable {K : PySem.W.Frag} {G G' H H' F F' : Hp}
mutual
theorem TR.frame : ∀ (o : OT) {v : V} {fp : List Addr}, TR K G F H o v fp → Same G G' → (∀ a ∈ fp, H' a = H a ∧ G' a = none ∧ F' a = none) → TR K G' F' H' o v fp
  | .d x, _, _, h, e, _ => by
    simp only [TR] at h ⊢
    exact ⟨h.1.mono e, h.2⟩
  | .l xs, _, _, h, e, k => by
    simp only [TR] at h ⊢
    obtain ⟨a, vs, f, e1, rfl, h1, h2, h3, h4⟩ := h
    obtain ⟨k1, k2, k3⟩ := k a List.mem_cons_self
    exact ⟨a, vs, f, e1, rfl, k1.trans h1, k2, k3, TRL.frame xs h4 e fun b hb => k b (List.mem_cons_of_mem _ hb)⟩
  | .k kvs, _, _, h, e, k => by
    simp only [TR] at h ⊢
    obtain ⟨a, ws, e1, rfl, h1, h2, h3, h4⟩ := h
    obtain ⟨k1, k2, k3⟩ := k a List.mem_cons_self
    exact ⟨a, ws, e1, rfl, k1.trans h1, k2, k3, h4.mono e⟩
  | .o C fs, _, _, h, e, k => by
    simp only [TR] at h ⊢
    obtain ⟨a, dx, ws, e1, rfl, h1, h2, h3, h4⟩ := h
    obtain ⟨k1, k2, k3⟩ := k a List.mem_cons_self
    exact ⟨a, dx, ws, e1, rfl, k1.trans h1, k2, k3, h4.mono e⟩
theorem TRL.frame : ∀ (xs : List OT) {vs : List V} {fp : List Addr}, TRL K G F H xs vs fp → Same G G' → (∀ a ∈ fp, H' a = H a ∧ G' a = none ∧ F' a = none) → TRL K G' F' H' xs vs fp
  | [], _, _, h, _, _ => by simp only [TRL] at h ⊢; exact h
  | x :: xs, _, _, h, e, k => by
    simp only [TRL] at h ⊢
    obtain ⟨v, r, f1, f2, e1, rfl, h1, h2⟩ := h
    exact ⟨v, r, f1, f2, e1, rfl, TR.frame x h1 e fun b hb => k b (List.mem_append_left _ hb), TRL.frame xs h2 e fun b hb => k b (List.mem_append_right _ hb)⟩
end
mutual
theorem TR.own : ∀ (o : OT) {v : V} {fp : List Addr}, TR K G F H o v fp → ∀ a ∈ fp, (∃ u, H a = some u) ∧ G a = none ∧ F a = none
  | .d x, _, _, h, a, ha => by
    simp only [TR] at h
    rw [h.2] at ha; cases ha
  | .l xs, _, _, h, a, ha => by
    simp only [TR] at h
    obtain ⟨a', vs, f, e1, rfl, h1, h2, h3, h4⟩ := h
    rcases List.mem_cons.mp ha with rfl | ha
    · exact ⟨⟨_, h1⟩, h2, h3⟩
    · exact TRL.own xs h4 a ha
  | .k kvs, _, _, h, a, ha => by
    simp only [TR] at h
    obtain ⟨a', ws, e1, rfl, h1, h2, h3, h4⟩ := h
    rcases List.mem_cons.mp ha with rfl | ha
    · exact ⟨⟨_, h1⟩, h2, h3⟩
    · cases ha
  | .o C fs, _, _, h, a, ha => by
    simp only [TR] at h
    obtain ⟨a', dx, ws, e1, rfl, h1, h2, h3, h4⟩ := h
    rcases List.mem_cons.mp ha with rfl | ha
    · exact ⟨⟨_, h1⟩, h2, h3⟩
    · cases ha
theorem TRL.own : ∀ (xs : List OT) {vs : List V} {fp : List Addr}, TRL K G F H xs vs fp → ∀ a ∈ fp, (∃ u, H a = some u) ∧ G a = none ∧ F a = none
  | [], _, _, h, a, ha => by simp only [TRL] at h; rw [h.2] at ha; cases ha
  | x :: xs, _, _, h, a, ha => by
    simp only [TRL] at h
    obtain ⟨v, r, f1, f2, e1, rfl, h1, h2⟩ := h
    rcases List.mem_append.mp ha with ha | ha
    · exact TR.own x h1 a ha
    · exact TRL.own xs h2 a ha
end
theorem addF_in {fp : List Addr} {a : Addr} (h : a ∈ fp) : addF F H fp a = H a := if_pos h
theorem addF_out {fp : List Addr} {a : Addr} (h : a ∉ fp) : addF F H fp a = F a := if_neg h
theorem addF_same {fp : List Addr} (h : Same F H) : Same (addF F H fp) H := fun a o e => by
  by_cases ha : a ∈ fp
  · rw [addF_in ha] at e; exact e
  · rw [addF_out ha] at e; exact h a o e
theorem addF_le {fp : List Addr} (h : ∀ a ∈ fp, F a = none) : Same F (addF F H fp) := fun a o e => by
  by_cases ha : a ∈ fp
  · rw [h a ha] at e; cases e
  · rw [addF_out ha]; exact e
mutual
/-- frozen: the tree's objects are data from now on -/
theorem TR.freezeG : ∀ (o : OT) {v : V} {fp : List Addr}, TR K G F H o v fp → Same G G' → (∀ a ∈ fp, G' a = H a) → Rep K G' (res o) v
  | .d x, _, _, h, e, k => by
    simp only [TR] at h
    exact h.1.mono e
  | .l xs, _, _, h, e, k => by
    simp only [TR] at h
    obtain ⟨a, vs, f, e1, rfl, h1, h2, h3, h4⟩ := h
    simp only [res, Rep]
    exact ⟨a, vs, e1, Rd.of ((k a List.mem_cons_self).trans h1), TRL.freezeG xs h4 e fun b hb => k b (List.mem_cons_of_mem _ hb)⟩
  | .k kvs, _, _, h, e, k => by
    simp only [TR] at h
    obtain ⟨a, ws, e1, rfl, h1, h2, h3, h4⟩ := h
    simp only [res, Rep]
    exact ⟨a, ws, e1, (k a List.mem_cons_self).trans h1, h4.mono e⟩
  | .o C fs, _, _, h, e, k => by
    simp only [TR] at h
    obtain ⟨a, dx, ws, e1, rfl, h1, h2, h3, h4⟩ := h
    simp only [res, Rep]
    exact ⟨a, dx, ws, e1, (k a List.mem_cons_self).trans h1, h4.mono e⟩
theorem TRL.freezeG : ∀ (xs : List OT) {vs : List V} {fp : List Addr}, TRL K G F H xs vs fp → Same G G' → (∀ a ∈ fp, G' a = H a) → RepL K G' (resL xs) vs
  | [], _, _, h, _, _ => by
    simp only [TRL] at h
    simp only [resL, RepL]
    exact h.1
  | x :: xs, _, _, h, e, k => by
    simp only [TRL] at h
    obtain ⟨v, r, f1, f2, e1, rfl, h1, h2⟩ := h
    simp only [resL, RepL]
    exact ⟨v, r, e1, TR.freezeG x h1 e fun b hb => k b (List.mem_append_left _ hb), TRL.freezeG xs h2 e fun b hb => k b (List.mem_append_right _ hb)⟩
end
end

/-! ### nodes of trees -/
def nodeAt : List Nat → OT → Option OT
  | [], o => some o
  | i :: p, o => match o with
    | .l xs => match xs[i]? with
      | some x => nodeAt p x
      | none => none
    | _ => none
def nodeSet : List Nat → OT → OT → OT
  | [], _, y => y
  | i :: p, o, y => match o with
    | .l xs => match xs[i]? with
      | some x => .l (xs.set i (nodeSet p x y))
      | none => .l xs
    | _ => o
def walk (H : Hp) : V → List Nat → Option V
  | v, [] => some v
  | .ref a, i :: p => match H a with
    | some (.lst vs) => match vs[i]? with
      | some w => walk H w p
      | none => none
    | _ => none
  | _, _ :: _ => none
section
variable {K : PySem.W.Frag} {G G' H H' F F' : Hp}
theorem TRL.length : ∀ {xs : List OT} {vs : List V} {fp : List Addr}, TRL K G F H xs vs fp → xs.length = vs.length
  | [], _, _, h => by simp only [TRL] at h; rw [h.1]; rfl
  | x :: xs, _, _, h => by
    simp only [TRL] at h
    obtain ⟨v, r, f1, f2, rfl, _, _, h2⟩ := h
    simp [TRL.length h2]
theorem TRL.get : ∀ {xs : List OT} {vs : List V} {fp : List Addr} {i : Nat} {x : OT}, TRL K G F H xs vs fp → xs[i]? = some x → ∃ v f, vs[i]? = some v ∧ TR K G F H x v f ∧ (∀ a ∈ f, a ∈ fp) ∧ (fp.Nodup → f.Nodup)
  | [], _, _, _, _, _, h => by simp at h
  | y :: xs, _, _, i, x, h, hx => by
    simp only [TRL] at h
    obtain ⟨v, r, f1, f2, rfl, rfl, h1, h2⟩ := h
    cases i with
    | zero =>
      simp only [List.getElem?_cons_zero, Option.some.injEq] at hx
      subst hx
      exact ⟨v, f1, rfl, h1, fun a ha => List.mem_append_left _ ha, fun n => (List.nodup_append.mp n).1⟩
    | succ i =>
      simp only [List.getElem?_cons_succ] at hx ⊢
      obtain ⟨w, f, e1, e2, e3, e4⟩ := TRL.get h2 hx
      exact ⟨w, f, e1, e2, fun a ha => List.mem_append_right _ (e3 a ha), fun n => e4 (List.nodup_append.mp n).2.1⟩
theorem TR.at : ∀ {p : List Nat} {o o' : OT} {v : V} {fp : List Addr}, TR K G F H o v fp → nodeAt p o = some o' → ∃ w f, walk H v p = some w ∧ TR K G F H o' w f ∧ (∀ a ∈ f, a ∈ fp) ∧ (fp.Nodup → f.Nodup)
  | [], o, o', v, fp, h, e => by
    simp only [nodeAt, Option.some.injEq] at e
    subst e
    exact ⟨v, fp, (by cases v <;> rfl), h, fun _ z => z, fun n => n⟩
  | i :: p, o, o', v, fp, h, e => by
    cases o with
    | l xs =>
      simp only [nodeAt] at e
      cases hx : xs[i]? with
      | none => rw [hx] at e; cases e
      | some x =>
        rw [hx] at e
        simp only [TR] at h
        obtain ⟨a, vs, f, rfl, rfl, h1, h2, h3, h4⟩ := h
        obtain ⟨w, g, e1, e2, e3, e4⟩ := h4.get hx
        obtain ⟨w', g', e5, e6, e7, e8⟩ := TR.at (p := p) e2 e
        refine ⟨w', g', ?_, e6, fun b hb => List.mem_cons_of_mem _ (e3 b (e7 b hb)), fun n => e8 (e4 (List.nodup_cons.mp n).2)⟩
        simp only [walk, h1, e1]
        exact e5
    | d x => simp [nodeAt] at e
    | k x => simp [nodeAt] at e
    | o C x => simp [nodeAt] at e
end
end Bv
end SBvA
section SBvB
set_option linter.all false
set_option Elab.async false
open PySem L2
namespace Bv
def sget : Env → Nat → SV
  | [], _ => .no
  | x :: _, 0 => x
  | _ :: r, n + 1 => sget r n
def sset : Env → Nat → SV → Env
  | [], _, _ => []
  | _ :: r, 0, y => y :: r
  | x :: r, n + 1, y => x :: sset r n y
def treeOf (env : Env) (j : Nat) : Option OT := match sget env j with
  | .t o => some o
  | .a o => some o
  | _ => none
/-- the same kind of slot with another tree -/
def SV.put : SV → OT → SV
  | .a _, o => .a o
  | _, o => .t o
def clr1 (j : Nat) : SV → SV
  | .al k p => if k = j then .no else .al k p
  | x => x
def clr (j : Nat) (env : Env) : Env := env.map (clr1 j)
theorem sget_of_le : ∀ {env : Env} {i : Nat}, env.length ≤ i → sget env i = .no
  | [], _, _ => rfl
  | x :: r, 0, h => absurd h (by simp)
  | x :: r, i + 1, h => sget_of_le (env := r) (by simpa using h)
theorem sget_sset_self : ∀ {env : Env} {i : Nat} {y : SV}, i < env.length → sget (sset env i y) i = y
  | [], i, _, h => absurd h (by simp)
  | x :: r, 0, _, _ => rfl
  | x :: r, i + 1, _, h => sget_sset_self (env := r) (by simpa using h)
theorem sget_sset_ne : ∀ {env : Env} {i j : Nat} {y : SV}, i ≠ j → sget (sset env i y) j = sget env j
  | [], i, j, _, _ => by cases i <;> rfl
  | x :: r, 0, 0, _, h => absurd rfl h
  | x :: r, 0, j + 1, _, _ => rfl
  | x :: r, i + 1, 0, _, _ => rfl
  | x :: r, i + 1, j + 1, _, h => sget_sset_ne (env := r) (by omega)
theorem sset_length : ∀ {env : Env} {i : Nat} {y : SV}, (sset env i y).length = env.length
  | [], i, _ => by cases i <;> rfl
  | x :: r, 0, _ => rfl
  | x :: r, i + 1, _ => by simp [sset, sset_length]
theorem sget_map {f : SV → SV} (h : f .no = .no) : ∀ {env : Env} {i : Nat}, sget (env.map f) i = f (sget env i)
  | [], i => by cases i <;> exact h.symm
  | x :: r, 0 => rfl
  | x :: r, i + 1 => sget_map h (env := r)
theorem sget_clr {j : Nat} {env : Env} {i : Nat} : sget (clr j env) i = clr1 j (sget env i) := sget_map rfl
theorem clr_length {j : Nat} {env : Env} : (clr j env).length = env.length := by simp [clr]

def SlotOk (K : PySem.W.Frag) (G F H : Hp) (s0 : St) (env : Env) (σ : St) (fp : List Addr) (i : Nat) : SV → Prop
  | .no => fp = []
  | .t o => ∃ v, σ[i]? = some (some v) ∧ TR K G F H o v fp
  | .a o => ∃ v, σ[i]? = some (some v) ∧ s0[i]? = some (some v) ∧ TR K G F H o v fp
  | .al j p => fp = [] ∧ ∃ o o' v0 v, treeOf env j = some o ∧ nodeAt p o = some o' ∧ σ[j]? = some (some v0) ∧ walk H v0 p = some v ∧ σ[i]? = some (some v)

structure Sim (K : PySem.W.Frag) (F G H : Hp) (s0 : St) (env : Env) (σ : St) (fp : Nat → List Addr) : Prop where
  gh : Same G H
  fh : Same F H
  nd : ∀ i, (fp i).Nodup
  dj : ∀ i j a, a ∈ fp i → a ∈ fp j → i = j
  sl : ∀ i, SlotOk K G F H s0 env σ (fp i) i (sget env i)
  len : env.length = σ.length
section
variable {K : PySem.W.Frag} {G G' H H' F F' : Hp} {s0 σ : St} {env : Env} {fp : Nat → List Addr}
/-- an owned slot's tree -/
theorem Sim.tree {j : Nat} {o : OT} (S : Sim K F G H s0 env σ fp) (h : treeOf env j = some o) : ∃ v, σ[j]? = some (some v) ∧ TR K G F H o v (fp j) := by
  have q := S.sl j
  unfold treeOf at h
  cases e : sget env j with
  | no => rw [e] at h; cases h
  | t o' =>
    rw [e] at h q; cases h
    exact q
  | a o' =>
    rw [e] at h q; cases h
    obtain ⟨v, h1, _, h3⟩ := q
    exact ⟨v, h1, h3⟩
  | al k p => rw [e] at h; cases h
theorem Sim.own {j : Nat} {a : Addr} (S : Sim K F G H s0 env σ fp) (h : a ∈ fp j) : (∃ u, H a = some u) ∧ G a = none ∧ F a = none := by
  have q := S.sl j
  cases e : sget env j with
  | no => rw [e] at q; rw [show fp j = [] from q] at h; cases h
  | t o' =>
    rw [e] at q
    obtain ⟨v, _, h3⟩ := q
    exact h3.own o' a h
  | a o' =>
    rw [e] at q
    obtain ⟨v, _, _, h3⟩ := q
    exact h3.own o' a h
  | al k p => rw [e] at q; rw [show fp j = [] from q.1] at h; cases h
theorem walk_congr : ∀ {p : List Nat} {o o' : OT} {v : V} {f : List Addr}, TR K G F H o v f → nodeAt p o = some o' → (∀ a ∈ f, H' a = H a) → walk H' v p = walk H v p
  | [], o, o', v, f, _, _, _ => by cases v <;> rfl
  | i :: p, o, o', v, f, h, e, k => by
    cases o with
    | l xs =>
      simp only [nodeAt] at e
      cases hx : xs[i]? with
      | none => rw [hx] at e; cases e
      | some x =>
        rw [hx] at e
        simp only [TR] at h
        obtain ⟨a, vs, f', rfl, rfl, h1, h2, h3, h4⟩ := h
        obtain ⟨w, g, e1, e2, e3, e4⟩ := h4.get hx
        have hk := k a List.mem_cons_self
        simp only [walk, hk, h1, e1]
        exact walk_congr e2 e fun b hb => k b (List.mem_cons_of_mem _ (e3 b hb))
    | d x => simp [nodeAt] at e
    | k x => simp [nodeAt] at e
    | o C x => simp [nodeAt] at e
/-- the heap moves on, the owned objects as they were -/
theorem Sim.grow (S : Sim K F G H s0 env σ fp) (gg : Same G G') (gh : Same G' H') (fh : Same F' H') (k : ∀ i a, a ∈ fp i → H' a = H a ∧ G' a = none ∧ F' a = none) : Sim K F' G' H' s0 env σ fp := by
  refine ⟨gh, fh, S.nd, S.dj, fun i => ?_, S.len⟩
  have q := S.sl i
  revert q
  cases sget env i with
  | no => exact fun q => q
  | t o => exact fun ⟨v, h1, h2⟩ => ⟨v, h1, h2.frame o gg (k i)⟩
  | a o => exact fun ⟨v, h1, h0, h2⟩ => ⟨v, h1, h0, h2.frame o gg (k i)⟩
  | al j p =>
    rintro ⟨h0, o, o', v0, v, h1, h2, h3, h4, h5⟩
    obtain ⟨v1, e1, t1⟩ := S.tree h1
    rw [h3] at e1; cases e1
    exact ⟨h0, o, o', v0, v, h1, h2, h3, (walk_congr t1 h2 fun a ha => (k j a ha).1).trans h4, h5⟩
theorem Sim.ne_new {p : Addr} (S : Sim K F G H s0 env σ fp) (hp : H p = none) : ∀ i a, a ∈ fp i → a ≠ p := fun i a ha e => by
  obtain ⟨⟨u, hu⟩, _⟩ := S.own ha
  rw [e, hp] at hu; cases hu
theorem Same.fresh {p : Addr} (g : Same G H) (hp : H p = none) : G p = none := by
  cases e : G p with
  | none => rfl
  | some o => rw [g p o e] at hp; cases hp
theorem Same.upd_new {p : Addr} {o : HO} (g : Same G H) (hp : H p = none) : Same G (upd H p o) := fun a u e => by
  rw [upd_ne (ne_of_none (g a u e) hp)]; exact g a u e
theorem Same.upd_both {p : Addr} {o : HO} (g : Same G H) : Same (upd G p o) (upd H p o) := fun a u e => by
  by_cases h : a = p
  · subst h; rw [upd_same] at e ⊢; exact e
  · rw [upd_ne h] at e ⊢; exact g a u e
/-- a new object of data -/
theorem Sim.data {p : Addr} {o : HO} (S : Sim K F G H s0 env σ fp) (hp : H p = none) : Sim K F (upd G p o) (upd H p o) s0 env σ fp := by
  have hg := Same.fresh S.gh hp
  refine S.grow (Same.upd_new (Same.refl G) hg) (Same.upd_both S.gh) (Same.upd_new S.fh hp) fun i a ha => ?_
  have ne := S.ne_new hp i a ha
  obtain ⟨_, h2, h3⟩ := S.own ha
  exact ⟨upd_ne ne, (upd_ne ne).trans h2, h3⟩
/-- what grows: G by new objects alone -/
def Gle (F G G' : Hp) : Prop := Same G G' ∧ ∀ a, F a ≠ none → G' a = G a
theorem Gle.refl (F G : Hp) : Gle F G G := ⟨Same.refl G, fun _ _ => rfl⟩
theorem Gle.trans {G1 : Hp} (a : Gle F G G1) (b : Gle F G1 G') : Gle F G G' := ⟨a.1.trans b.1, fun x h => (b.2 x h).trans (a.2 x h)⟩
theorem Gle.data {p : Addr} {o : HO} (fh : Same F H) (gh : Same G H) (hp : H p = none) : Gle F G (upd G p o) :=
  ⟨Same.upd_new (Same.refl G) (Same.fresh gh hp), fun a ha => upd_ne fun e => by
    subst e
    exact ha (Same.fresh fh hp)⟩
theorem Gle.anti (h : Same F F') (g : Gle F' G G') : Gle F G G' := ⟨g.1, fun a ha => g.2 a fun e => by
  cases q : F a with
  | none => exact ha q
  | some o => rw [h a o q] at e; cases e⟩
/-- F with a temporary's objects -/
theorem Sim.unF {f : List Addr} (S : Sim K (addF F H f) G H s0 env σ fp) (hf : ∀ a ∈ f, F a = none) : Sim K F G H s0 env σ fp :=
  S.grow (Same.refl G) S.gh (fun a o e => S.fh a o (addF_le hf a o e)) fun i a ha => by
    obtain ⟨h1, h2, h3⟩ := S.own ha
    refine ⟨rfl, h2, ?_⟩
    cases q : F a with
    | none => rfl
    | some o => rw [addF_le hf a o q] at h3; cases h3
theorem Sim.notin {f : List Addr} (S : Sim K (addF F H f) G H s0 env σ fp) : ∀ i a, a ∈ fp i → a ∉ f := fun i a ha hf => by
  obtain ⟨⟨u, hu⟩, _, h3⟩ := S.own ha
  rw [addF_in hf, hu] at h3; cases h3
/-- a temporary is frozen -/
theorem Sim.freezeT {f : List Addr} {t : OT} {v : V} (S : Sim K (addF F H f) G H s0 env σ fp) (T : TR K G F H t v f) : Sim K F (addF G H f) H s0 env σ fp ∧ Rep K (addF G H f) (res t) v ∧ Gle F G (addF G H f) := by
  have ow := T.own t
  have g1 : Same G (addF G H f) := addF_le fun a ha => (ow a ha).2.1
  have S1 := S.unF fun a ha => (ow a ha).2.2
  refine ⟨S1.grow g1 (addF_same S1.gh) S1.fh fun i a ha => ?_, T.freezeG t g1 fun a ha => addF_in ha, g1, fun a ha => addF_out fun hf => ha (ow a hf).2.2⟩
  obtain ⟨h1, h2, h3⟩ := S1.own ha
  exact ⟨rfl, (addF_out (S.notin i a ha)).trans h2, h3⟩
/-- a new owned object, a temporary -/
theorem Sim.temp {p : Addr} {o : HO} (S : Sim K F G H s0 env σ fp) (hp : H p = none) : Sim K (addF F (upd H p o) [p]) G (upd H p o) s0 env σ fp := by
  refine S.grow (Same.refl G) (Same.upd_new S.gh hp) (addF_same (Same.upd_new S.fh hp)) fun i a ha => ?_
  have ne := S.ne_new hp i a ha
  obtain ⟨_, h2, h3⟩ := S.own ha
  exact ⟨upd_ne ne, h2, (addF_out (by simpa using ne)).trans h3⟩
theorem treeOf_cases {j : Nat} {o : OT} (h : treeOf env j = some o) : sget env j = .t o ∨ sget env j = .a o := by
  unfold treeOf at h
  revert h
  cases sget env j with
  | no => intro h; cases h
  | t o' => intro h; cases h; exact .inl rfl
  | a o' => intro h; cases h; exact .inr rfl
  | al k p => intro h; cases h
theorem treeOf_sset_ne {i j : Nat} {y : SV} (h : i ≠ j) : treeOf (sset env i y) j = treeOf env j := by unfold treeOf; rw [sget_sset_ne h]
theorem treeOf_clr {i j : Nat} : treeOf (clr i env) j = treeOf env j := by
  unfold treeOf; rw [sget_clr]
  cases sget env j with
  | al k p => by_cases hk : k = i <;> simp [clr1, hk]
  | _ => rfl
def fpSet (fp : Nat → List Addr) (i : Nat) (f : List Addr) : Nat → List Addr := fun j => if j = i then f else fp j
theorem fpSet_self {i : Nat} {f : List Addr} : fpSet fp i f i = f := if_pos rfl
theorem fpSet_ne {i j : Nat} {f : List Addr} (h : j ≠ i) : fpSet fp i f j = fp j := if_neg h
/-- slot i gets another content; aliases of it are forgotten -/
theorem Sim.put {i : Nat} {y : SV} {σ' : St} {f : List Addr} (S : Sim K F G H s0 env σ fp) (hi : i < env.length) (hl : σ'.length = σ.length) (hσ : ∀ j, j ≠ i → σ'[j]? = σ[j]?)
    (nf : f.Nodup) (df : ∀ j a, j ≠ i → a ∈ fp j → a ∉ f) (hy : SlotOk K G F H s0 (sset (clr i env) i y) σ' f i y) (hn : ∀ k p, y = .al k p → k ≠ i) : Sim K F G H s0 (sset (clr i env) i y) σ' (fpSet fp i f) := by
  refine ⟨S.gh, S.fh, fun j => ?_, fun j k a h1 h2 => ?_, fun j => ?_, by rw [sset_length, clr_length, S.len, hl]⟩
  · by_cases h : j = i
    · subst h; rw [fpSet_self]; exact nf
    · rw [fpSet_ne h]; exact S.nd j
  · by_cases h : j = i
    · by_cases h' : k = i
      · rw [h, h']
      · subst h
        rw [fpSet_self] at h1
        rw [fpSet_ne h'] at h2
        exact absurd h1 (df k a h' h2)
    · by_cases h' : k = i
      · subst h'
        rw [fpSet_self] at h2
        rw [fpSet_ne h] at h1
        exact absurd h2 (df j a h h1)
      · rw [fpSet_ne h] at h1; rw [fpSet_ne h'] at h2
        exact S.dj j k a h1 h2
  · by_cases h : j = i
    · subst h
      rw [fpSet_self, sget_sset_self (by rw [clr_length]; exact hi)]
      exact hy
    · rw [fpSet_ne h, sget_sset_ne (Ne.symm h), sget_clr]
      have q := S.sl j
      revert q
      cases sget env j with
      | no => exact fun q => q
      | t o => exact fun ⟨v, h1, h2⟩ => ⟨v, by rw [hσ j h]; exact h1, h2⟩
      | a o => exact fun ⟨v, h1, h0, h2⟩ => ⟨v, by rw [hσ j h]; exact h1, h0, h2⟩
      | al k p =>
        rintro ⟨h0, o, o', v0, v, h1, h2, h3, h4, h5⟩
        by_cases hk : k = i
        · simp only [clr1, hk, if_true]
          exact h0
        · simp only [clr1, hk, if_false]
          exact ⟨h0, o, o', v0, v, by rw [treeOf_sset_ne (Ne.symm hk), treeOf_clr]; exact h1, h2, by rw [hσ k hk]; exact h3, h4, by rw [hσ j h]; exact h5⟩
theorem SlotOk.env_ {env' : Env} {f : List Addr} {i : Nat} {y : SV} (h : SlotOk K G F H s0 env σ f i y) (hy : ∀ k p, y ≠ .al k p) : SlotOk K G F H s0 env' σ f i y := by
  cases y with
  | al k p => exact absurd rfl (hy k p)
  | _ => exact h
/-- a slot's tree is frozen -/
theorem Sim.freezeS {j : Nat} {o : OT} (S : Sim K F G H s0 env σ fp) (h : treeOf env j = some o) :
    Sim K F (addF G H (fp j)) H s0 (sset (clr j env) j ((sget env j).put (.d (res o)))) σ (fpSet fp j []) ∧ Gle F G (addF G H (fp j)) ∧ ∃ v, σ[j]? = some (some v) ∧ Rep K (addF G H (fp j)) (res o) v := by
  obtain ⟨v, hv, T⟩ := S.tree h
  have ow := T.own o
  have g1 : Same G (addF G H (fp j)) := addF_le fun a ha => (ow a ha).2.1
  have R := T.freezeG o g1 fun a ha => addF_in ha
  have gl : Gle F G (addF G H (fp j)) := ⟨g1, fun a ha => addF_out fun hf => ha (ow a hf).2.2⟩
  have hj : j < env.length := by
    rcases Nat.lt_or_ge j env.length with q | q
    · exact q
    · unfold treeOf at h; rw [sget_of_le q] at h; cases h
  -- first the slot becomes data, then G grows
  have S1 : Sim K F G H s0 (sset (clr j env) j .no) σ (fpSet fp j []) := S.put hj rfl (fun _ _ => rfl) List.nodup_nil (fun _ _ _ _ => by simp) rfl (fun _ _ q => nomatch q)
  have S2 : Sim K F (addF G H (fp j)) H s0 (sset (clr j env) j .no) σ (fpSet fp j []) := S1.grow g1 (addF_same S.gh) S.fh fun i a ha => by
    by_cases hi : i = j
    · subst hi; rw [fpSet_self] at ha; cases ha
    · rw [fpSet_ne hi] at ha
      obtain ⟨_, h2, h3⟩ := S.own ha
      exact ⟨rfl, (addF_out fun hf => hi (S.dj i j a ha hf)).trans h2, h3⟩
  have hy : SlotOk K (addF G H (fp j)) F H s0 (sset (clr j (sset (clr j env) j .no)) j ((sget env j).put (.d (res o)))) σ [] j ((sget env j).put (.d (res o))) := by
    have q := S.sl j
    rcases treeOf_cases h with e | e
    · rw [e]; exact ⟨v, hv, by simp only [TR]; exact ⟨R, trivial⟩⟩
    · rw [e] at q ⊢
      obtain ⟨v', e1, e0, _⟩ := q
      rw [hv] at e1; cases e1
      exact ⟨v, hv, e0, by simp only [TR]; exact ⟨R, trivial⟩⟩
  have S3 := S2.put (i := j) (y := (sget env j).put (.d (res o))) (σ' := σ) (f := []) (by rw [sset_length, clr_length]; exact hj) rfl (fun _ _ => rfl) List.nodup_nil (fun _ _ _ _ => by simp) hy (by
    intro k p q
    rcases treeOf_cases h with e | e <;> (rw [e] at q; cases q))
  have ee : sset (clr j (sset (clr j env) j .no)) j ((sget env j).put (.d (res o))) = sset (clr j env) j ((sget env j).put (.d (res o))) := by
    have c1 : clr j (sset (clr j env) j .no) = sset (clr j env) j .no := by
      have : ∀ (e : Env) (n : Nat), clr j (sset (clr j e) n .no) = sset (clr j e) n .no := by
        intro e
        induction e with
        | nil => intro n; cases n <;> rfl
        | cons x r ih =>
          have cc : ∀ x, clr1 j (clr1 j x) = clr1 j x := by
            intro x
            cases x with
            | al k p =>
              by_cases hk : k = j
              · simp [clr1, hk]
              · simp [clr1, hk]
            | _ => rfl
          have cm : ∀ l : Env, clr j (clr j l) = clr j l := by intro l; simp [clr, cc]
          intro n
          cases n with
          | zero => show clr1 j .no :: clr j (clr j r) = .no :: clr j r; rw [cm]; rfl
          | succ n => show clr1 j (clr1 j x) :: clr j (sset (clr j r) n .no) = clr1 j x :: sset (clr j r) n .no; rw [cc, ih]
      exact this env j
    have ss : ∀ (e : Env) (n : Nat) (a b : SV), sset (sset e n a) n b = sset e n b := by
      intro e
      induction e with
      | nil => intro n a b; cases n <;> rfl
      | cons x r ih => intro n a b; cases n with
        | zero => rfl
        | succ n => show x :: sset (sset r n a) n b = x :: sset r n b; rw [ih]
    rw [c1, ss]
  have ff : fpSet (fpSet fp j []) j [] = fpSet fp j [] := by
    funext k; by_cases hk : k = j
    · subst hk; rw [fpSet_self, fpSet_self]
    · rw [fpSet_ne hk]
  rw [ee, ff] at S3
  exact ⟨S3, gl, v, hv, R⟩
end
end Bv
end SBvB
section SBvC
set_option linter.all false
set_option Elab.async false
open PySem L2
namespace Bv
/-- q goes on beyond p -/
def sx : List Nat → List Nat → Bool
  | [], [] => false
  | [], _ :: _ => true
  | i :: p, j :: q => i == j && sx p q
  | _ :: _, [] => false
def clrx1 (j : Nat) (p : List Nat) : SV → SV
  | .al k q => if k = j then (if sx p q = true then .no else .al k q) else .al k q
  | x => x
def clrx (j : Nat) (p : List Nat) (env : Env) : Env := env.map (clrx1 j p)
theorem sget_clrx {j : Nat} {p : List Nat} {env : Env} {i : Nat} : sget (clrx j p env) i = clrx1 j p (sget env i) := sget_map rfl
theorem clrx_length {j : Nat} {p : List Nat} {env : Env} : (clrx j p env).length = env.length := by simp [clrx]
section
variable {K : PySem.W.Frag} {G G' H H' F F' : Hp} {s0 σ : St} {env : Env} {fp : Nat → List Addr} {a : Addr}
mutual
theorem TR_uniq : ∀ (o : OT) {v : V} {f1 f2 : List Addr}, TR K G F H o v f1 → TR K G F H o v f2 → f1 = f2
  | .d x, _, _, _, h, h' => by
    simp only [TR] at h h'
    rw [h.2, h'.2]
  | .l xs, _, _, _, h, h' => by
    simp only [TR] at h h'
    obtain ⟨a, vs, f, rfl, rfl, h1, _, _, h4⟩ := h
    obtain ⟨a', vs', f', e, rfl, h1', _, _, h4'⟩ := h'
    cases e
    rw [h1] at h1'; cases h1'
    rw [TRL_uniq xs h4 h4']
  | .k kvs, _, _, _, h, h' => by
    simp only [TR] at h h'
    obtain ⟨a, ws, rfl, rfl, _⟩ := h
    obtain ⟨a', ws', e, rfl, _⟩ := h'
    cases e; rfl
  | .o C fs, _, _, _, h, h' => by
    simp only [TR] at h h'
    obtain ⟨a, dx, ws, rfl, rfl, _⟩ := h
    obtain ⟨a', dx', ws', e, rfl, _⟩ := h'
    cases e; rfl
theorem TRL_uniq : ∀ (xs : List OT) {vs : List V} {f1 f2 : List Addr}, TRL K G F H xs vs f1 → TRL K G F H xs vs f2 → f1 = f2
  | [], _, _, _, h, h' => by
    simp only [TRL] at h h'
    rw [h.2, h'.2]
  | x :: xs, _, _, _, h, h' => by
    simp only [TRL] at h h'
    obtain ⟨v, r, f1, f2, rfl, rfl, h1, h2⟩ := h
    obtain ⟨v', r', f1', f2', e, rfl, h1', h2'⟩ := h'
    cases e
    rw [TR_uniq x h1 h1', TRL_uniq xs h2 h2']
end
theorem TRL.upd (hH : ∀ b, b ≠ a → H' b = H b) : ∀ {ys : List OT} {us : List V} {f0 : List Addr} {i : Nat} {y y' : OT}, TRL K G F H ys us f0 → f0.Nodup → ys[i]? = some y →
    (∀ w f, us[i]? = some w → TR K G F H y w f → f.Nodup → (∀ b ∈ f, b ∈ f0) → a ∈ f ∧ ∃ f', (∀ b ∈ f', b ∈ f) ∧ f'.Nodup ∧ TR K G F H' y' w f') →
    ∃ f', (∀ b ∈ f', b ∈ f0) ∧ f'.Nodup ∧ TRL K G F H' (ys.set i y') us f'
  | [], _, _, _, _, _, _, _, h, _ => by simp at h
  | x :: xs, _, _, i, y, y', h, nd, hy, k => by
    simp only [TRL] at h
    obtain ⟨v, r, f1, f2, rfl, rfl, h1, h2⟩ := h
    obtain ⟨n1, n2, n3⟩ := List.nodup_append.mp nd
    cases i with
    | zero =>
      simp only [List.getElem?_cons_zero, Option.some.injEq] at hy
      subst hy
      obtain ⟨ha, f', e1, e2, e3⟩ := k v f1 rfl h1 n1 fun b hb => List.mem_append_left _ hb
      refine ⟨f' ++ f2, fun b hb => ?_, List.nodup_append.mpr ⟨e2, n2, fun b hb c hc => n3 b (e1 b hb) c hc⟩, ?_⟩
      · rcases List.mem_append.mp hb with q | q
        · exact List.mem_append_left _ (e1 b q)
        · exact List.mem_append_right _ q
      · simp only [List.set_cons_zero, TRL]
        refine ⟨v, r, f', f2, rfl, rfl, e3, h2.frame xs (Same.refl G) fun b hb => ?_⟩
        obtain ⟨_, q2, q3⟩ := h2.own xs b hb
        exact ⟨hH b fun z => n3 a ha b hb z.symm, q2, q3⟩
    | succ i =>
      simp only [List.getElem?_cons_succ] at hy
      have hd : a ∈ f2 := by
        obtain ⟨w, f, e1, e2, e3, e4⟩ := h2.get hy
        obtain ⟨ha, _⟩ := k w f (by simpa using e1) e2 (e4 n2) fun b hb => List.mem_append_right _ (e3 b hb)
        exact e3 a ha
      obtain ⟨f', e1, e2, e3⟩ := TRL.upd hH (i := i) (y := y) (y' := y') h2 n2 hy fun w f q1 q2 q3 q4 => k w f (by simpa using q1) q2 q3 fun b hb => List.mem_append_right _ (q4 b hb)
      refine ⟨f1 ++ f', fun b hb => ?_, List.nodup_append.mpr ⟨n1, e2, fun b hb c hc => n3 b hb c (e1 c hc)⟩, ?_⟩
      · rcases List.mem_append.mp hb with q | q
        · exact List.mem_append_left _ q
        · exact List.mem_append_right _ (e1 b q)
      · simp only [List.set_cons_succ, TRL]
        refine ⟨v, r, f1, f', rfl, rfl, h1.frame x (Same.refl G) fun b hb => ?_, e3⟩
        obtain ⟨_, q2, q3⟩ := h1.own x b hb
        exact ⟨hH b fun z => n3 b hb a hd z, q2, q3⟩
/-- a node of a tree is changed at its own address -/
theorem TR.mut (hH : ∀ b, b ≠ a → H' b = H b) {o1 o2 : OT} (hin : ∀ f, TR K G F H o1 (.ref a) f → a ∈ f)
    (hx : ∀ f, TR K G F H o1 (.ref a) f → f.Nodup → ∃ f', (∀ b ∈ f', b ∈ f) ∧ f'.Nodup ∧ TR K G F H' o2 (.ref a) f') :
    ∀ {p : List Nat} {o : OT} {v : V} {fp : List Addr}, TR K G F H o v fp → fp.Nodup → nodeAt p o = some o1 → walk H v p = some (.ref a) → a ∈ fp ∧ ∃ f', (∀ b ∈ f', b ∈ fp) ∧ f'.Nodup ∧ TR K G F H' (nodeSet p o o2) v f'
  | [], o, v, fp, h, nd, e, hw => by
    simp only [nodeAt, Option.some.injEq] at e
    subst e
    have ev : v = .ref a := by cases v <;> (simp only [walk, Option.some.injEq] at hw; exact hw)
    subst ev
    exact ⟨hin fp h, hx fp h nd⟩
  | i :: p, o, v, fp, h, nd, e, hw => by
    cases o with
    | l xs =>
      simp only [nodeAt] at e
      cases hxi : xs[i]? with
      | none => rw [hxi] at e; cases e
      | some x =>
        rw [hxi] at e
        simp only [TR] at h
        obtain ⟨a0, vs, f0, rfl, rfl, h1, h2, h3, h4⟩ := h
        obtain ⟨n1, n2⟩ := List.nodup_cons.mp nd
        simp only [walk, h1] at hw
        have kk : ∀ w f, vs[i]? = some w → TR K G F H x w f → f.Nodup → (∀ b ∈ f, b ∈ f0) → a ∈ f ∧ ∃ f', (∀ b ∈ f', b ∈ f) ∧ f'.Nodup ∧ TR K G F H' (nodeSet p x o2) w f' := fun w f q1 q2 q3 q4 => by
          rw [q1] at hw
          exact TR.mut hH hin hx (p := p) q2 q3 e hw
        obtain ⟨f', e1, e2, e3⟩ := TRL.upd hH (y' := nodeSet p x o2) h4 n2 hxi kk
        have haf : a ∈ f0 := by
          obtain ⟨w, f, g1, g2, g3, g4⟩ := h4.get hxi
          exact g3 a (kk w f g1 g2 (g4 n2) g3).1
        refine ⟨List.mem_cons_of_mem _ haf, a0 :: f', fun b hb => ?_, List.nodup_cons.mpr ⟨fun q => n1 (e1 _ q), e2⟩, ?_⟩
        · rcases List.mem_cons.mp hb with q | q
          · rw [q]; exact List.mem_cons_self
          · exact List.mem_cons_of_mem _ (e1 b q)
        · simp only [nodeSet, hxi, TR]
          exact ⟨a0, vs, f', rfl, rfl, (hH a0 fun z => n1 (z ▸ haf)).trans h1, h2, h3, e3⟩
    | d x => simp [nodeAt] at e
    | k x => simp [nodeAt] at e
    | o C x => simp [nodeAt] at e
/-- an alias that does not go on beyond the changed node -/
theorem walk_mut (hH : ∀ b, b ≠ a → H' b = H b) {o1 o2 : OT} (hin : ∀ f, TR K G F H o1 (.ref a) f → a ∈ f) :
    ∀ {p q : List Nat} {o oq : OT} {v : V} {fp : List Addr}, TR K G F H o v fp → fp.Nodup → nodeAt p o = some o1 → walk H v p = some (.ref a) → nodeAt q o = some oq → sx p q = false →
      walk H' v q = walk H v q ∧ ∃ o', nodeAt q (nodeSet p o o2) = some o'
  | p, [], o, oq, v, fp, _, _, _, _, _, _ => ⟨by cases v <;> rfl, _, rfl⟩
  | [], _ :: _, _, _, _, _, _, _, _, _, _, h => by simp [sx] at h
  | i :: p, j :: q, o, oq, v, fp, h, nd, e, hw, eq, hs => by
    cases o with
    | l xs =>
      simp only [nodeAt] at e eq
      cases hxi : xs[i]? with
      | none => rw [hxi] at e; cases e
      | some x =>
        cases hyj : xs[j]? with
        | none => rw [hyj] at eq; cases eq
        | some y =>
          rw [hxi] at e
          rw [hyj] at eq
          simp only [TR] at h
          obtain ⟨a0, vs, f0, rfl, rfl, h1, h2, h3, h4⟩ := h
          obtain ⟨n1, n2⟩ := List.nodup_cons.mp nd
          simp only [walk, h1] at hw
          obtain ⟨w, f, g1, g2, g3, g4⟩ := h4.get hxi
          rw [g1] at hw
          have haf : a ∈ f := by
            obtain ⟨w', f', k1, k2, k3, k4⟩ := g2.at e
            have hw' : walk H w p = some (.ref a) := hw
            rw [hw'] at k1; cases k1
            exact k3 a (hin f' k2)
          have ha0 : H' a0 = some (.lst vs) := (hH a0 fun z => n1 (z ▸ g3 a haf)).trans h1
          simp only [walk, h1, ha0]
          by_cases hij : i = j
          · subst hij
            rw [hxi] at hyj; cases hyj
            have hs' : sx p q = false := by simpa [sx] using hs
            obtain ⟨k1, o', k2⟩ := walk_mut hH hin (o2 := o2) (p := p) (q := q) g2 (g4 n2) e hw eq hs'
            refine ⟨by rw [g1]; exact k1, o', ?_⟩
            have hi : i < xs.length := (List.getElem?_eq_some_iff.mp hxi).1
            simp only [nodeSet, hxi, nodeAt, List.getElem?_set_self hi]
            exact k2
          · obtain ⟨wj, fj, m1, m2, m3, m4⟩ := h4.get hyj
            refine ⟨?_, oq, ?_⟩
            · rw [m1]
              refine walk_congr m2 eq fun b hb => hH b fun z => ?_
              subst z
              -- two children's objects are apart
              have : ∀ {ys : List OT} {us : List V} {f0 : List Addr} {i j : Nat} {y z : OT} {w u : V} {f g : List Addr}, TRL K G F H ys us f0 → f0.Nodup → ys[i]? = some y → us[i]? = some w → TR K G F H y w f → ys[j]? = some z → us[j]? = some u → TR K G F H z u g → i ≠ j → ∀ b ∈ f, b ∉ g := by
                intro ys
                induction ys with
                | nil => intro us f0 i j y z w u f g _ _ h; simp at h
                | cons x0 r ih =>
                  intro us f0 i j y z w u f g hl hn q1 q2 q3 q4 q5 q6 ne b hb hg
                  simp only [TRL] at hl
                  obtain ⟨v', r', fa, fb, rfl, rfl, t1, t2⟩ := hl
                  obtain ⟨_, m2', m3'⟩ := List.nodup_append.mp hn
                  have uniq : ∀ {o : OT} {v : V} {f1 f2 : List Addr}, TR K G F H o v f1 → TR K G F H o v f2 → f1 = f2 := by
                    intro o
                    exact TR_uniq o
                  cases i with
                  | zero =>
                    cases j with
                    | zero => exact ne rfl
                    | succ j =>
                      simp only [List.getElem?_cons_zero, Option.some.injEq] at q1 q2
                      subst q1 q2
                      simp only [List.getElem?_cons_succ] at q4 q5
                      obtain ⟨u', g', s1, s2, s3, _⟩ := t2.get q4
                      rw [q5] at s1; cases s1
                      rw [uniq q3 t1] at hb
                      rw [uniq q6 s2] at hg
                      exact m3' b hb b (s3 b hg) rfl
                  | succ i =>
                    cases j with
                    | zero =>
                      simp only [List.getElem?_cons_zero, Option.some.injEq] at q4 q5
                      subst q4 q5
                      simp only [List.getElem?_cons_succ] at q1 q2
                      obtain ⟨u', g', s1, s2, s3, _⟩ := t2.get q1
                      rw [q2] at s1; cases s1
                      rw [uniq q6 t1] at hg
                      rw [uniq q3 s2] at hb
                      exact m3' b hg b (s3 b hb) rfl
                    | succ j =>
                      simp only [List.getElem?_cons_succ] at q1 q2 q4 q5
                      exact ih t2 m2' q1 q2 q3 q4 q5 q6 (by omega) b hb hg
              exact this h4 n2 hxi g1 g2 hyj m1 m2 hij b haf hb
            · simp only [nodeSet, hxi, nodeAt, List.getElem?_set_ne hij, hyj]
              exact eq
    | d x => simp [nodeAt] at e
    | k x => simp [nodeAt] at e
    | o C x => simp [nodeAt] at e
theorem Sim.mutate {j : Nat} {p : List Nat} {o o1 o2 : OT} {u : HO} {v0 : V} (S : Sim K F G H s0 env σ fp) (ht : treeOf env j = some o) (hn : nodeAt p o = some o1) (hv : σ[j]? = some (some v0)) (hw : walk H v0 p = some (.ref a))
    (hin : ∀ f, TR K G F H o1 (.ref a) f → a ∈ f) (hx : ∀ f, TR K G F H o1 (.ref a) f → f.Nodup → ∃ f', (∀ b ∈ f', b ∈ f) ∧ f'.Nodup ∧ TR K G F (upd H a u) o2 (.ref a) f') :
    ∃ f', Sim K F G (upd H a u) s0 (sset (clrx j p env) j ((sget env j).put (nodeSet p o o2))) σ (fpSet fp j f') := by
  obtain ⟨v, hv', T⟩ := S.tree ht
  rw [hv] at hv'; cases hv'
  have hH : ∀ b, b ≠ a → (upd H a u) b = H b := fun b hb => upd_ne hb
  obtain ⟨ha, f', e1, e2, e3⟩ := T.mut hH hin hx (S.nd j) hn hw
  obtain ⟨_, ga, fa⟩ := T.own o a ha
  have hj : j < env.length := by
    rcases Nat.lt_or_ge j env.length with q | q
    · exact q
    · unfold treeOf at ht; rw [sget_of_le q] at ht; cases ht
  have nea : ∀ i b, i ≠ j → b ∈ fp i → b ≠ a := fun i b hi hb z => hi (S.dj i j b hb (z ▸ ha))
  refine ⟨f', ⟨fun b w e => ?_, fun b w e => ?_, fun i => ?_, fun i k b h1 h2 => ?_, fun i => ?_, by rw [sset_length, clrx_length, S.len]⟩⟩
  · rw [upd_ne (fun z => by rw [z, ga] at e; cases e)]; exact S.gh b w e
  · rw [upd_ne (fun z => by rw [z, fa] at e; cases e)]; exact S.fh b w e
  · by_cases h : i = j
    · subst h; rw [fpSet_self]; exact e2
    · rw [fpSet_ne h]; exact S.nd i
  · by_cases h : i = j
    · by_cases h' : k = j
      · rw [h, h']
      · subst h
        rw [fpSet_self] at h1
        rw [fpSet_ne h'] at h2
        exact absurd (S.dj k i b h2 (e1 b h1)) h'
    · by_cases h' : k = j
      · subst h'
        rw [fpSet_self] at h2
        rw [fpSet_ne h] at h1
        exact absurd (S.dj i k b h1 (e1 b h2)) h
      · rw [fpSet_ne h] at h1; rw [fpSet_ne h'] at h2
        exact S.dj i k b h1 h2
  · by_cases h : i = j
    · subst h
      rw [fpSet_self, sget_sset_self (by rw [clrx_length]; exact hj)]
      have q := S.sl i
      rcases treeOf_cases ht with e | e
      · rw [e]; exact ⟨v0, hv, e3⟩
      · rw [e] at q ⊢
        obtain ⟨v', e1', e0', _⟩ := q
        rw [hv] at e1'; cases e1'
        exact ⟨v0, hv, e0', e3⟩
    · rw [fpSet_ne h, sget_sset_ne (Ne.symm h), sget_clrx]
      have q := S.sl i
      revert q
      cases sget env i with
      | no => exact fun q => q
      | t o' => exact fun ⟨v, h1, h2⟩ => ⟨v, h1, h2.frame o' (Same.refl G) fun b hb => ⟨upd_ne (nea i b h hb), ((h2.own o') b hb).2.1, ((h2.own o') b hb).2.2⟩⟩
      | a o' => exact fun ⟨v, h1, h0, h2⟩ => ⟨v, h1, h0, h2.frame o' (Same.refl G) fun b hb => ⟨upd_ne (nea i b h hb), ((h2.own o') b hb).2.1, ((h2.own o') b hb).2.2⟩⟩
      | al k q =>
        rintro ⟨h0, oa, oq, va, w, h1, h2, h3, h4, h5⟩
        by_cases hk : k = j
        · subst hk
          rw [ht] at h1; cases h1
          rw [hv] at h3; cases h3
          by_cases hs : sx p q = true
          · simp only [clrx1, hs, if_true]
            exact h0
          · have hs' : sx p q = false := by simpa using hs
            simp only [clrx1, hs', if_true, Bool.false_eq_true, if_false]
            obtain ⟨k1, o'', k2⟩ := walk_mut hH hin (o2 := o2) T (S.nd k) hn hw h2 hs'
            refine ⟨h0, nodeSet p o o2, o'', v0, w, ?_, k2, hv, k1.trans h4, h5⟩
            unfold treeOf
            rw [sget_sset_self (by rw [clrx_length]; exact hj)]
            rcases treeOf_cases ht with e | e <;> rw [e] <;> rfl
        · simp only [clrx1, hk, if_false]
          obtain ⟨v1, g1, T1⟩ := S.tree h1
          rw [h3] at g1; cases g1
          refine ⟨h0, oa, oq, va, w, ?_, h2, h3, (walk_congr T1 h2 fun b hb => upd_ne (nea k b hk hb)).trans h4, h5⟩
          rw [treeOf_sset_ne (Ne.symm hk)]
          unfold treeOf at h1 ⊢
          rw [sget_clrx]
          revert h1
          cases sget env k with
          | al k' q' => intro h; cases h
          | _ => exact fun h => h
end
end Bv
end SBvC
section SBvD
set_option linter.all false
set_option Elab.async false
open PySem L2
namespace Bv
inductive EV where
  | d (x : D) | o (t : OT) | s (j : Nat) | p (j : Nat) (p : List Nat)
abbrev WE := Env → (EV → Env → Prop) → Prop
abbrev WD := Env → (D → Env → Prop) → Prop
abbrev WT := Env → (Bool → Env → Prop) → Prop
abbrev WL := Env → (List D → Env → Prop) → Prop
abbrev WO := Env → (OT → Env → Prop) → Prop
abbrev WOs := Env → (List OT → Env → Prop) → Prop
section
variable (K : PySem.W.Frag) (F G H : Hp) (s0 : St) (env : Env) (σ : St)
def SimE : Prop := ∃ fp, Sim K F G H s0 env σ fp
/-- a temporary tree -/
def Tmp (t : OT) (v : V) : Prop := ∃ fp f, f.Nodup ∧ TR K G F H t v f ∧ Sim K (addF F H f) G H s0 env σ fp
def Tmps (ts : List OT) (vs : List V) : Prop := ∃ fp f, f.Nodup ∧ TRL K G F H ts vs f ∧ Sim K (addF F H f) G H s0 env σ fp
def EVS : EV → V → Prop
  | .d x, v => SimE K F G H s0 env σ ∧ Rep K G x v
  | .o t, v => Tmp K F G H s0 env σ t v
  | .s j, v => SimE K F G H s0 env σ ∧ σ[j]? = some (some v)
  | .p j p, v => SimE K F G H s0 env σ ∧ ∃ v0, σ[j]? = some (some v0) ∧ walk H v0 p = some v
end
def rdE (K : PySem.W.Frag) (w : WE) : TE := fun σ H Q => ∃ F G s0 env fp Qd, Sim K F G H s0 env σ fp ∧ w env Qd ∧ ∀ ev v env' G' H', Gle F G G' → EVS K F G' H' s0 env' σ ev v → Qd ev env' → Q v H'
def rdD (K : PySem.W.Frag) (w : WD) : TE := fun σ H Q => ∃ F G s0 env fp Qd, Sim K F G H s0 env σ fp ∧ w env Qd ∧ ∀ x v env' G' H', Gle F G G' → SimE K F G' H' s0 env' σ → Rep K G' x v → Qd x env' → Q v H'
def rdO (K : PySem.W.Frag) (w : WO) : TE := fun σ H Q => ∃ F G s0 env fp Qd, Sim K F G H s0 env σ fp ∧ w env Qd ∧ ∀ x v env' G' H', Gle F G G' → Tmp K F G' H' s0 env' σ x v → Qd x env' → Q v H'
def rdT (K : PySem.W.Frag) (w : WT) : TT := fun σ H Q => ∃ F G s0 env fp Qd, Sim K F G H s0 env σ fp ∧ w env Qd ∧ ∀ b env' G' H', Gle F G G' → SimE K F G' H' s0 env' σ → Qd b env' → Q b H'
def rdL (K : PySem.W.Frag) (w : WL) : TA := fun σ H Q => ∃ F G s0 env fp Qd, Sim K F G H s0 env σ fp ∧ w env Qd ∧ ∀ xs vs env' G' H', Gle F G G' → SimE K F G' H' s0 env' σ → RepL K G' xs vs → Qd xs env' → Q vs H'
def rdOs (K : PySem.W.Frag) (w : WOs) : TA := fun σ H Q => ∃ F G s0 env fp Qd, Sim K F G H s0 env σ fp ∧ w env Qd ∧ ∀ xs vs env' G' H', Gle F G G' → Tmps K F G' H' s0 env' σ xs vs → Qd xs env' → Q vs H'

def frz : EV → Env → (D → Env → Prop) → Prop
  | .d x, e, Q => Q x e
  | .o t, e, Q => Q (res t) e
  | .s j, e, Q => match sget e j with
    | .t o => Q (res o) (sset (clr j e) j (.t (.d (res o))))
    | .a o => Q (res o) (sset (clr j e) j (.a (.d (res o))))
    | _ => False
  | .p _ _, _, _ => False
/-- as data -/
def wD (w : WE) : WD := fun env Q => w env fun ev e => frz ev e Q
/-- as a tree: a new object stays one's own -/
def wO (w : WE) : WO := fun env Q => w env fun ev e => match ev with
  | .o t => Q t e
  | ev => frz ev e fun x e' => Q (.d x) e'
section
variable {K : PySem.W.Frag} {G G' H H' F F' : Hp} {s0 σ : St} {env : Env} {fp : Nat → List Addr} {a : Addr}
theorem PEimp {X : Cx} {e : Expr} {t t' : TE} (h : PE X e t) (k : ∀ σ H Q, t' σ H Q → t σ H Q) : PE X e t' := ⟨fun pins s σ H Q I q => h.run pins s σ H Q I (k σ H Q q)⟩
theorem PTimp {X : Cx} {e : Expr} {t t' : TT} (h : PT X e t) (k : ∀ σ H Q, t' σ H Q → t σ H Q) : PT X e t' := ⟨fun pins s σ H Q I q => h.run pins s σ H Q I (k σ H Q q)⟩
theorem PWimp {X : Cx} {e : Expr} {t t' : TT} (h : PW X e t) (k : ∀ σ H Q, t' σ H Q → t σ H Q) : PW X e t' := ⟨fun wh pins s σ H Q I q => h.run wh pins s σ H Q I (k σ H Q q)⟩
theorem PAimp {X : Cx} {es : List Expr} {t t' : TA} (h : PA X es t) (k : ∀ σ H Q, t' σ H Q → t σ H Q) : PA X es t' := ⟨fun pos pins s σ H Q I q => h.run pos pins s σ H Q I (k σ H Q q)⟩
theorem PSimp {X : Cx} {st : Stmt} {t t' : TS} (h : PS X st t) (k : ∀ D σ H, t' D σ H → t D σ H) : PS X st t' := ⟨fun pins s σ H D I q => h.run pins s σ H D I (k D σ H q)⟩
theorem PSsimp {X : Cx} {st : List Stmt} {t t' : TS} (h : PSs X st t) (k : ∀ D σ H, t' D σ H → t D σ H) : PSs X st t' := ⟨fun pins s σ H D I q => h.run pins s σ H D I (k D σ H q)⟩
theorem frz_ok {ev : EV} {v : V} {Q : D → Env → Prop} (h : EVS K F G H s0 env σ ev v) (q : frz ev env Q) : ∃ x env' G', Gle F G G' ∧ SimE K F G' H s0 env' σ ∧ Rep K G' x v ∧ Q x env' := by
  cases ev with
  | d x => exact ⟨x, env, G, Gle.refl F G, h.1, h.2, q⟩
  | o t =>
    obtain ⟨fp, f, nf, T, S⟩ := h
    obtain ⟨S1, R, gl⟩ := S.freezeT T
    exact ⟨_, env, _, gl, ⟨fp, S1⟩, R, q⟩
  | s j =>
    obtain ⟨⟨fp, S⟩, hv⟩ := h
    simp only [frz] at q
    cases e : sget env j with
    | t o =>
      rw [e] at q
      obtain ⟨S1, gl, v', hv', R⟩ := S.freezeS (j := j) (o := o) (by unfold treeOf; rw [e])
      rw [hv] at hv'; cases hv'
      rw [e] at S1
      exact ⟨_, _, _, gl, ⟨_, S1⟩, R, q⟩
    | a o =>
      rw [e] at q
      obtain ⟨S1, gl, v', hv', R⟩ := S.freezeS (j := j) (o := o) (by unfold treeOf; rw [e])
      rw [hv] at hv'; cases hv'
      rw [e] at S1
      exact ⟨_, _, _, gl, ⟨_, S1⟩, R, q⟩
    | no => rw [e] at q; exact q.elim
    | al k p => rw [e] at q; exact q.elim
  | p j p => exact q.elim
theorem rE_D {X : Cx} {e : Expr} {w : WE} (h : PE X e (rdE X.K w)) : PE X e (rdD X.K (wD w)) := PEimp h fun σ H Q ⟨F, G, s0, env, fp, Qd, S, hw, k⟩ =>
  ⟨F, G, s0, env, fp, _, S, hw, fun ev v env' G' H' gl evs q => by
    obtain ⟨x, e2, G2, gl2, S2, R, q2⟩ := frz_ok evs q
    exact k x v e2 G2 H' (gl.trans gl2) S2 R q2⟩
theorem SimE.tmp_d {x : D} {v : V} (S : SimE K F G H s0 env σ) (R : Rep K G x v) : Tmp K F G H s0 env σ (.d x) v := by
  obtain ⟨fp, S⟩ := S
  have e : addF F H [] = F := by funext a; exact addF_out (by simp)
  exact ⟨fp, [], List.nodup_nil, by simp only [TR]; exact ⟨R, trivial⟩, by rw [e]; exact S⟩
theorem rE_O {X : Cx} {e : Expr} {w : WE} (h : PE X e (rdE X.K w)) : PE X e (rdO X.K (wO w)) := PEimp h fun σ H Q ⟨F, G, s0, env, fp, Qd, S, hw, k⟩ =>
  ⟨F, G, s0, env, fp, _, S, hw, fun ev v env' G' H' gl evs q => by
    cases ev with
    | o t => exact k t v env' G' H' gl evs q
    | d x => exact k (.d x) v env' G' H' gl (evs.1.tmp_d evs.2) q
    | s j =>
      obtain ⟨x, e2, G2, gl2, S2, R, q2⟩ := frz_ok evs q
      exact k (.d x) v e2 G2 H' (gl.trans gl2) (S2.tmp_d R) q2
    | p j p => exact q.elim⟩
/-- of data -/
def wOfD (w : WD) : WE := fun env Q => w env fun x e => Q (.d x) e
theorem rD_E {X : Cx} {e : Expr} {w : WD} (h : PE X e (rdD X.K w)) : PE X e (rdE X.K (wOfD w)) := PEimp h fun σ H Q ⟨F, G, s0, env, fp, Qd, S, hw, k⟩ =>
  ⟨F, G, s0, env, fp, _, S, hw, fun x v env' G' H' gl S' R q => k (.d x) v env' G' H' gl ⟨S', R⟩ q⟩

/-! ### names, constants -/
def wSl (i : Nat) : WE := fun env Q => match sget env i with
  | .t (.d x) => Q (.d x) env
  | .a (.d x) => Q (.d x) env
  | .t _ => Q (.s i) env
  | .a _ => Q (.s i) env
  | .al k p => match treeOf env k with
    | some o => match nodeAt p o with
      | some (.d x) => Q (.d x) env
      | some _ => Q (.s i) env
      | none => False
    | none => False
  | .no => False
theorem wSl_ok {i : Nat} {Q : EV → Env → Prop} (S : Sim K F G H s0 env σ fp) (q : wSl i env Q) : ∃ ev v, σ[i]? = some (some v) ∧ EVS K F G H s0 env σ ev v ∧ Q ev env := by
  have h := S.sl i
  unfold wSl at q
  cases e : sget env i with
  | no => rw [e] at q; exact q.elim
  | t o =>
    rw [e] at q h
    obtain ⟨v, hv, T⟩ := h
    cases o with
    | d x =>
      simp only [TR] at T
      exact ⟨.d x, v, hv, ⟨⟨fp, S⟩, T.1⟩, q⟩
    | l _ => exact ⟨.s i, v, hv, ⟨⟨fp, S⟩, hv⟩, q⟩
    | k _ => exact ⟨.s i, v, hv, ⟨⟨fp, S⟩, hv⟩, q⟩
    | o _ _ => exact ⟨.s i, v, hv, ⟨⟨fp, S⟩, hv⟩, q⟩
  | a o =>
    rw [e] at q h
    obtain ⟨v, hv, _, T⟩ := h
    cases o with
    | d x =>
      simp only [TR] at T
      exact ⟨.d x, v, hv, ⟨⟨fp, S⟩, T.1⟩, q⟩
    | l _ => exact ⟨.s i, v, hv, ⟨⟨fp, S⟩, hv⟩, q⟩
    | k _ => exact ⟨.s i, v, hv, ⟨⟨fp, S⟩, hv⟩, q⟩
    | o _ _ => exact ⟨.s i, v, hv, ⟨⟨fp, S⟩, hv⟩, q⟩
  | al k p =>
    rw [e] at q h
    obtain ⟨_, o, o', v0, v, h1, h2, h3, h4, h5⟩ := h
    simp only [h1, h2] at q
    obtain ⟨v0', e1, T⟩ := S.tree h1
    rw [h3] at e1; cases e1
    obtain ⟨w, f, e2, T', _, _⟩ := T.at h2
    rw [h4] at e2; cases e2
    cases o' with
    | d x =>
      simp only [TR] at T'
      exact ⟨.d x, v, h5, ⟨⟨fp, S⟩, T'.1⟩, q⟩
    | l _ => exact ⟨.s i, v, h5, ⟨⟨fp, S⟩, h5⟩, q⟩
    | k _ => exact ⟨.s i, v, h5, ⟨⟨fp, S⟩, h5⟩, q⟩
    | o _ _ => exact ⟨.s i, v, h5, ⟨⟨fp, S⟩, h5⟩, q⟩
theorem d_sl {X : Cx} {i : Nat} {x : Str} {pos : Pos} (h : PE X (.Name x pos) (tVar i)) : PE X (.Name x pos) (rdE X.K (wSl i)) := PEimp h fun σ H Q ⟨F, G, s0, env, fp, Qd, S, hw, k⟩ => by
  obtain ⟨ev, v, hv, evs, q⟩ := wSl_ok S hw
  exact ⟨v, hv, k ev v env G H (Gle.refl F G) evs q⟩
def wC (x : D) : WE := fun env Q => Q (.d x) env
theorem d_c {X : Cx} {e : Expr} {x : D} {v : V} (h : PE X e (tC v)) (r : ∀ G, Rep X.K G x v) : PE X e (rdE X.K (wC x)) := PEimp h fun σ H Q ⟨F, G, s0, env, fp, Qd, S, hw, k⟩ =>
  k (.d x) v env G H (Gle.refl F G) ⟨⟨fp, S⟩, r G⟩ hw

/-! ### lists of items -/
def wNil : WL := fun env Q => Q [] env
def wCons (w : WD) (r : WL) : WL := fun env Q => w env fun x e1 => r e1 fun xs e2 => Q (x :: xs) e2
theorem l_nil {X : Cx} : PA X [] (rdL X.K wNil) := PAimp pa_nil fun σ H Q ⟨F, G, s0, env, fp, Qd, S, hw, k⟩ => k [] [] env G H (Gle.refl F G) ⟨fp, S⟩ RepL.nil hw
theorem l_cons {X : Cx} {e : Expr} {es : List Expr} {w : WD} {r : WL} (h : PE X e (rdD X.K w)) (hr : PA X es (rdL X.K r)) (hs : starEach (e :: es) X.env = (false, eval e X.env) :: starEach es X.env) : PA X (e :: es) (rdL X.K (wCons w r)) :=
  PAimp (pa_cons h hr hs) fun σ H Q ⟨F, G, s0, env, fp, Qd, S, hw, k⟩ => ⟨F, G, s0, env, fp, _, S, hw, fun x v e1 G1 H1 gl1 ⟨fp1, S1⟩ R1 q1 =>
    ⟨F, G1, s0, e1, fp1, _, S1, q1, fun xs vs e2 G2 H2 gl2 S2 R2 q2 => k (x :: xs) (v :: vs) e2 G2 H2 (gl1.trans gl2) S2 (RepL.cons (R1.mono gl2.1) R2) q2⟩⟩
def wNilO : WOs := fun env Q => Q [] env
def wConsO (w : WO) (r : WOs) : WOs := fun env Q => w env fun x e1 => r e1 fun xs e2 => Q (x :: xs) e2
theorem addF_nil (F H : Hp) : addF F H [] = F := by funext a; exact addF_out (by simp)
theorem addF_addF {f g : List Addr} (h : ∀ a ∈ f, H' a = H a) : addF (addF F H f) H' g = addF F H' (f ++ g) := by
  funext a
  by_cases hg : a ∈ g
  · rw [addF_in hg, addF_in (List.mem_append_right _ hg)]
  · by_cases hf : a ∈ f
    · rw [addF_out hg, addF_in hf, addF_in (List.mem_append_left _ hf), h a hf]
    · rw [addF_out hg, addF_out hf, addF_out (by simp [hf, hg])]
theorem o_nil {X : Cx} : PA X [] (rdOs X.K wNilO) := PAimp pa_nil fun σ H Q ⟨F, G, s0, env, fp, Qd, S, hw, k⟩ =>
  k [] [] env G H (Gle.refl F G) ⟨fp, [], List.nodup_nil, by simp only [TRL]; exact ⟨trivial, trivial⟩, by rw [addF_nil]; exact S⟩ hw
/-- a tree held while the state goes on under a frame with its objects -/
theorem TR.held {t : OT} {v : V} {f : List Addr} (T : TR K G F H t v f) (gl : Gle (addF F H f) G G') (fh : Same (addF F H f) H') : TR K G' F H' t v f := T.frame t gl.1 fun a ha => by
  obtain ⟨⟨u, hu⟩, h2, h3⟩ := T.own t a ha
  have e : addF F H f a = some u := (addF_in ha).trans hu
  exact ⟨(fh a u e).trans hu.symm, (gl.2 a (by rw [e]; simp)).trans h2, h3⟩
theorem TRL.held {t : List OT} {v : List V} {f : List Addr} (T : TRL K G F H t v f) (gl : Gle (addF F H f) G G') (fh : Same (addF F H f) H') : TRL K G' F H' t v f := T.frame t gl.1 fun a ha => by
  obtain ⟨⟨u, hu⟩, h2, h3⟩ := T.own t a ha
  have e : addF F H f a = some u := (addF_in ha).trans hu
  exact ⟨(fh a u e).trans hu.symm, (gl.2 a (by rw [e]; simp)).trans h2, h3⟩
theorem held_same {f : List Addr} (hf : ∀ a ∈ f, ∃ u, H a = some u) (fh : Same (addF F H f) H') : ∀ a ∈ f, H' a = H a := fun a ha => by
  obtain ⟨u, hu⟩ := hf a ha
  exact (fh a u ((addF_in ha).trans hu)).trans hu.symm
theorem o_cons {X : Cx} {e : Expr} {es : List Expr} {w : WO} {r : WOs} (h : PE X e (rdO X.K w)) (hr : PA X es (rdOs X.K r)) (hs : starEach (e :: es) X.env = (false, eval e X.env) :: starEach es X.env) : PA X (e :: es) (rdOs X.K (wConsO w r)) :=
  PAimp (pa_cons h hr hs) fun σ H Q ⟨F, G, s0, env, fp, Qd, S, hw, k⟩ => ⟨F, G, s0, env, fp, _, S, hw, fun x v e1 G1 H1 gl1 ⟨fp1, f1, n1, T1, S1⟩ q1 =>
    ⟨addF F H1 f1, G1, s0, e1, fp1, _, S1, q1, fun xs vs e2 G2 H2 gl2 ⟨fp2, f2, n2, T2, S2⟩ q2 => by
      have ow1 := T1.own x
      have hfl : Same F (addF F H1 f1) := addF_le fun a ha => (ow1 a ha).2.2
      have ow2 := T2.own xs
      have ap : ∀ a ∈ f1, a ∉ f2 := fun a h1 h2 => by
        obtain ⟨u, hu⟩ := (ow1 a h1).1
        have := (ow2 a h2).2.2
        rw [addF_in h1, hu] at this; cases this
      have fh2 : Same (addF F H1 f1) H2 := fun a o e => S2.fh a o (addF_le (fun a ha => (ow2 a ha).2.2) a o e)
      have T1' := T1.held gl2 fh2
      have same1 := held_same (fun a ha => (ow1 a ha).1) fh2
      have T2' : TRL X.K G2 F H2 xs vs f2 := T2.frame xs (Same.refl G2) fun a ha => by
        obtain ⟨q1, q2, q3⟩ := ow2 a ha
        refine ⟨rfl, q2, ?_⟩
        rw [addF_out (fun z => ap a z ha)] at q3; exact q3
      refine k (x :: xs) (v :: vs) e2 G2 H2 (gl1.trans (gl2.anti hfl)) ⟨fp2, f1 ++ f2, List.nodup_append.mpr ⟨n1, n2, fun a h1 b h2 z => ap a h1 (z ▸ h2)⟩, ?_, ?_⟩ q2
      · simp only [TRL]
        exact ⟨v, vs, f1, f2, rfl, rfl, T1', T2'⟩
      · rw [← addF_addF same1]; exact S2⟩⟩

/-! ### displays -/
def wTup (w : WL) : WE := fun env Q => w env fun xs e => xs.length ≤ 1000000 ∧ Q (.d (.tup xs)) e
def wLst (w : WOs) : WE := fun env Q => w env fun xs e => xs.length ≤ 1000000 ∧ Q (.o (.l xs)) e
theorem mil {n : Nat} (h : n ≤ 1000000) : n ≤ sizeLine := Nat.le_trans h (by rw [sizeLine_eq]; decide)
theorem d_tup {X : Cx} {es : List Expr} {w : WL} {x1} {pos : Pos} (h : PA X es (rdL X.K w)) : PE X (.Tuple es x1 pos) (rdE X.K (wTup w)) := PEimp (pe_tup h) fun σ H Q ⟨F, G, s0, env, fp, Qd, S, hw, k⟩ =>
  ⟨F, G, s0, env, fp, _, S, hw, fun xs vs e1 G1 H1 gl1 ⟨fp1, S1⟩ R1 ⟨hl, q1⟩ => ⟨by rw [← R1.length]; exact mil hl, fun p hp =>
    k (.d (.tup xs)) (.ref p) e1 _ _ (gl1.trans (Gle.data S1.fh S1.gh hp)) ⟨⟨fp1, S1.data hp⟩, by
      simp only [Rep]
      exact ⟨p, vs, rfl, SqT.of upd_same, R1.mono (Same.upd_new (Same.refl G1) (Same.fresh S1.gh hp)) xs⟩⟩ q1⟩⟩
/-- a new list at p over temporaries -/
theorem Tmps.list {xs : List OT} {vs : List V} {p : Addr} (T : Tmps K F G H s0 env σ xs vs) (hp : H p = none) : Tmp K F G (upd H p (.lst vs)) s0 env σ (.l xs) (.ref p) := by
  obtain ⟨fp1, f1, n1, T1, S1⟩ := T
  have ow := T1.own xs
  have np : p ∉ f1 := fun z => by
    obtain ⟨⟨u, hu⟩, _⟩ := ow p z
    rw [hp] at hu; cases hu
  have hF : F p = none := by
    have := Same.fresh S1.fh hp
    rw [addF_out np] at this; exact this
  have hG := Same.fresh S1.gh hp
  have ne : ∀ b ∈ f1, b ≠ p := fun b hb z => np (z ▸ hb)
  refine ⟨fp1, p :: f1, List.nodup_cons.mpr ⟨np, n1⟩, ?_, ?_⟩
  · simp only [TR]
    exact ⟨p, vs, f1, rfl, rfl, upd_same, hG, hF, T1.frame xs (Same.refl G) fun b hb => ⟨upd_ne (ne b hb), (ow b hb).2.1, (ow b hb).2.2⟩⟩
  · have S2 := S1.temp (o := .lst vs) hp
    have e : addF (addF F H f1) (upd H p (.lst vs)) [p] = addF F (upd H p (.lst vs)) (p :: f1) := by
      rw [addF_addF fun b hb => upd_ne (ne b hb)]
      funext b
      unfold addF
      simp only [List.mem_append, List.mem_singleton, List.mem_cons]
      by_cases h1 : b ∈ f1 <;> by_cases h2 : b = p <;> simp [h1, h2]
    rw [e] at S2
    exact S2
theorem d_lst {X : Cx} {es : List Expr} {w : WOs} {pos : Pos} (h : PA X es (rdOs X.K w)) : PE X (.List es pos) (rdE X.K (wLst w)) := PEimp (pe_lst h) fun σ H Q ⟨F, G, s0, env, fp, Qd, S, hw, k⟩ =>
  ⟨F, G, s0, env, fp, _, S, hw, fun xs vs e1 G1 H1 gl1 T1 ⟨hl, q1⟩ => ⟨by
    obtain ⟨_, _, _, T, _⟩ := T1
    rw [← T.length]; exact mil hl, fun p hp => k (.o (.l xs)) (.ref p) e1 G1 _ gl1 (T1.list hp) q1⟩⟩

/-! ### operators on data -/
/-- what an operation on data does: bo tells the result, r is the reading of it -/
def OpS (K : PySem.W.Frag) (r : R2) (bo : D → D → (EV → Prop) → Prop) : Prop := ∀ (F G H : Hp) (s0 : St) (env : Env) (σ : St) (fp : Nat → List Addr) (x y : D) (v u : V) (Q : VK) (Qd : EV → Prop),
  Sim K F G H s0 env σ fp → Rep K G x v → Rep K G y u → bo x y Qd → (∀ ev z G' H', Gle F G G' → EVS K F G' H' s0 env σ ev z → Qd ev → Q z H') → r v u H Q
def wOp (bo : D → D → (EV → Prop) → Prop) (wa wb : WD) : WE := fun env Q => wa env fun x e1 => wb e1 fun y e2 => bo x y fun ev => Q ev e2
theorem op_rd {r : R2} {bo : D → D → (EV → Prop) → Prop} (hs : OpS K r bo) {wa wb : WD} {Q : VK} (h : rdE K (wOp bo wa wb) σ H Q) : tOp r (rdD K wa) (rdD K wb) σ H Q := by
  obtain ⟨F, G, s0, env, fp, Qd, S, hw, k⟩ := h
  exact ⟨F, G, s0, env, fp, _, S, hw, fun x v e1 G1 H1 gl1 ⟨fp1, S1⟩ R1 q1 => ⟨F, G1, s0, e1, fp1, _, S1, q1, fun y u e2 G2 H2 gl2 ⟨fp2, S2⟩ R2 q2 =>
    hs F G2 H2 s0 e2 σ fp2 x y v u Q (fun ev => Qd ev e2) S2 (R1.mono gl2.1) R2 q2 fun ev z G3 H3 gl3 evs q3 => k ev z e2 G3 H3 ((gl1.trans gl2).trans gl3) evs q3⟩⟩
theorem d_op {X : Cx} {a b : Expr} {op : Operator} {r : R2} {bo : D → D → (EV → Prop) → Prop} {wa wb : WD} {pos : Pos} (ho : OpR X (binaryOp op) r) (hs : OpS X.K r bo) (ha : PE X a (rdD X.K wa)) (hb : PE X b (rdD X.K wb)) :
    PE X (.BinOp a op b pos) (rdE X.K (wOp bo wa wb)) := PEimp (pe_op ho ha hb) fun _ _ _ h => op_rd hs h
theorem d_cmp {X : Cx} {a b : Expr} {op : CmpOp} {r : R2} {bo : D → D → (EV → Prop) → Prop} {wa wb : WD} {pos : Pos} (ho : OpR X (compareOp op) r) (hs : OpS X.K r bo) (ha : PE X a (rdD X.K wa)) (hb : PE X b (rdD X.K wb)) (hm : behindInMarks op b = false) :
    PE X (.Compare a [op] [b] pos) (rdE X.K (wOp bo wa wb)) := PEimp (pe_cmpR ho ha hb hm) fun _ _ _ h => op_rd hs h
/-- a value as a test's answer -/
def wTest (w : WE) : WT := fun env Q => w env fun ev e => ∃ b, ev = .d (.bl b) ∧ Q b e
theorem t_rd {w : WE} {Q : Bool → Hp → Prop} (h : rdT K (wTest w) σ H Q) : rdE K w σ H (fun x H' => ∃ k, x = .bl k ∧ Q k H') := by
  obtain ⟨F, G, s0, env, fp, Qd, S, hw, k⟩ := h
  exact ⟨F, G, s0, env, fp, _, S, hw, fun ev v e1 G1 H1 gl1 evs ⟨b, eb, q⟩ => by
    subst eb
    obtain ⟨S1, R⟩ := evs
    simp only [Rep] at R
    exact ⟨b, R, k b e1 G1 H1 gl1 S1 q⟩⟩
theorem t_cmp {X : Cx} {a b : Expr} {op : CmpOp} {r : R2} {bo : D → D → (EV → Prop) → Prop} {wa wb : WD} {pos : Pos} (ho : OpR X (compareOp op) r) (hs : OpS X.K r bo) (ha : PE X a (rdD X.K wa)) (hb : PE X b (rdD X.K wb)) (hm : behindInMarks op b = false) :
    PT X (.Compare a [op] [b] pos) (rdT X.K (wTest (wOp bo wa wb))) := PTimp (pt_cmpR ho ha hb hm) fun _ _ _ h => op_rd hs (t_rd h)
end
end Bv
end SBvD
section SBvE
set_option linter.all false
set_option Elab.async false
open PySem PySem.Spec PyProof.Rows L2
namespace Bv
/-! ### list + list, list * int, where the lists are read -/
theorem Inv.rdL {X : Cx} {pins : List (Addr × Obj)} {σ : L2.St} {H : Hp} {s : Shared} {l : Addr} {xs : List V} (I : L2.Inv X pins σ H s) (hH : Rd H l (.lst xs)) :
    xs.length ≤ sizeLine ∧ ∃ (its : List Value) (n : Nat), Vals xs its ∧ xs.length = its.length ∧ s.heap.get? l = some { cls := .type "list", data := .seq its.toArray n } := by
  obtain ⟨z, its, n, r, e⟩ := hH.ok I.hok
  exact ⟨z, its, n, r, r.length, e⟩
def rCatL : R2 := fun x y H Q => ∃ l b xs zs, x = .ref l ∧ y = .ref b ∧ Rd H l (.lst xs) ∧ Rd H b (.lst zs) ∧ xs.length + zs.length ≤ sizeLine ∧ ∀ p, H p = none → Q (.ref p) (upd H p (.lst (xs ++ zs)))
theorem op_catL {X : Cx} : OpR X (binaryOp .Add) rCatL := by
  intro pins s σ H x y v u Q I rx ry h
  obtain ⟨l, b, xs, zs, rfl, rfl, hH, hB, hz, q⟩ := h
  cases rx
  cases ry
  obtain ⟨z, its, n, r, hl, e⟩ := Inv.rdL I hH
  obtain ⟨z2, its2, n2, r2, hl2, e2⟩ := Inv.rdL I hB
  refine PySem.P.add_list e e2 ?_ (by rw [List.size_toArray, List.size_toArray]; omega)
  have ea : its.toArray ++ its2.toArray = (its ++ its2).toArray := by simp
  rw [ea]
  exact ⟨.ref _, _, I.lnew (t' := s.toks) (r.append r2) (by rw [List.length_append]; omega), rfl, q _ I.fresh⟩
def rRepL : R2 := fun x y H Q => ∃ l k xs, x = .ref l ∧ y = .int k ∧ Rd H l (.lst xs) ∧ -(2 ^ 63) ≤ k ∧ k < 2 ^ 63 ∧ xs.length * k.toNat ≤ sizeLine ∧
  ∀ p, H p = none → Q (.ref p) (upd H p (.lst (List.replicate k.toNat xs).flatten))
theorem op_repL {X : Cx} : OpR X (binaryOp .Mult) rRepL := by
  intro pins s σ H x y v u Q I rx ry h
  obtain ⟨l, k, xs, rfl, rfl, hH, h1, h2, hz, q⟩ := h
  cases rx
  obtain ⟨t, rfl⟩ := ry
  obtain ⟨z, its, n, r, hl, e⟩ := Inv.rdL I hH
  have hlen : its.toArray.size * k.toNat ≤ sizeLine := by rw [List.size_toArray, ← hl]; exact hz
  have hcap : ¬ its.toArray.size * k.toNat > (2 ^ 63 - 1) / 8 := by
    have : (sizeLine : Nat) ≤ (2 ^ 63 - 1) / 8 := by decide
    omega
  have hfit : ¬ (!Builtin.List.listFitsIndex k) = true := by
    rw [fitsIndex_both h1 h2]
    exact Bool.false_ne_true
  have hlong : ¬ Builtin.List.listTooLong (its.toArray.size * k.toNat) = true := by
    rw [notLongL hlen]
    exact Bool.false_ne_true
  have hnew : List.foldl (fun x1 x2 => x1 ++ x2) #[] (List.replicate (if its.toArray.isEmpty = true then 0 else k.toNat) its.toArray) = (List.replicate k.toNat its).flatten.toArray := by
    have f0 : ∀ m : Nat, List.foldl (fun x1 x2 => x1 ++ x2) #[] (List.replicate m its.toArray) = (List.replicate m its).flatten.toArray := fun m => by
      have := foldl_rep its m []
      rw [List.nil_append] at this
      exact this
    rw [f0]
    cases its with
    | nil => simp
    | cons a r' => rw [if_neg (by simp)]
  refine wpAny_binaryOp_repeat_ref (T := "list") (U := "int") (by decide) ⟨_, e, rfl⟩ (fun s' => typeIs_int s' k t) noFill_list_mul F.fills_int_mul F.slot_int_rmul repeat_list F.slot_int_index.lookup
    (call_meets F.slot_int_rmul (typeIs_int s k t) F.entry_int_rmul (F.args_int_rmul_2 _ _) (int___rmul___int_list k t l its.toArray n)
      ⟨e, rfl, ⟨_, e, rfl⟩, call_meets F.slot_list_mul ⟨_, e, rfl⟩ F.entry_list_mul (F.args_list_mul_2 _ _) (AutoListH.list___mul___list_int_3 l its.toArray n k t hfit hcap hlong) ⟨e, ?_⟩⟩)
  rw [hnew]
  exact ⟨.ref _, _, I.lnew (t' := s.toks) (r.rep k.toNat) (by rw [PyProof.Rows.lm_len_rep_flat, Nat.mul_comm]; exact hz), rfl, q _ I.fresh⟩

section
variable {K : PySem.W.Frag} {G G' H H' F F' : Hp} {s0 σ : L2.St} {env : Env} {fp : Nat → List Addr} {a : Addr}
/-- a new list of data, one's own -/
theorem Sim.newL {xs : List D} {vs : List V} {p : Addr} (S : Sim K F G H s0 env σ fp) (R : RepL K G xs vs) (hp : H p = none) : Tmp K F G (upd H p (.lst vs)) s0 env σ (.l (xs.map .d)) (.ref p) := by
  have T : Tmps K F G H s0 env σ (xs.map .d) vs := ⟨fp, [], List.nodup_nil, by
    clear S
    induction xs generalizing vs with
    | nil => simp only [RepL] at R; subst R; simp only [List.map_nil, TRL]; exact ⟨trivial, trivial⟩
    | cons x xs ih =>
      simp only [RepL] at R
      obtain ⟨v, r, rfl, h1, h2⟩ := R
      simp only [List.map_cons, TRL, TR]
      exact ⟨v, r, [], [], rfl, rfl, ⟨h1, rfl⟩, ih h2⟩, by rw [addF_nil]; exact S⟩
  exact T.list hp
theorem RepL.rep {xs : List D} {vs : List V} (R : RepL K G xs vs) : ∀ n : Nat, RepL K G (List.replicate n xs).flatten (List.replicate n vs).flatten
  | 0 => RepL.nil
  | n + 1 => by
    rw [List.replicate_succ, List.replicate_succ, List.flatten_cons, List.flatten_cons]
    exact R.append (RepL.rep R n)
def boAdd (x y : D) (Q : EV → Prop) : Prop := match x, y with
  | .int i, .int j => Q (.d (.int (i + j)))
  | .tup xs, .tup ys => xs.length + ys.length ≤ 1000000 ∧ Q (.d (.tup (xs ++ ys)))
  | .lst xs, .lst ys => xs.length + ys.length ≤ 1000000 ∧ Q (.o (.l ((xs ++ ys).map .d)))
  | _, _ => False
def rAddA (K : PySem.W.Frag) : R2 := fun x y H Q => rI0 (fun i j => .int (i + j)) x y H Q ∨ rCatA K x y H Q ∨ rCatL x y H Q
theorem op_addA {X : Cx} : OpR X (binaryOp .Add) (rAddA X.K) := op_add.or (op_catA.or op_catL)
theorem SqT.lift {K : PySem.W.Frag} {p : Addr} {xs : List V} (g : Same G H) (h : SqT K G p xs) : SqT K H p xs := same_t g h
theorem s_add : OpS K (rAddA K) boAdd := by
  intro F G H s0 env σ fp x y v u Q Qd S rx ry h k
  cases x <;> cases y <;> try exact h.elim
  case int.int i j =>
    simp only [Rep] at rx ry
    exact .inl ⟨i, j, rx, ry, k (.d (.int (i + j))) _ G H (Gle.refl F G) ⟨⟨fp, S⟩, by simp only [Rep]⟩ h⟩
  case tup.tup xs ys =>
    simp only [Rep] at rx ry
    obtain ⟨a, vs, rfl, s1, r1⟩ := rx
    obtain ⟨b, ws, rfl, s2, r2⟩ := ry
    obtain ⟨hl, h⟩ := h
    have l1 := r1.length
    have l2 := r2.length
    refine .inr (.inl ⟨a, b, vs, ws, rfl, rfl, SqT.lift S.gh s1, SqT.lift S.gh s2, by rw [← l1, ← l2]; exact mil hl, fun e => ?_, fun _ e => ?_, fun _ _ p hp => ?_⟩)
    · subst e
      have : xs = [] := List.eq_nil_of_length_eq_zero l1
      subst this
      refine k (.d (.tup ([] ++ ys))) _ G H (Gle.refl F G) ⟨⟨fp, S⟩, ?_⟩ h
      simp only [List.nil_append, Rep]
      exact ⟨b, ws, rfl, s2, r2⟩
    · subst e
      have : ys = [] := List.eq_nil_of_length_eq_zero l2
      subst this
      refine k (.d (.tup (xs ++ []))) _ G H (Gle.refl F G) ⟨⟨fp, S⟩, ?_⟩ h
      simp only [List.append_nil, Rep]
      exact ⟨a, vs, rfl, s1, r1⟩
    · refine k (.d (.tup (xs ++ ys))) _ _ _ (Gle.data S.fh S.gh hp) ⟨⟨fp, S.data hp⟩, ?_⟩ h
      simp only [Rep]
      exact ⟨p, _, rfl, SqT.of upd_same, (r1.append r2).mono (Same.upd_new (Same.refl G) (Same.fresh S.gh hp)) _⟩
  case lst.lst xs ys =>
    simp only [Rep] at rx ry
    obtain ⟨a, vs, rfl, s1, r1⟩ := rx
    obtain ⟨b, ws, rfl, s2, r2⟩ := ry
    obtain ⟨hl, h⟩ := h
    have l1 := r1.length
    have l2 := r2.length
    exact .inr (.inr ⟨a, b, vs, ws, rfl, rfl, same_rd S.gh s1, same_rd S.gh s2, by rw [← l1, ← l2]; exact mil hl, fun p hp => k (.o (.l ((xs ++ ys).map .d))) _ G _ (Gle.refl F G) (S.newL (r1.append r2) hp) h⟩)
def boSub (x y : D) (Q : EV → Prop) : Prop := match x, y with
  | .int i, .int j => Q (.d (.int (i - j)))
  | _, _ => False
def mulOk (i j : Int) : Prop := (-(2 ^ 64) < i ∧ i < 2 ^ 64) ∨ (-(2 ^ 64) < j ∧ j < 2 ^ 64)
def boMul (x y : D) (Q : EV → Prop) : Prop := match x, y with
  | .int i, .int j => mulOk i j ∧ Q (.d (.int (i * j)))
  | .lst xs, .int j => (-1000000 < j ∧ j < 1000000) ∧ xs.length * j.toNat ≤ 1000000 ∧ Q (.o (.l ((List.replicate j.toNat xs).flatten.map .d)))
  | _, _ => False
theorem s_sub : OpS K (rI0 fun i j => .int (i - j)) boSub := by
  intro F G H s0 env σ fp x y v u Q Qd S rx ry h k
  cases x <;> cases y <;> try exact h.elim
  case int.int i j =>
    simp only [Rep] at rx ry
    exact ⟨i, j, rx, ry, k (.d (.int (i - j))) _ G H (Gle.refl F G) ⟨⟨fp, S⟩, by simp only [Rep]⟩ h⟩
def rMulA : R2 := fun x y H Q => rI CMul (fun i j => .int (i * j)) x y H Q ∨ rRepL x y H Q
theorem op_mulA {X : Cx} : OpR X (binaryOp .Mult) rMulA := op_mul.or op_repL
theorem s_mul : OpS K rMulA boMul := by
  intro F G H s0 env σ fp x y v u Q Qd S rx ry h k
  cases x <;> cases y <;> try exact h.elim
  case int.int i j =>
    simp only [Rep] at rx ry
    exact .inl ⟨i, j, rx, ry, h.1, k (.d (.int (i * j))) _ G H (Gle.refl F G) ⟨⟨fp, S⟩, by simp only [Rep]⟩ h.2⟩
  case lst.int xs j =>
    simp only [Rep] at rx ry
    obtain ⟨a, vs, rfl, s1, r1⟩ := rx
    obtain ⟨h1, h2, h⟩ := h
    have l1 := r1.length
    exact .inr ⟨a, j, vs, rfl, ry, same_rd S.gh s1, by omega, by omega, by rw [← l1]; exact mil h2, fun p hp => k (.o (.l ((List.replicate j.toNat xs).flatten.map .d))) _ G _ (Gle.refl F G) (S.newL (r1.rep j.toNat) hp) h⟩
end
end Bv
end SBvE
section SBvF
set_option linter.all false
set_option Elab.async false
open PySem PySem.Spec PyProof.Rows L2
namespace Bv
section
variable {K : PySem.W.Frag} {G G' H H' F F' : Hp} {s0 σ : L2.St} {env : Env} {fp : Nat → List Addr} {a : Addr}
/-! ### ints -/
def boI (C : Int → Int → Prop) (g : Int → Int → D) (x y : D) (Q : EV → Prop) : Prop := match x, y with
  | .int i, .int j => C i j ∧ Q (.d (g i j))
  | _, _ => False
theorem s_I {C : Int → Int → Prop} {g : Int → Int → D} {gV : Int → Int → V} (h : ∀ G i j, Rep K G (g i j) (gV i j)) : OpS K (rI C gV) (boI C g) := by
  intro F G H s0 env σ fp x y v u Q Qd S rx ry q k
  cases x <;> cases y <;> try exact q.elim
  case int.int i j =>
    simp only [Rep] at rx ry
    exact ⟨i, j, rx, ry, q.1, k (.d (g i j)) _ G H (Gle.refl F G) ⟨⟨fp, S⟩, h G i j⟩ q.2⟩
def boI0 (g : Int → Int → D) (x y : D) (Q : EV → Prop) : Prop := match x, y with
  | .int i, .int j => Q (.d (g i j))
  | _, _ => False
theorem s_I0 {g : Int → Int → D} {gV : Int → Int → V} (h : ∀ G i j, Rep K G (g i j) (gV i j)) : OpS K (rI0 gV) (boI0 g) := by
  intro F G H s0 env σ fp x y v u Q Qd S rx ry q k
  cases x <;> cases y <;> try exact q.elim
  case int.int i j =>
    simp only [Rep] at rx ry
    exact ⟨i, j, rx, ry, k (.d (g i j)) _ G H (Gle.refl F G) ⟨⟨fp, S⟩, h G i j⟩ q⟩
def boFdiv := boI CDiv fun i j => .int (i / j)
/-- the gate behind a statement -/
inductive Gt (A : Prop) : Prop where
  | mk (a : A)
  | mk2 (a : A)
theorem Gt.go {A : Prop} : Gt A → A
  | .mk a => a
  | .mk2 a => a
/-- the gate at a call -/
inductive Gc (A : Prop) : Prop where
  | mk (a : A)
  | mk2 (a : A)
theorem Gc.go {A : Prop} : Gc A → A
  | .mk a => a
  | .mk2 a => a
/-- a gate -/
structure Lp (A : Prop) : Prop where
  go : A
def boMod (x y : D) (Q : EV → Prop) : Prop := match x, y with
  | .int i, .int j => Lp (0 < j ∧ ∀ r, r = i % j → Q (.d (.int r)))
  | _, _ => False
def boPow := boI CPow fun i j => .int (i ^ j.toNat)
theorem s_fdiv : OpS K (rI CDiv fun i j => .int (i / j)) boFdiv := s_I fun _ _ _ => by simp only [Rep]
theorem s_mod : OpS K (rI (fun _ j => 0 < j) fun i j => .int (i % j)) boMod := by
  intro F G H s0 env σ fp x y v u Q Qd S rx ry q k
  cases x <;> cases y <;> try exact q.elim
  case int.int i j =>
    simp only [Rep] at rx ry
    obtain ⟨q⟩ := q
    exact ⟨i, j, rx, ry, q.1, k (.d (.int (i % j))) _ G H (Gle.refl F G) ⟨⟨fp, S⟩, by simp only [Rep]⟩ (q.2 _ rfl)⟩
theorem s_pow : OpS K (rI CPow fun i j => .int (i ^ j.toNat)) boPow := s_I fun _ _ _ => by simp only [Rep]
def boLt := boI0 fun i j => .bl (decide (i < j))
def boLe := boI0 fun i j => .bl (decide (i ≤ j))
def boGt := boI0 fun i j => .bl (decide (j < i))
def boGe := boI0 fun i j => .bl (decide (j ≤ i))
theorem s_lt : OpS K (rI0 fun i j => .bl (decide (i < j))) boLt := s_I0 fun _ _ _ => by simp only [Rep]
theorem s_le : OpS K (rI0 fun i j => .bl (decide (i ≤ j))) boLe := s_I0 fun _ _ _ => by simp only [Rep]
theorem s_gt : OpS K (rI0 fun i j => .bl (decide (j < i))) boGt := s_I0 fun _ _ _ => by simp only [Rep]
theorem s_ge : OpS K (rI0 fun i j => .bl (decide (j ≤ i))) boGe := s_I0 fun _ _ _ => by simp only [Rep]
/-! ### == -/
mutual
def toPy : D → Option PyData
  | .non => some .none
  | .bl b => some (.bool b)
  | .int i => some (.int i)
  | .str x => some (.str x)
  | .tup xs => (toPyL xs).map .tuple
  | .lst xs => (toPyL xs).map .list
  | _ => none
def toPyL : List D → Option (List PyData)
  | [] => some []
  | x :: xs => match toPy x, toPyL xs with
    | some a, some r => some (a :: r)
    | _, _ => none
end
mutual
theorem toPy_dp (g : Same G H) : ∀ (x : D) {v : V} {d : PyData}, Rep K G x v → toPy x = some d → Dp K H v d
  | .non, _, _, h, e => by simp only [Rep] at h; simp only [toPy, Option.some.injEq] at e; subst h e; exact .non
  | .bl b, _, _, h, e => by simp only [Rep] at h; simp only [toPy, Option.some.injEq] at e; subst h e; exact .bl b
  | .int i, _, _, h, e => by simp only [Rep] at h; simp only [toPy, Option.some.injEq] at e; subst h e; exact .int i
  | .str x, _, _, h, e => by simp only [Rep] at h; simp only [toPy, Option.some.injEq] at e; subst h e; exact .str x
  | .tup xs, _, _, h, e => by
    simp only [Rep] at h
    obtain ⟨a, vs, rfl, s, r⟩ := h
    simp only [toPy, Option.map_eq_some_iff] at e
    obtain ⟨ds, e1, rfl⟩ := e
    exact .tup (same_t g s) (toPyL_dp g xs r e1)
  | .lst xs, _, _, h, e => by
    simp only [Rep] at h
    obtain ⟨a, vs, rfl, s, r⟩ := h
    simp only [toPy, Option.map_eq_some_iff] at e
    obtain ⟨ds, e1, rfl⟩ := e
    exact .lst (.inl (same_rd g s)) (toPyL_dp g xs r e1)
  | .adr _, _, _, _, e => by simp [toPy] at e
  | .dct _, _, _, _, e => by simp [toPy] at e
  | .lsk _, _, _, _, e => by simp [toPy] at e
  | .ins _ _, _, _, _, e => by simp [toPy] at e
theorem toPyL_dp (g : Same G H) : ∀ (xs : List D) {vs : List V} {ds : List PyData}, RepL K G xs vs → toPyL xs = some ds → DpAll K H vs ds
  | [], _, _, h, e => by simp only [RepL] at h; simp only [toPyL, Option.some.injEq] at e; subst h e; exact .nil
  | x :: xs, _, _, h, e => by
    simp only [RepL] at h
    obtain ⟨v, r, rfl, h1, h2⟩ := h
    simp only [toPyL] at e
    cases e1 : toPy x with
    | none => rw [e1] at e; cases e
    | some a =>
      cases e2 : toPyL xs with
      | none => rw [e1, e2] at e; cases e
      | some b =>
        rw [e1, e2] at e
        cases e
        exact .cons (toPy_dp g x h1 e1) (toPyL_dp g xs h2 e2)
end
/-- == of data: ints, bools apart; the rest by the library's == of data -/
def eqD (x y : D) : Option Bool := match x, y with
  | .int i, .int j => some (decide (i = j))
  | .bl i, .bl j => some (decide (i = j))
  | x, y => match toPy x, toPy y with
    | some a, some b => if (SeqAt.shaped a && SeqAt.shaped b) = true then some (PyData.eqv a b) else none
    | _, _ => none
def boEq (x y : D) (Q : EV → Prop) : Prop := ∃ b, eqD x y = some b ∧ Q (.d (.bl b))
def boNe (x y : D) (Q : EV → Prop) : Prop := ∃ b, eqD x y = some b ∧ Q (.d (.bl (!b)))
def rEqA (K : PySem.W.Frag) : R2 := fun x y H Q => rEq x y H Q ∨ rEqD K x y H Q
def rNeA (K : PySem.W.Frag) : R2 := fun x y H Q => rNe x y H Q ∨ rNeD K x y H Q
theorem op_eqA {X : Cx} (hu : X.A.units + 64 < cLine) : OpR X (compareOp .Eq) (rEqA X.K) := op_eq.or (op_eqD hu)
theorem op_neA {X : Cx} (hu : X.A.units + 64 < cLine) : OpR X (compareOp .NotEq) (rNeA X.K) := op_ne.or (op_neD hu)
theorem eqD_py {x y : D} {b : Bool} (h : eqD x y = some b) : (∃ i j, x = .int i ∧ y = .int j ∧ b = decide (i = j)) ∨ (∃ i j, x = .bl i ∧ y = .bl j ∧ b = decide (i = j)) ∨
    ∃ p q, toPy x = some p ∧ toPy y = some q ∧ SeqAt.shaped p = true ∧ SeqAt.shaped q = true ∧ b = PyData.eqv p q := by
  unfold eqD at h
  split at h
  · cases h; exact .inl ⟨_, _, rfl, rfl, rfl⟩
  · cases h; exact .inr (.inl ⟨_, _, rfl, rfl, rfl⟩)
  · split at h
    · split at h
      · cases h
        rename_i e1 e2 e3
        rw [Bool.and_eq_true] at e3
        exact .inr (.inr ⟨_, _, e1, e2, e3.1, e3.2, rfl⟩)
      · cases h
    · cases h
theorem s_eq : OpS K (rEqA K) boEq := by
  intro F G H s0 env σ fp x y v u Q Qd S rx ry ⟨b, e, q⟩ k
  have kk := k (.d (.bl b)) (.bl b) G H (Gle.refl F G) ⟨⟨fp, S⟩, by simp only [Rep]⟩ q
  rcases eqD_py e with ⟨i, j, rfl, rfl, rfl⟩ | ⟨i, j, rfl, rfl, rfl⟩ | ⟨p, p', e1, e2, e3, e4, rfl⟩
  · simp only [Rep] at rx ry
    subst rx ry
    exact .inl ⟨rfl, by simpa using kk⟩
  · simp only [Rep] at rx ry
    subst rx ry
    exact .inl ⟨rfl, by simpa using kk⟩
  · exact .inr ⟨p, p', toPy_dp S.gh x rx e1, toPy_dp S.gh y ry e2, e3, e4, kk⟩
theorem s_ne : OpS K (rNeA K) boNe := by
  intro F G H s0 env σ fp x y v u Q Qd S rx ry ⟨b, e, q⟩ k
  have kk := k (.d (.bl (!b))) (.bl (!b)) G H (Gle.refl F G) ⟨⟨fp, S⟩, by simp only [Rep]⟩ q
  rcases eqD_py e with ⟨i, j, rfl, rfl, rfl⟩ | ⟨i, j, rfl, rfl, rfl⟩ | ⟨p, p', e1, e2, e3, e4, rfl⟩
  · simp only [Rep] at rx ry
    subst rx ry
    exact .inl ⟨rfl, by simpa using kk⟩
  · simp only [Rep] at rx ry
    subst rx ry
    exact .inl ⟨rfl, by simpa using kk⟩
  · exact .inr ⟨p, p', toPy_dp S.gh x rx e1, toPy_dp S.gh y ry e2, e3, e4, kk⟩
/-! ### is None, is True, is False (of anything but an address) -/
def sameD : D → D → Option Bool
  | .non, .non => some true
  | .bl a, .bl b => some (decide (a = b))
  | x, .non => match x with
    | .non => some true
    | _ => some false
  | .non, .bl _ => some false
  | .int _, .bl _ => some false
  | .str _, .bl _ => some false
  | _, _ => none
def boIs (x y : D) (Q : EV → Prop) : Prop := ∃ b, sameD x y = some b ∧ Q (.d (.bl b))
def boIsNot (x y : D) (Q : EV → Prop) : Prop := ∃ b, sameD x y = some b ∧ Q (.d (.bl (!b)))
def sameV (x y : V) : Option Bool := match y with
  | .non => some (decide (x = .non))
  | .bl b => match x with
    | .bl a => some (decide (a = b))
    | .non => some false
    | .int _ => some false
    | .str _ => some false
    | _ => none
  | _ => none
theorem op_isV {X : Cx} : OpR X (compareOp .Is) (fun x y H Q => ∃ b, sameV x y = some b ∧ Q (.bl b) H) := by
  intro pins s σ H x y v u Q I rx ry h
  obtain ⟨b, e, q⟩ := h
  cases y with
  | non =>
    simp only [sameV, Option.some.injEq] at e
    subst e
    exact op_isN pins s σ H x .non v u Q I rx ry ⟨rfl, q⟩
  | bl c =>
    cases x with
    | bl a =>
      simp only [sameV, Option.some.injEq] at e
      subst e
      exact op_isBl pins s σ H (.bl a) (.bl c) v u Q I rx ry ⟨a, c, rfl, rfl, q⟩
    | non =>
      simp only [sameV, Option.some.injEq] at e
      subst e
      cases rx; cases ry
      exact wpAny_is_other rfl (fun z => nomatch z) ⟨.bl false, H, I, rfl, q⟩
    | int i =>
      simp only [sameV, Option.some.injEq] at e
      subst e
      obtain ⟨t, rfl⟩ := rx; cases ry
      exact wpAny_is_other rfl (fun z => nomatch z) ⟨.bl false, H, I, rfl, q⟩
    | str i =>
      simp only [sameV, Option.some.injEq] at e
      subst e
      obtain ⟨t, rfl⟩ := rx; cases ry
      exact wpAny_is_other rfl (fun z => nomatch z) ⟨.bl false, H, I, rfl, q⟩
    | _ => cases e
  | _ => cases e
theorem op_isNotV {X : Cx} : OpR X (compareOp .IsNot) (fun x y H Q => ∃ b, sameV x y = some b ∧ Q (.bl (!b)) H) := by
  intro pins s σ H x y v u Q I rx ry h
  obtain ⟨b, e, q⟩ := h
  cases y with
  | non =>
    simp only [sameV, Option.some.injEq] at e
    subst e
    exact op_notN pins s σ H x .non v u Q I rx ry ⟨rfl, q⟩
  | bl c =>
    cases x with
    | bl a =>
      simp only [sameV, Option.some.injEq] at e
      subst e
      exact op_notBl pins s σ H (.bl a) (.bl c) v u Q I rx ry ⟨a, c, rfl, rfl, q⟩
    | non =>
      simp only [sameV, Option.some.injEq] at e
      subst e
      cases rx; cases ry
      exact wpAny_isNot_other rfl (fun z => nomatch z) ⟨.bl true, H, I, rfl, q⟩
    | int i =>
      simp only [sameV, Option.some.injEq] at e
      subst e
      obtain ⟨t, rfl⟩ := rx; cases ry
      exact wpAny_isNot_other rfl (fun z => nomatch z) ⟨.bl true, H, I, rfl, q⟩
    | str i =>
      simp only [sameV, Option.some.injEq] at e
      subst e
      obtain ⟨t, rfl⟩ := rx; cases ry
      exact wpAny_isNot_other rfl (fun z => nomatch z) ⟨.bl true, H, I, rfl, q⟩
    | _ => cases e
  | _ => cases e
theorem sameD_V {x y : D} {v u : V} {b : Bool} (rx : Rep K G x v) (ry : Rep K G y u) (h : sameD x y = some b) : sameV v u = some b := by
  cases y with
  | non =>
    simp only [Rep] at ry; subst ry
    cases x <;> simp only [sameD, Option.some.injEq] at h <;> simp only [Rep] at rx
    case non => subst rx h; rfl
    case bl => subst rx h; rfl
    case int => subst rx h; rfl
    case str => subst rx h; rfl
    case adr => subst rx h; rfl
    case tup => obtain ⟨a, vs, rfl, _⟩ := rx; subst h; rfl
    case lst => obtain ⟨a, vs, rfl, _⟩ := rx; subst h; rfl
    case lsk => obtain ⟨a, vs, rfl, _⟩ := rx; subst h; rfl
    case dct => obtain ⟨a, vs, rfl, _⟩ := rx; subst h; rfl
    case ins => obtain ⟨a, _, vs, rfl, _⟩ := rx; subst h; rfl
  | bl c =>
    simp only [Rep] at ry; subst ry
    cases x <;> simp only [sameD, Option.some.injEq, reduceCtorEq] at h <;> simp only [Rep] at rx <;> subst rx h <;> rfl
  | _ => cases x <;> simp [sameD] at h
theorem s_is : OpS K (fun x y H Q => ∃ b, sameV x y = some b ∧ Q (.bl b) H) boIs := by
  intro F G H s0 env σ fp x y v u Q Qd S rx ry ⟨b, e, q⟩ k
  exact ⟨b, sameD_V rx ry e, k (.d (.bl b)) (.bl b) G H (Gle.refl F G) ⟨⟨fp, S⟩, by simp only [Rep]⟩ q⟩
theorem s_isNot : OpS K (fun x y H Q => ∃ b, sameV x y = some b ∧ Q (.bl (!b)) H) boIsNot := by
  intro F G H s0 env σ fp x y v u Q Qd S rx ry ⟨b, e, q⟩ k
  exact ⟨b, sameD_V rx ry e, k (.d (.bl (!b))) (.bl (!b)) G H (Gle.refl F G) ⟨⟨fp, S⟩, by simp only [Rep]⟩ q⟩

/-! ### minus -/
def wNeg (w : WD) : WE := fun env Q => w env fun x e => ∃ i, x = .int i ∧ Q (.d (.int (-i))) e
theorem d_neg {X : Cx} {e : Expr} {w : WD} {pos : Pos} (h : PE X e (rdD X.K w)) : PE X (.UnaryOp .USub e pos) (rdE X.K (wNeg w)) := PEimp (pe_un un_neg h) fun σ H Q ⟨F, G, s0, env, fp, Qd, S, hw, k⟩ =>
  ⟨F, G, s0, env, fp, _, S, hw, fun x v e1 G1 H1 gl1 S1 R1 ⟨i, ei, q⟩ => by
    subst ei
    simp only [Rep] at R1
    exact ⟨i, R1, k (.d (.int (-i))) _ e1 G1 H1 gl1 ⟨S1, by simp only [Rep]⟩ q⟩⟩

/-! ### tests -/
/-- a test's two ways (a gate at which unfolding stops) -/
inductive Brn (c : Bool) (A B : Prop) : Prop where
  | t (h : c = true) (a : A)
  | f (h : c = false) (b : B)
theorem Brn.tt {A B : Prop} (h : Brn true A B) : A := by
  cases h with
  | t _ a => exact a
  | f h _ => cases h
theorem Brn.ff {A B : Prop} (h : Brn false A B) : B := by
  cases h with
  | t h _ => cases h
  | f _ b => exact b
def wAndT (a b : WT) : WT := fun env Q => a env fun c e => Brn c (b e Q) (Q false e)
def wOrT (a b : WT) : WT := fun env Q => a env fun c e => Brn c (Q true e) (b e Q)
def wNotT (a : WT) : WT := fun env Q => a env fun c e => Q (!c) e
theorem t_not {X : Cx} {e : Expr} {w : WT} {pos : Pos} (h : PT X e (rdT X.K w)) : PT X (.UnaryOp .Not e pos) (rdT X.K (wNotT w)) := PTimp (pt_not h) fun σ H Q ⟨F, G, s0, env, fp, Qd, S, hw, k⟩ =>
  ⟨F, G, s0, env, fp, _, S, hw, fun b e1 G1 H1 gl1 S1 q => k (!b) e1 G1 H1 gl1 S1 q⟩
theorem t_and {X : Cx} {a b : Expr} {rest : List Expr} {wa wb : WT} {pos : Pos} (ha : PT X a (rdT X.K wa)) (hb : PW X (.BoolOp .And (b :: rest) pos) (rdT X.K wb)) : PW X (.BoolOp .And (a :: b :: rest) pos) (rdT X.K (wAndT wa wb)) :=
  PWimp (pw_and ha hb) fun σ H Q ⟨F, G, s0, env, fp, Qd, S, hw, k⟩ => ⟨F, G, s0, env, fp, _, S, hw, fun c e1 G1 H1 gl1 ⟨fp1, S1⟩ q => by
    cases c with
    | true => exact ⟨F, G1, s0, e1, fp1, Qd, S1, q.tt, fun b e2 G2 H2 gl2 S2 q2 => k b e2 G2 H2 (gl1.trans gl2) S2 q2⟩
    | false => exact k false e1 G1 H1 gl1 ⟨fp1, S1⟩ q.ff⟩
theorem t_or {X : Cx} {a b : Expr} {rest : List Expr} {wa wb : WT} {pos : Pos} (ha : PT X a (rdT X.K wa)) (hb : PW X (.BoolOp .Or (b :: rest) pos) (rdT X.K wb)) : PW X (.BoolOp .Or (a :: b :: rest) pos) (rdT X.K (wOrT wa wb)) :=
  PWimp (pw_or ha hb) fun σ H Q ⟨F, G, s0, env, fp, Qd, S, hw, k⟩ => ⟨F, G, s0, env, fp, _, S, hw, fun c e1 G1 H1 gl1 ⟨fp1, S1⟩ q => by
    cases c with
    | true => exact k true e1 G1 H1 gl1 ⟨fp1, S1⟩ q.tt
    | false => exact ⟨F, G1, s0, e1, fp1, Qd, S1, q.ff, fun b e2 G2 H2 gl2 S2 q2 => k b e2 G2 H2 (gl1.trans gl2) S2 q2⟩⟩
/-- .. as values -/
def wAndV (a b : WE) : WE := fun env Q => a env fun ev e => ∃ c, ev = .d (.bl c) ∧ Brn c (b e Q) (Q (.d (.bl false)) e)
def wOrV (a b : WE) : WE := fun env Q => a env fun ev e => ∃ c, ev = .d (.bl c) ∧ Brn c (Q (.d (.bl true)) e) (b e Q)
theorem d_and {X : Cx} {a b : Expr} {rest : List Expr} {wa wb : WE} {pos : Pos} (ha : PE X a (rdE X.K wa)) (hb : PE X (.BoolOp .And (b :: rest) pos) (rdE X.K wb)) : PE X (.BoolOp .And (a :: b :: rest) pos) (rdE X.K (wAndV wa wb)) :=
  PEimp (pe_and ha hb) fun σ H Q ⟨F, G, s0, env, fp, Qd, S, hw, k⟩ => ⟨F, G, s0, env, fp, _, S, hw, fun ev v e1 G1 H1 gl1 evs ⟨c, ec, q⟩ => by
    subst ec
    obtain ⟨⟨fp1, S1⟩, R⟩ := evs
    simp only [Rep] at R
    refine ⟨c, R, ?_⟩
    cases c with
    | true => exact ⟨F, G1, s0, e1, fp1, Qd, S1, q.tt, fun ev v e2 G2 H2 gl2 evs2 q2 => k ev v e2 G2 H2 (gl1.trans gl2) evs2 q2⟩
    | false => exact k (.d (.bl false)) _ e1 G1 H1 gl1 ⟨⟨fp1, S1⟩, by simp only [Rep]⟩ q.ff⟩
theorem d_or {X : Cx} {a b : Expr} {rest : List Expr} {wa wb : WE} {pos : Pos} (ha : PE X a (rdE X.K wa)) (hb : PE X (.BoolOp .Or (b :: rest) pos) (rdE X.K wb)) : PE X (.BoolOp .Or (a :: b :: rest) pos) (rdE X.K (wOrV wa wb)) :=
  PEimp (pe_or ha hb) fun σ H Q ⟨F, G, s0, env, fp, Qd, S, hw, k⟩ => ⟨F, G, s0, env, fp, _, S, hw, fun ev v e1 G1 H1 gl1 evs ⟨c, ec, q⟩ => by
    subst ec
    obtain ⟨⟨fp1, S1⟩, R⟩ := evs
    simp only [Rep] at R
    refine ⟨c, R, ?_⟩
    cases c with
    | true => exact k (.d (.bl true)) _ e1 G1 H1 gl1 ⟨⟨fp1, S1⟩, by simp only [Rep]⟩ q.tt
    | false => exact ⟨F, G1, s0, e1, fp1, Qd, S1, q.ff, fun ev v e2 G2 H2 gl2 evs2 q2 => k ev v e2 G2 H2 (gl1.trans gl2) evs2 q2⟩⟩
def wNotV (w : WE) : WE := fun env Q => w env fun ev e => ∃ c, ev = .d (.bl c) ∧ Q (.d (.bl (!c))) e
theorem d_not {X : Cx} {e : Expr} {w : WE} {pos : Pos} (h : PE X e (rdE X.K w)) : PE X (.UnaryOp .Not e pos) (rdE X.K (wNotV w)) :=
  PEimp (pe_not h) fun σ H Q ⟨F, G, s0, env, fp, Qd, S, hw, k⟩ => ⟨F, G, s0, env, fp, _, S, hw, fun ev v e1 G1 H1 gl1 evs ⟨c, ec, q⟩ => by
    subst ec
    obtain ⟨S1, R⟩ := evs
    simp only [Rep] at R
    exact ⟨c, R, k (.d (.bl (!c))) _ e1 G1 H1 gl1 ⟨S1, by simp only [Rep]⟩ q⟩⟩
def wIf (t : WT) (a b : WE) : WE := fun env Q => t env fun c e => Brn c (a e Q) (b e Q)
theorem d_if {X : Cx} {c a b : Expr} {wt : WT} {wa wb : WE} {pos : Pos} (hc : PT X c (rdT X.K wt)) (ha : PE X a (rdE X.K wa)) (hb : PE X b (rdE X.K wb)) : PE X (.IfExp c a b pos) (rdE X.K (wIf wt wa wb)) :=
  PEimp (pe_ifExp hc ha hb) fun σ H Q ⟨F, G, s0, env, fp, Qd, S, hw, k⟩ => ⟨F, G, s0, env, fp, _, S, hw, fun c e1 G1 H1 gl1 ⟨fp1, S1⟩ q => by
    cases c with
    | true => exact ⟨F, G1, s0, e1, fp1, Qd, S1, q.tt, fun ev v e2 G2 H2 gl2 evs2 q2 => k ev v e2 G2 H2 (gl1.trans gl2) evs2 q2⟩
    | false => exact ⟨F, G1, s0, e1, fp1, Qd, S1, q.ff, fun ev v e2 G2 H2 gl2 evs2 q2 => k ev v e2 G2 H2 (gl1.trans gl2) evs2 q2⟩⟩
/-- a o1 b o2 c -/
def wChain (b1 b2 : D → D → (EV → Prop) → Prop) (wa wb wc : WD) : WE := fun env Q => wa env fun x e1 => wb e1 fun y e2 => b1 x y fun ev => ∃ c, ev = .d (.bl c) ∧ Brn c (wc e2 fun z e3 => b2 y z fun ev2 => Q ev2 e3) (Q (.d (.bl false)) e2)
theorem chain_rd {r r' : R2} {b1 b2 : D → D → (EV → Prop) → Prop} {wa wb wc : WD} (h1 : OpS K r b1) (h2 : OpS K r' b2) {Q : VK} (h : rdE K (wChain b1 b2 wa wb wc) σ H Q) : tChain r r' (rdD K wa) (rdD K wb) (rdD K wc) σ H Q := by
  obtain ⟨F, G, s0, env, fp, Qd, S, hw, k⟩ := h
  refine ⟨F, G, s0, env, fp, _, S, hw, fun x v e1 G1 H1 gl1 ⟨fp1, S1⟩ R1 q1 => ⟨F, G1, s0, e1, fp1, _, S1, q1, fun y u e2 G2 H2 gl2 ⟨fp2, S2⟩ R2 q2 => ?_⟩⟩
  refine h1 F G2 H2 s0 e2 σ fp2 x y v u _ _ S2 (R1.mono gl2.1) R2 q2 fun ev z G3 H3 gl3 evs ⟨c, ec, q3⟩ => ?_
  subst ec
  obtain ⟨⟨fp3, S3⟩, R3⟩ := evs
  simp only [Rep] at R3
  refine ⟨c, R3, ?_⟩
  cases c with
  | true =>
    refine ⟨F, G3, s0, e2, fp3, _, S3, q3.tt, fun z' w e3 G4 H4 gl4 ⟨fp4, S4⟩ R4 q4 => ?_⟩
    exact h2 F G4 H4 s0 e3 σ fp4 y z' u w Q (fun ev => Qd ev e3) S4 ((R2.mono gl3.1).mono gl4.1) R4 q4 fun ev t G5 H5 gl5 evs5 q5 => k ev t e3 G5 H5 ((((gl1.trans gl2).trans gl3).trans gl4).trans gl5) evs5 q5
  | false => exact k (.d (.bl false)) _ e2 G3 H3 ((gl1.trans gl2).trans gl3) ⟨⟨fp3, S3⟩, by simp only [Rep]⟩ q3.ff
theorem d_chain {X : Cx} {a b c : Expr} {op op' : CmpOp} {r r' : R2} {b1 b2 : D → D → (EV → Prop) → Prop} {wa wb wc : WD} {pos : Pos} (ho : OpR X (compareOp op) r) (ho' : OpR X (compareOp op') r') (h1 : OpS X.K r b1) (h2 : OpS X.K r' b2)
    (ha : PE X a (rdD X.K wa)) (hb : PE X b (rdD X.K wb)) (hc : PE X c (rdD X.K wc)) (hm : lastMarks [op, op'] [b, c] = false) : PE X (.Compare a [op, op'] [b, c] pos) (rdE X.K (wChain b1 b2 wa wb wc)) :=
  PEimp (pe_chain ho ho' ha hb hc hm) fun _ _ _ h => chain_rd h1 h2 h
theorem t_chain {X : Cx} {a b c : Expr} {op op' : CmpOp} {r r' : R2} {b1 b2 : D → D → (EV → Prop) → Prop} {wa wb wc : WD} {pos : Pos} (ho : OpR X (compareOp op) r) (ho' : OpR X (compareOp op') r') (h1 : OpS X.K r b1) (h2 : OpS X.K r' b2)
    (ha : PE X a (rdD X.K wa)) (hb : PE X b (rdD X.K wb)) (hc : PE X c (rdD X.K wc)) (hm : lastMarks [op, op'] [b, c] = false) : PT X (.Compare a [op, op'] [b, c] pos) (rdT X.K (wTest (wChain b1 b2 wa wb wc))) :=
  PTimp (pt_chain ho ho' ha hb hc hm) fun _ _ _ h => chain_rd h1 h2 (t_rd h)
end
end Bv
end SBvF
section SBvG
set_option linter.all false
set_option Elab.async false
open PySem PySem.Spec PyProof.Rows L2
namespace Bv
/-- a list's or a tuple's items (true: a tuple) -/
def viewO : OT → Option (Bool × List OT)
  | .d (.tup xs) => some (true, xs.map .d)
  | .d (.lst xs) => some (false, xs.map .d)
  | .d (.lsk xs) => some (false, xs.map .d)
  | .l os => some (false, os)
  | _ => none
/-- the tree that a value stands for now -/
def nodeOf (env : Env) : EV → Option OT
  | .d x => some (.d x)
  | .o t => some t
  | .s j => match sget env j with
    | .t o => some o
    | .a o => some o
    | .al k p => match treeOf env k with
      | some o => nodeAt p o
      | none => none
    | .no => none
  | .p j p => match treeOf env j with
    | some o => nodeAt p o
    | none => none
def view (env : Env) (ev : EV) : Option (Bool × List OT) := match nodeOf env ev with
  | some o => viewO o
  | none => none
def allD : List OT → Option (List D)
  | [] => some []
  | .d x :: r => match allD r with
    | some xs => some (x :: xs)
    | none => none
  | _ :: _ => none
theorem allD_map : ∀ (xs : List D), allD (xs.map .d) = some xs
  | [] => rfl
  | x :: xs => by simp only [List.map_cons, allD, allD_map xs]
section
variable {K : PySem.W.Frag} {G G' H H' F F' : Hp} {s0 σ : L2.St} {env : Env} {fp : Nat → List Addr} {a : Addr}
theorem RepL.trl : ∀ {xs : List D} {vs : List V}, RepL K G xs vs → TRL K G F H (xs.map .d) vs []
  | [], _, h => by simp only [RepL] at h; subst h; simp only [List.map_nil, TRL]; exact ⟨trivial, trivial⟩
  | x :: xs, _, h => by
    simp only [RepL] at h
    obtain ⟨v, r, rfl, h1, h2⟩ := h
    simp only [List.map_cons, TRL, TR]
    exact ⟨v, r, [], [], rfl, rfl, ⟨h1, rfl⟩, RepL.trl h2⟩
theorem TRL.repL : ∀ {os : List OT} {xs : List D} {vs : List V} {f : List Addr}, TRL K G F H os vs f → allD os = some xs → RepL K G xs vs
  | [], xs, vs, f, h, e => by
    simp only [TRL] at h
    simp only [allD, Option.some.injEq] at e
    subst e
    rw [h.1]; exact RepL.nil
  | o :: os, xs, vs, f, h, e => by
    simp only [TRL] at h
    obtain ⟨v, r, f1, f2, rfl, rfl, h1, h2⟩ := h
    cases o with
    | d x =>
      simp only [allD] at e
      cases e2 : allD os with
      | none => rw [e2] at e; cases e
      | some ys =>
        rw [e2] at e
        cases e
        simp only [TR] at h1
        exact RepL.cons h1.1 (TRL.repL h2 e2)
    | _ => simp [allD] at e
/-- what a value stands for, in the heap -/
theorem node_ok {ev : EV} {v : V} {o : OT} (h : EVS K F G H s0 env σ ev v) (e : nodeOf env ev = some o) : Same G H ∧ ∃ F' f, TR K G F' H o v f := by
  cases ev with
  | d x =>
    obtain ⟨⟨fp, S⟩, R⟩ := h
    simp only [nodeOf, Option.some.injEq] at e
    subst e
    exact ⟨S.gh, F, [], by simp only [TR]; exact ⟨R, trivial⟩⟩
  | o t =>
    obtain ⟨fp, f, n, T, S⟩ := h
    simp only [nodeOf, Option.some.injEq] at e
    subst e
    exact ⟨S.gh, F, f, T⟩
  | s j =>
    obtain ⟨⟨fp, S⟩, hv⟩ := h
    have q := S.sl j
    simp only [nodeOf] at e
    cases e1 : sget env j with
    | no => rw [e1] at e; cases e
    | t o' =>
      rw [e1] at e q; cases e
      obtain ⟨v', h1, h2⟩ := q
      rw [hv] at h1; cases h1
      exact ⟨S.gh, F, _, h2⟩
    | a o' =>
      rw [e1] at e q; cases e
      obtain ⟨v', h1, _, h2⟩ := q
      rw [hv] at h1; cases h1
      exact ⟨S.gh, F, _, h2⟩
    | al k p =>
      rw [e1] at e q
      obtain ⟨_, o1, o', v0, v', h1, h2, h3, h4, h5⟩ := q
      rw [hv] at h5; cases h5
      simp only [h1] at e
      obtain ⟨v0', e0, T⟩ := S.tree h1
      rw [h3] at e0; cases e0
      obtain ⟨w, f, e2, T', _, _⟩ := T.at e
      rw [h4] at e2; cases e2
      exact ⟨S.gh, F, f, T'⟩
  | p j p =>
    obtain ⟨⟨fp, S⟩, v0, hv, hw⟩ := h
    simp only [nodeOf] at e
    cases e1 : treeOf env j with
    | none => rw [e1] at e; cases e
    | some o1 =>
      rw [e1] at e
      obtain ⟨v0', e0, T⟩ := S.tree e1
      rw [hv] at e0; cases e0
      obtain ⟨w, f, e2, T', _, _⟩ := T.at e
      rw [hw] at e2; cases e2
      exact ⟨S.gh, F, f, T'⟩
theorem viewO_ok {o : OT} {v : V} {b : Bool} {os : List OT} {f : List Addr} (g : Same G H) (T : TR K G F H o v f) (e : viewO o = some (b, os)) :
    ∃ a vs f', v = .ref a ∧ (b = true → SqT K G a vs) ∧ (b = false → SqL K H a vs) ∧ TRL K G F H os vs f' := by
  unfold viewO at e
  split at e
  · cases e
    simp only [TR, Rep] at T
    obtain ⟨⟨a, vs, rfl, s, r⟩, _⟩ := T
    exact ⟨a, vs, [], rfl, (fun _ => s), (fun z => nomatch z), r.trl⟩
  · cases e
    simp only [TR, Rep] at T
    obtain ⟨⟨a, vs, rfl, s, r⟩, _⟩ := T
    exact ⟨a, vs, [], rfl, (fun z => nomatch z), (fun _ => .inl (same_rd g s)), r.trl⟩
  · cases e
    simp only [TR, Rep] at T
    obtain ⟨⟨a, vs, rfl, s, r⟩, _⟩ := T
    exact ⟨a, vs, [], rfl, (fun z => nomatch z), (fun _ => same_l g s), r.trl⟩
  · cases e
    simp only [TR] at T
    obtain ⟨a, vs, f', rfl, _, h1, _, _, h4⟩ := T
    exact ⟨a, vs, f', rfl, (fun z => nomatch z), (fun _ => .inl (.inl h1)), h4⟩
  · cases e
theorem view_ok {ev : EV} {v : V} {b : Bool} {os : List OT} (h : EVS K F G H s0 env σ ev v) (e : view env ev = some (b, os)) :
    Same G H ∧ ∃ a vs F' f', v = .ref a ∧ (b = true → SqT K G a vs) ∧ (b = false → SqL K H a vs) ∧ TRL K G F' H os vs f' := by
  unfold view at e
  cases e1 : nodeOf env ev with
  | none => rw [e1] at e; cases e
  | some o =>
    rw [e1] at e
    obtain ⟨g, F', f, T⟩ := node_ok h e1
    obtain ⟨a, vs, f', h1, h2, h3, h4⟩ := viewO_ok g T e
    exact ⟨g, a, vs, F', f', h1, h2, h3, h4⟩
theorem EVS.sim {ev : EV} {v : V} (h : EVS K F G H s0 env σ ev v) (hn : ∀ t, ev ≠ .o t) : SimE K F G H s0 env σ := by
  cases ev with
  | o t => exact absurd rfl (hn t)
  | d x => exact h.1
  | s j => exact h.1
  | p j p => exact h.1
/-! ### a value that is looked into: a new object is frozen, a slot stays what it is -/
def pk (Q : EV → Env → Prop) : EV → Env → Prop
  | .o t, e => Q (.d (res t)) e
  | .d x, e => Q (.d x) e
  | .s j, e => Q (.s j) e
  | .p j p, e => Q (.p j p) e
def wP (w : WE) : WE := fun env Q => w env (pk Q)
theorem peek_ok {ev : EV} {v : V} {Q : EV → Env → Prop} (h : EVS K F G H s0 env σ ev v) (q : pk Q ev env) :
    ∃ ev' G', Gle F G G' ∧ EVS K F G' H s0 env σ ev' v ∧ (∀ t, ev' ≠ .o t) ∧ Q ev' env := by
  cases ev with
  | o t =>
    obtain ⟨fp, f, nf, T, S⟩ := h
    obtain ⟨S1, R, gl⟩ := S.freezeT T
    exact ⟨.d (res t), _, gl, ⟨⟨fp, S1⟩, R⟩, (fun _ z => nomatch z), q⟩
  | d x => exact ⟨.d x, G, Gle.refl F G, h, (fun _ z => nomatch z), q⟩
  | s j => exact ⟨.s j, G, Gle.refl F G, h, (fun _ z => nomatch z), q⟩
  | p j p => exact ⟨.p j p, G, Gle.refl F G, h, (fun _ z => nomatch z), q⟩
theorem d_peek {X : Cx} {e : Expr} {w : WE} (h : PE X e (rdE X.K w)) : PE X e (rdE X.K (wP w)) := PEimp h fun σ H Q ⟨F, G, s0, env, fp, Qd, S, hw, k⟩ =>
  ⟨F, G, s0, env, fp, _, S, hw, fun ev v env' G' H' gl evs q => by
    obtain ⟨ev', G2, gl2, evs2, _, q2⟩ := peek_ok evs q
    exact k ev' v env' G2 H' (gl.trans gl2) evs2 q2⟩
/-! ### attributes -/
/-- the class at C has attribute k of an instance's own -/
def AO (K : PySem.W.Frag) (ao : Addr → Nat → Prop) : Prop := ∀ C k, ao C k → k < 100 ∧ Cls K C ∧ NoAttr K C (nm k)
def wAttr (ao : Addr → Nat → Prop) (w : WE) (k : Nat) : WE := fun env Q => wP w env fun ev e => match nodeOf e ev with
  | some (.d (.ins C fs)) => ao C k ∧ ∃ x, getF k fs = some x ∧ Q (.d x) e
  | some (.o C fs) => ao C k ∧ ∃ x, getF k fs = some x ∧ Q (.d x) e
  | _ => False
theorem d_attr {X : Cx} {ao : Addr → Nat → Prop} {e : Expr} {w : WE} {k : Nat} {pos : Pos} (hao : AO X.K ao) (h : PE X e (rdE X.K w)) (hb : attributeBase e (nm k) X.env (eval e X.env) = eval e X.env) :
    PE X (.Attribute e (nm k) pos) (rdE X.K (wAttr ao w k)) := PEimp (pe_fld (d_peek h) hb) fun σ H Q ⟨F, G, s0, env, fp, Qd, S, hw, kk⟩ =>
  ⟨F, G, s0, env, fp, _, S, hw, fun ev v e1 G1 H1 gl1 evs q => by
    have hno : ∀ t, ev ≠ .o t ∨ True := fun _ => .inr trivial
    cases en : nodeOf e1 ev with
    | none => rw [en] at q; exact q.elim
    | some o =>
      rw [en] at q
      obtain ⟨g, F', f, T⟩ := node_ok evs en
      cases o with
      | l _ => exact q.elim
      | k _ => exact q.elim
      | d x =>
        cases x with
        | ins C fs =>
          obtain ⟨hc, y, hy, q⟩ := q
          obtain ⟨hk, c, n⟩ := hao C k hc
          simp only [TR, Rep] at T
          obtain ⟨⟨a, dx, ws, rfl, ha, r⟩, _⟩ := T
          obtain ⟨u, hu, R⟩ := r.get hk hy
          refine ⟨a, C, dx, ws, u, rfl, g _ _ ha, c, n, hu, ?_⟩
          cases ev with
          | o t =>
            obtain ⟨fp1, f1, nf, T1, S1⟩ := evs
            exact kk (.d y) u e1 G1 H1 gl1 ⟨⟨fp1, S1.unF fun b hb => (T1.own t b hb).2.2⟩, R⟩ q
          | d _ => exact kk (.d y) u e1 G1 H1 gl1 ⟨evs.1, R⟩ q
          | s _ => exact kk (.d y) u e1 G1 H1 gl1 ⟨evs.1, R⟩ q
          | p _ _ => exact kk (.d y) u e1 G1 H1 gl1 ⟨evs.1, R⟩ q
        | _ => exact q.elim
      | o C fs =>
        obtain ⟨hc, y, hy, q⟩ := q
        obtain ⟨hk, c, n⟩ := hao C k hc
        simp only [TR] at T
        obtain ⟨a, dx, ws, rfl, _, ha, _, _, r⟩ := T
        obtain ⟨u, hu, R⟩ := r.get hk hy
        refine ⟨a, C, dx, ws, u, rfl, ha, c, n, hu, ?_⟩
        cases ev with
        | o t =>
          obtain ⟨fp1, f1, nf, T1, S1⟩ := evs
          exact kk (.d y) u e1 G1 H1 gl1 ⟨⟨fp1, S1.unF fun b hb => (T1.own t b hb).2.2⟩, R⟩ q
        | d _ => exact kk (.d y) u e1 G1 H1 gl1 ⟨evs.1, R⟩ q
        | s _ => exact kk (.d y) u e1 G1 H1 gl1 ⟨evs.1, R⟩ q
        | p _ _ => exact kk (.d y) u e1 G1 H1 gl1 ⟨evs.1, R⟩ q⟩

/-! ### subscripts -/
/-- an index that is a slot's int or a constant -/
def ixS (env : Env) (y : D) (os : List OT) (Q : OT → Nat → Prop) : Prop := match y with
  | .int n => match ixN os.length n with
    | some k => match os[k]? with
      | some o => Q o k
      | none => False
    | none => False
  | _ => False
def rIxA (K : PySem.W.Frag) : R2 := fun x y H Q => rIxL K x y H Q ∨ rIxT K x y H Q
theorem ix_A {X : Cx} : IxR X (rIxA X.K) := ix_list.or ix_tup
/-- the read item is data -/
def ixQ (e : Env) (Q : EV → Env → Prop) (o : OT) (_ : Nat) : Prop := match o with
  | .d x => Q (.d x) e
  | _ => False
def ixV (wi : WD) (Q : EV → Env → Prop) (ev : EV) (e1 : Env) : Prop := match ev with
  | .p _ _ => False
  | .o _ => False
  | ev => wi e1 fun y e2 => match view e2 ev with
    | some (_, os) => ixS e2 y os (ixQ e2 Q)
    | none => False
def wIx (w : WE) (wi : WD) : WE := fun env Q => wP w env (ixV wi Q)
theorem atI_of {xs : List V} {n : Int} {k : Nat} {v : V} (h1 : ixN xs.length n = some k) (h2 : xs[k]? = some v) : atI xs n = some v := by
  unfold atI; rw [h1]; exact h2
theorem EVS.later {ev : EV} {v : V} {G2 H2 : Hp} {env2 : Env} (h : EVS K F G H s0 env σ ev v) (hn : ∀ t, ev ≠ .o t) (hp : ∀ j p, ev ≠ .p j p) (gl : Gle F G G2) (S : SimE K F G2 H2 s0 env2 σ) : EVS K F G2 H2 s0 env2 σ ev v := by
  cases ev with
  | o t => exact absurd rfl (hn t)
  | p j p => exact absurd rfl (hp j p)
  | d x => exact ⟨S, h.2.mono gl.1⟩
  | s j => exact ⟨S, h.2⟩
theorem ixS_ok {y : D} {u : V} {os : List OT} {vs : List V} {F' : Hp} {f : List Addr} {Q : OT → Nat → Prop} (R : Rep K G y u) (T : TRL K G F' H os vs f) (q : ixS env y os Q) :
    ∃ n k o v f', u = .int n ∧ os[k]? = some o ∧ atI vs n = some v ∧ ixN vs.length n = some k ∧ vs[k]? = some v ∧ TR K G F' H o v f' ∧ Q o k := by
  unfold ixS at q
  cases y with
  | int n =>
    simp only [Rep] at R
    simp only at q
    cases e3 : ixN os.length n with
    | none => rw [e3] at q; exact q.elim
    | some k =>
      rw [e3] at q
      simp only at q
      cases e4 : os[k]? with
      | none => rw [e4] at q; exact q.elim
      | some o =>
        rw [e4] at q
        obtain ⟨z, f', e5, e6, _, _⟩ := T.get e4
        have e3' : ixN vs.length n = some k := by rw [← T.length]; exact e3
        exact ⟨n, k, o, z, f', R, e4, atI_of e3' e5, e3', e5, e6, q⟩
  | _ => exact q.elim
theorem d_ix {X : Cx} {a b : Expr} {w : WE} {wi : WD} {pos : Pos} (ha : PE X a (rdE X.K w)) (hb : PE X b (rdD X.K wi)) (hs : PlainIx b) : PE X (.Subscript a b pos) (rdE X.K (wIx w wi)) :=
  PEimp (pe_ix ix_A (d_peek ha) hb hs) fun σ H Q ⟨F, G, s0, env, fp, Qd, S, hw, k⟩ => ⟨F, G, s0, env, fp, ixV wi Qd, S, hw, fun ev v e1 G1 H1 gl1 evs q => by
    have hno : ∀ t, ev ≠ .o t := fun t z => by subst z; exact q
    have hnp : ∀ j p, ev ≠ .p j p := fun j p z => by subst z; exact q
    obtain ⟨fp1, S1⟩ := evs.sim hno
    have q' : wi e1 fun y e2 => match view e2 ev with
        | some (_, os) => ixS e2 y os (ixQ e2 Qd)
        | none => False := by
      cases ev with
      | p j p => exact absurd rfl (hnp j p)
      | o t => exact absurd rfl (hno t)
      | _ => exact q
    refine ⟨F, G1, s0, e1, fp1, _, S1, q', fun y u e2 G2 H2 gl2 S2 R2 q2 => ?_⟩
    have evs2 := evs.later hno hnp gl2 S2
    cases ev2 : view e2 ev with
    | none => rw [ev2] at q2; exact q2.elim
    | some bo =>
      obtain ⟨bb, os⟩ := bo
      rw [ev2] at q2
      obtain ⟨g, a', vs, F', f', rfl, ht, hl, T⟩ := view_ok evs2 ev2
      obtain ⟨n, kk, o, z, f2, rfl, e4, hat, _, _, T2, q3⟩ := ixS_ok R2 T q2
      cases o with
      | d x =>
        simp only [TR] at T2
        have fin : Q z H2 := k (.d x) z e2 G2 H2 (gl1.trans gl2) ⟨S2, T2.1⟩ q3
        cases bb with
        | true => exact .inr ⟨a', vs, n, z, rfl, rfl, same_t g (ht rfl), hat, fin⟩
        | false => exact .inl ⟨a', vs, n, z, rfl, rfl, hl rfl, hat, fin⟩
      | _ => exact q3.elim⟩
/-- name[e], the name an owned list with owned lists in it: the place -/
def wPth (j : Nat) (wi : WD) : WE := fun env Q => (treeOf env j).isSome = true ∧ wi env fun y e2 => match treeOf e2 j with
  | some (.l os) => ixS e2 y os fun o k => match o with
    | .d x => Q (.d x) e2
    | _ => Q (.p j [k]) e2
  | _ => False
theorem d_pth {X : Cx} {x : Str} {p : Pos} {b : Expr} {j : Nat} {wi : WD} {pos : Pos} (ha : PE X (.Name x p) (tVar j)) (hb : PE X b (rdD X.K wi)) (hs : PlainIx b) : PE X (.Subscript (.Name x p) b pos) (rdE X.K (wPth j wi)) :=
  PEimp (pe_ix ix_A ha hb hs) fun σ H Q ⟨F, G, s0, env, fp, Qd, S, ⟨hsome, hw⟩, k⟩ => by
    obtain ⟨o0, ho0⟩ := Option.isSome_iff_exists.mp hsome
    obtain ⟨v, hv, _⟩ := S.tree ho0
    refine ⟨v, hv, F, G, s0, env, fp, _, S, hw, fun y u e2 G2 H2 gl2 ⟨fp2, S2⟩ R2 q2 => ?_⟩
    cases et : treeOf e2 j with
    | none => rw [et] at q2; exact q2.elim
    | some ot =>
      rw [et] at q2
      cases ot with
      | l os =>
        obtain ⟨v', hv', T⟩ := S2.tree et
        rw [hv] at hv'; cases hv'
        simp only [TR] at T
        obtain ⟨a, vs, f, rfl, _, h1, _, _, h4⟩ := T
        obtain ⟨n, kk, o, z, f2, rfl, e4, hat, e5, e6, T2, q3⟩ := ixS_ok R2 h4 q2
        have hw2 : walk H2 (.ref a) [kk] = some z := by simp only [walk, h1, e6]
        refine .inl ⟨a, vs, n, z, rfl, rfl, .inl (.inl h1), hat, ?_⟩
        cases o with
        | d x =>
          simp only [TR] at T2
          exact k (.d x) z e2 G2 H2 gl2 ⟨⟨fp2, S2⟩, T2.1⟩ q3
        | l _ => exact k (.p j [kk]) z e2 G2 H2 gl2 ⟨⟨fp2, S2⟩, .ref a, hv, hw2⟩ q3
        | k _ => exact k (.p j [kk]) z e2 G2 H2 gl2 ⟨⟨fp2, S2⟩, .ref a, hv, hw2⟩ q3
        | o _ _ => exact k (.p j [kk]) z e2 G2 H2 gl2 ⟨⟨fp2, S2⟩, .ref a, hv, hw2⟩ q3
      | _ => exact q2.elim

/-! ### slices of data, of a slot's list -/
def cutD {α : Type} (xs : List α) (lo hi : Option Int) : List α := (xs.drop (HT.sIx xs.length 0 lo)).take (HT.sIx xs.length xs.length hi - HT.sIx xs.length 0 lo)
def wPart (o : Option WD) : Env → (Option Int → Env → Prop) → Prop := match o with
  | none => fun env Q => Q none env
  | some w => fun env Q => w env fun y e => ∃ i, y = .int i ∧ Q (some i) e
def slV (lo hi : Option WD) (Q : EV → Env → Prop) (ev : EV) (e1 : Env) : Prop := match ev with
  | .p _ _ => False
  | .o _ => False
  | ev => wPart lo e1 fun l e2 => wPart hi e2 fun h e3 => match view e3 ev with
    | some (true, os) => (match allD os with
      | some xs => Q (.d (.tup (cutD xs l h))) e3
      | none => False)
    | some (false, os) => (match allD os with
      | some xs => Q (.o (.l ((cutD xs l h).map .d))) e3
      | none => False)
    | none => False
def wSlice (w : WE) (lo hi : Option WD) : WE := fun env Q => wP w env (slV lo hi Q)
def rdP (K : PySem.W.Frag) (w : Env → (Option Int → Env → Prop) → Prop) : TO := fun σ H Q => ∃ F G s0 env fp Qd, Sim K F G H s0 env σ fp ∧ w env Qd ∧ ∀ o env' G' H', Gle F G G' → SimE K F G' H' s0 env' σ → Qd o env' → Q o H'
theorem POimp {X : Cx} {e : Option Expr} {t t' : TO} (h : PO X e t) (k : ∀ σ H Q, t' σ H Q → t σ H Q) : PO X e t' := ⟨fun pins s σ H Q I q => h.run pins s σ H Q I (k σ H Q q)⟩
theorem part_none {X : Cx} : PO X none (rdP X.K (wPart none)) := POimp po_none fun σ H Q ⟨F, G, s0, env, fp, Qd, S, hw, k⟩ => k none env G H (Gle.refl F G) ⟨fp, S⟩ hw
theorem part_some {X : Cx} {e : Expr} {w : WD} (h : PE X e (rdD X.K w)) : PO X (some e) (rdP X.K (wPart (some w))) := POimp (po_some h) fun σ H Q ⟨F, G, s0, env, fp, Qd, S, hw, k⟩ =>
  ⟨F, G, s0, env, fp, _, S, hw, fun y v e1 G1 H1 gl S1 R ⟨i, ei, q⟩ => by
    subst ei
    simp only [Rep] at R
    exact ⟨i, R, k (some i) e1 G1 H1 gl S1 q⟩⟩
theorem RepL.take : ∀ {xs : List D} {vs : List V} (n : Nat), RepL K G xs vs → RepL K G (xs.take n) (vs.take n)
  | [], _, n, h => by simp only [RepL] at h; subst h; simp only [List.take_nil]; exact RepL.nil
  | x :: xs, _, n, h => by
    simp only [RepL] at h
    obtain ⟨v, r, rfl, h1, h2⟩ := h
    cases n with
    | zero => exact RepL.nil
    | succ n => simp only [List.take_succ_cons]; exact RepL.cons h1 (RepL.take n h2)
theorem RepL.drop : ∀ {xs : List D} {vs : List V} (n : Nat), RepL K G xs vs → RepL K G (xs.drop n) (vs.drop n)
  | [], _, n, h => by simp only [RepL] at h; subst h; simp only [List.drop_nil]; exact RepL.nil
  | x :: xs, _, n, h => by
    simp only [RepL] at h
    obtain ⟨v, r, rfl, h1, h2⟩ := h
    cases n with
    | zero => exact RepL.cons h1 h2
    | succ n => simp only [List.drop_succ_cons]; exact RepL.drop n h2
theorem RepL.cut {xs : List D} {vs : List V} (R : RepL K G xs vs) (lo hi : Option Int) : RepL K G (cutD xs lo hi) (cutV vs lo hi) := by
  unfold cutD cutV
  rw [R.length]
  exact (R.drop _).take _
def rSlAny (K : PySem.W.Frag) : V → Option Int → Option Int → Hp → VK → Prop := fun x lo hi H Q => rSlL K x lo hi H Q ∨ rSlA K x lo hi H Q
theorem sl_any {X : Cx} : SlR X (rSlAny X.K) := sl_list.or sl_tupA
theorem d_slice {X : Cx} {e : Expr} {w : WE} {lo hi : Option Expr} {wl wh : Option WD} {p2 pos : Pos} (he : PE X e (rdE X.K w)) (hl : PO X lo (rdP X.K (wPart wl))) (hh : PO X hi (rdP X.K (wPart wh))) :
    PE X (.Subscript e (.Slice lo hi none p2) pos) (rdE X.K (wSlice w wl wh)) := PEimp (pe_slice sl_any (d_peek he) hl hh) fun σ H Q ⟨F, G, s0, env, fp, Qd, S, hw, k⟩ => ⟨F, G, s0, env, fp, slV wl wh Qd, S, hw, fun ev v e1 G1 H1 gl1 evs q => by
    have hno : ∀ t, ev ≠ .o t := fun t z => by subst z; exact q
    have hnp : ∀ j p, ev ≠ .p j p := fun j p z => by subst z; exact q
    obtain ⟨fp1, S1⟩ := evs.sim hno
    have q' : wPart wl e1 fun l e2 => wPart wh e2 fun h e3 => match view e3 ev with
        | some (true, os) => (match allD os with
          | some xs => Qd (.d (.tup (cutD xs l h))) e3
          | none => False)
        | some (false, os) => (match allD os with
          | some xs => Qd (.o (.l ((cutD xs l h).map .d))) e3
          | none => False)
        | none => False := by
      cases ev with
      | p j p => exact absurd rfl (hnp j p)
      | o t => exact absurd rfl (hno t)
      | _ => exact q
    refine ⟨F, G1, s0, e1, fp1, _, S1, q', fun l e2 G2 H2 gl2 ⟨fp2, S2⟩ q2 => ⟨F, G2, s0, e2, fp2, _, S2, q2, fun h e3 G3 H3 gl3 S3 q3 => ?_⟩⟩
    have evs3 := evs.later hno hnp (gl2.trans gl3) S3
    have gl := (gl1.trans gl2).trans gl3
    obtain ⟨fp3, S3⟩ := S3
    cases ev2 : view e3 ev with
    | none => rw [ev2] at q3; exact q3.elim
    | some bo =>
      obtain ⟨bb, os⟩ := bo
      rw [ev2] at q3
      obtain ⟨g, a', vs, F', f', rfl, ht, hl, T⟩ := view_ok evs3 ev2
      cases bb with
      | true =>
        simp only at q3
        cases ea : allD os with
        | none => rw [ea] at q3; exact q3.elim
        | some xs =>
          rw [ea] at q3
          have R := (T.repL ea).cut l h
          have kk : ∀ (b : Addr) (G' H' : Hp), Gle F G3 G' → SimE X.K F G' H' s0 e3 σ → SqT X.K G' b (cutV vs l h) → Q (.ref b) H' := fun b G' H' g' S' sq =>
            k (.d (.tup (cutD xs l h))) (.ref b) e3 G' H' (gl.trans g') ⟨S', by
              simp only [Rep]
              exact ⟨b, _, rfl, sq, R.mono g'.1⟩⟩ q3
          refine .inr ⟨a', vs, rfl, same_t g (ht rfl), fun whole => ?_, fun _ p hp => kk p _ _ (Gle.data S3.fh S3.gh hp) ⟨fp3, S3.data hp⟩ (SqT.of upd_same)⟩
          have ec : cutV vs l h = vs := by
            unfold cutV
            rw [whole.1, whole.2]; simp
          exact kk a' G3 H3 (Gle.refl F G3) ⟨fp3, S3⟩ (by rw [ec]; exact ht rfl)
      | false =>
        simp only at q3
        cases ea : allD os with
        | none => rw [ea] at q3; exact q3.elim
        | some xs =>
          rw [ea] at q3
          exact .inl ⟨a', vs, rfl, hl rfl, fun p hp => k (.o (.l ((cutD xs l h).map .d))) (.ref p) e3 G3 _ gl (S3.newL ((T.repL ea).cut l h) hp) q3⟩⟩
end
end Bv
end SBvG
section SBvH
set_option linter.all false
set_option Elab.async false
open PySem PySem.Spec PyProof.Rows L2
namespace Bv
/-! ### truth -/
def truthO : OT → Option Bool
  | .d .non => some false
  | .d (.bl b) => some b
  | .d (.int i) => some (i != 0)
  | .d (.tup xs) => some (!xs.isEmpty)
  | .d (.lst xs) => some (!xs.isEmpty)
  | .d (.dct kvs) => some (!kvs.isEmpty)
  | .l os => some (!os.isEmpty)
  | .k kvs => some (!kvs.isEmpty)
  | _ => none
def truQ (Q : Bool → Env → Prop) (ev : EV) (e : Env) : Prop := match ev with
  | .o _ => False
  | ev => match nodeOf e ev with
    | some o => match truthO o with
      | some b => Q b e
      | none => False
    | none => False
def wTru (w : WE) : WT := fun env Q => wP w env (truQ Q)
section
variable {K : PySem.W.Frag} {G G' H H' F F' : Hp} {s0 σ : L2.St} {env : Env} {fp : Nat → List Addr} {a : Addr}
theorem isEmpty_len {α β : Type} {xs : List α} {ys : List β} (h : xs.length = ys.length) : xs.isEmpty = ys.isEmpty := by
  cases xs <;> cases ys <;> simp_all
theorem RepK.length : ∀ {xs : List (Key × D)} {ws : List (Key × V)}, RepK K G xs ws → xs.length = ws.length
  | [], _, h => by simp only [RepK] at h; subst h; rfl
  | (k, x) :: r, _, h => by
    simp only [RepK] at h
    obtain ⟨w, r', rfl, h1, h2⟩ := h
    simp [RepK.length h2]
theorem truth_ok {o : OT} {v : V} {f : List Addr} {b : Bool} (g : Same G H) (T : TR K G F H o v f) (e : truthO o = some b) : TruV K v H b := by
  unfold truthO at e
  split at e
  · cases e; simp only [TR, Rep] at T; rw [T.1]; rfl
  · cases e; simp only [TR, Rep] at T; rw [T.1]; rfl
  · cases e; simp only [TR, Rep] at T; rw [T.1]; rfl
  · cases e
    simp only [TR, Rep] at T
    obtain ⟨⟨a, vs, rfl, s, r⟩, _⟩ := T
    exact .inr (.inl ⟨vs, same_t g s, by rw [isEmpty_len r.length]⟩)
  · cases e
    simp only [TR, Rep] at T
    obtain ⟨⟨a, vs, rfl, s, r⟩, _⟩ := T
    exact .inl ⟨vs, .inl (same_rd g s), by rw [isEmpty_len r.length]⟩
  · cases e
    simp only [TR, Rep] at T
    obtain ⟨⟨a, vs, rfl, s, r⟩, _⟩ := T
    exact .inr (.inr ⟨vs, g _ _ s, by rw [isEmpty_len r.length]⟩)
  · cases e
    simp only [TR] at T
    obtain ⟨a, vs, f', rfl, _, h1, _, _, h4⟩ := T
    exact .inl ⟨vs, .inl (.inl h1), by rw [isEmpty_len h4.length]⟩
  · cases e
    simp only [TR] at T
    obtain ⟨a, vs, rfl, _, h1, _, _, h4⟩ := T
    exact .inr (.inr ⟨vs, h1, by rw [isEmpty_len h4.length]⟩)
  · cases e
theorem t_tru {X : Cx} {e : Expr} {w : WE} (h : PE X e (rdE X.K w)) (he : ∀ whole, isTrue e X.env whole = (do let v ← whole; standAt e.pos; holding [v] (truthy v))) : PT X e (rdT X.K (wTru w)) :=
  PTimp (pt_truth (d_peek h) he) fun σ H Q ⟨F, G, s0, env, fp, Qd, S, hw, k⟩ => ⟨F, G, s0, env, fp, truQ Qd, S, hw, fun ev v e1 G1 H1 gl1 evs q => by
    have hno : ∀ t, ev ≠ .o t := fun t z => by subst z; exact q
    have q' : match nodeOf e1 ev with
        | some o => match truthO o with
          | some b => Qd b e1
          | none => False
        | none => False := by
      cases ev with
      | o t => exact absurd rfl (hno t)
      | _ => exact q
    cases en : nodeOf e1 ev with
    | none => rw [en] at q'; exact q'.elim
    | some o =>
      rw [en] at q'
      obtain ⟨g, F', f, T⟩ := node_ok evs en
      simp only at q'
      cases et : truthO o with
      | none => rw [et] at q'; exact q'.elim
      | some b =>
        rw [et] at q'
        exact ⟨b, truth_ok g T et, k b e1 G1 H1 gl1 (evs.sim hno) q'⟩⟩

/-! ### built-ins of one argument -/
def BS (K : PySem.W.Frag) (r : List V → Hp → VK → Prop) (bp : Env → EV → (EV → Prop) → Prop) : Prop := ∀ (F G H : Hp) (s0 : L2.St) (env : Env) (σ : L2.St) (ev : EV) (v : V) (Q : VK) (Qd : EV → Prop),
  EVS K F G H s0 env σ ev v → (∀ t, ev ≠ .o t) → bp env ev Qd → (∀ ev' z G' H', Gle F G G' → EVS K F G' H' s0 env σ ev' z → Qd ev' → Q z H') → r [v] H Q
def b1Q (bp : Env → EV → (EV → Prop) → Prop) (Q : EV → Env → Prop) (ev : EV) (e : Env) : Prop := match ev with
  | .o _ => False
  | ev => bp e ev fun ev' => Q ev' e
def wB1 (bp : Env → EV → (EV → Prop) → Prop) (w : WE) : WE := fun env Q => wP w env (b1Q bp Q)
theorem b1_rd {r : List V → Hp → VK → Prop} {bp : Env → EV → (EV → Prop) → Prop} (hs : BS K r bp) {w : WE} {Q : VK} (h : rdE K (wB1 bp w) σ H Q) : tCB r (tCons (rdE K (wP w)) tNil) σ H Q := by
  obtain ⟨F, G, s0, env, fp, Qd, S, hw, k⟩ := h
  refine ⟨F, G, s0, env, fp, b1Q bp Qd, S, hw, fun ev v e1 G1 H1 gl1 evs q => ?_⟩
  have hno : ∀ t, ev ≠ .o t := fun t z => by subst z; exact q
  have q' : bp e1 ev fun ev' => Qd ev' e1 := by
    cases ev with
    | o t => exact absurd rfl (hno t)
    | _ => exact q
  exact hs F G1 H1 s0 e1 σ ev v Q _ evs hno q' fun ev' z G2 H2 gl2 evs2 q2 => k ev' z e1 G2 H2 (gl1.trans gl2) evs2 q2
theorem d_b1 {X : Cx} {x : Str} {id : String} {p pos : Pos} {e : Expr} {r : List V → Hp → VK → Prop} {bp : Env → EV → (EV → Prop) → Prop} {w : WE} (hs : BS X.K r bp) (hc : CallR X (.builtin id) r) (hg : Gl X x) (hm : X.mg x = none) (hv : bootBuiltins x = some (.builtin id))
    (h : PE X e (rdE X.K w)) (hn : x ≠ "__name__") (hdb : (x == ("__debug__" : Str)) = false) (he : starEach [e] X.env = (false, eval e X.env) :: starEach [] X.env) : PE X (.Call (.Name x p) [e] [] pos) (rdE X.K (wB1 bp w)) :=
  PEimp (pe_callB hc hg hm hv (pa_cons (d_peek h) pa_nil he) hn hdb he rfl) fun _ _ _ h => b1_rd hs h
theorem d_t1 {X : Cx} {x : Str} {id : String} {p pos : Pos} {e : Expr} {r : List V → Hp → VK → Prop} {bp : Env → EV → (EV → Prop) → Prop} {w : WE} (hs : BS X.K r bp) (hc : CallR X (.type id) r) (hg : Gl X x) (hm : X.mg x = none) (hv : bootBuiltins x = some (.type id))
    (h : PE X e (rdE X.K w)) (hn : x ≠ "__name__") (hdb : (x == ("__debug__" : Str)) = false) (he : starEach [e] X.env = (false, eval e X.env) :: starEach [] X.env) : PE X (.Call (.Name x p) [e] [] pos) (rdE X.K (wB1 bp w)) :=
  PEimp (pe_callTy hc hg hm hv (pa_cons (d_peek h) pa_nil he) hn hdb he rfl) fun _ _ _ h => b1_rd hs h
/-- len -/
def bLen (env : Env) (ev : EV) (Q : EV → Prop) : Prop := match view env ev with
  | some (_, os) => Q (.d (.int os.length))
  | none => False
theorem bs_len : BS K (fun xs H Q => ∃ p ys, xs = [.ref p] ∧ (SqL K H p ys ∨ SqT K H p ys) ∧ Q (.int ys.length) H) bLen := by
  intro F G H s0 env σ ev v Q Qd evs hno q k
  unfold bLen at q
  cases e : view env ev with
  | none => rw [e] at q; exact q.elim
  | some bo =>
    obtain ⟨b, os⟩ := bo
    rw [e] at q
    obtain ⟨g, a, vs, F', f', rfl, ht, hl, T⟩ := view_ok evs e
    have fin : Q (.int vs.length) H := by
      rw [← T.length]
      exact k (.d (.int os.length)) _ G H (Gle.refl F G) ⟨evs.sim hno, by simp only [Rep]⟩ q
    cases b with
    | true => exact ⟨a, vs, rfl, .inr (same_t g (ht rfl)), fin⟩
    | false => exact ⟨a, vs, rfl, .inl (hl rfl), fin⟩
/-- list(..), tuple(..) -/
def bList0 (env : Env) (ev : EV) (Q : EV → Prop) : Prop := match view env ev with
  | some (_, os) => match allD os with
    | some xs => Q (.o (.l (xs.map .d)))
    | none => False
  | none => False
def bTuple0 (env : Env) (ev : EV) (Q : EV → Prop) : Prop := match view env ev with
  | some (_, os) => match allD os with
    | some xs => Q (.d (.tup xs))
    | none => False
  | none => False
theorem bs_list0 : BS K (fun xs H Q => ∃ p ys, xs = [.ref p] ∧ (SqL K H p ys ∨ SqT K H p ys) ∧ ∀ l, H l = none → Q (.ref l) (upd H l (.lst ys))) bList0 := by
  intro F G H s0 env σ ev v Q Qd evs hno q k
  unfold bList0 at q
  cases e : view env ev with
  | none => rw [e] at q; exact q.elim
  | some bo =>
    obtain ⟨b, os⟩ := bo
    rw [e] at q
    simp only at q
    cases ea : allD os with
    | none => rw [ea] at q; exact q.elim
    | some xs =>
      rw [ea] at q
      obtain ⟨g, a, vs, F', f', rfl, ht, hl, T⟩ := view_ok evs e
      obtain ⟨fp, S⟩ := evs.sim hno
      have fin : ∀ l, H l = none → Q (.ref l) (upd H l (.lst vs)) := fun l hn => k (.o (.l (xs.map .d))) _ G _ (Gle.refl F G) (S.newL (T.repL ea) hn) q
      cases b with
      | true => exact ⟨a, vs, rfl, .inr (same_t g (ht rfl)), fin⟩
      | false => exact ⟨a, vs, rfl, .inl (hl rfl), fin⟩
theorem bs_tuple0 : BS K (fun xs H Q => ∃ p ys, xs = [.ref p] ∧ ((SqL K H p ys ∧ ∀ l, H l = none → Q (.ref l) (upd H l (.tup ys))) ∨ (SqT K H p ys ∧ Q (.ref p) H))) bTuple0 := by
  intro F G H s0 env σ ev v Q Qd evs hno q k
  unfold bTuple0 at q
  cases e : view env ev with
  | none => rw [e] at q; exact q.elim
  | some bo =>
    obtain ⟨b, os⟩ := bo
    rw [e] at q
    simp only at q
    cases ea : allD os with
    | none => rw [ea] at q; exact q.elim
    | some xs =>
      rw [ea] at q
      obtain ⟨g, a, vs, F', f', rfl, ht, hl, T⟩ := view_ok evs e
      obtain ⟨fp, S⟩ := evs.sim hno
      have R := T.repL ea
      cases b with
      | true => exact ⟨a, vs, rfl, .inr ⟨same_t g (ht rfl), k (.d (.tup xs)) _ G H (Gle.refl F G) ⟨⟨fp, S⟩, by
          simp only [Rep]
          exact ⟨a, vs, rfl, ht rfl, R⟩⟩ q⟩⟩
      | false => exact ⟨a, vs, rfl, .inl ⟨hl rfl, fun l hn => k (.d (.tup xs)) _ _ _ (Gle.data S.fh S.gh hn) ⟨⟨fp, S.data hn⟩, by
          simp only [Rep]
          exact ⟨l, vs, rfl, SqT.of upd_same, R.mono (Same.upd_new (Same.refl G) (Same.fresh S.gh hn)) xs⟩⟩ q⟩⟩
def seqO : OT → Option (List D)
  | .d (.tup xs) => some xs
  | .d (.lst xs) => some xs
  | .d (.lsk xs) => some xs
  | .l os => allD os
  | _ => none
theorem seqO_ok {o : OT} {xs : List D} (h : seqO o = some xs) : ∃ b os, viewO o = some (b, os) ∧ allD os = some xs := by
  unfold seqO at h
  split at h
  · cases h; exact ⟨true, _, rfl, allD_map _⟩
  · cases h; exact ⟨false, _, rfl, allD_map _⟩
  · cases h; exact ⟨false, _, rfl, allD_map _⟩
  · exact ⟨false, _, rfl, h⟩
  · cases h
def bList (env : Env) (ev : EV) (Q : EV → Prop) : Prop := match nodeOf env ev with
  | some o => (match seqO o with
    | some xs => Q (.o (.l (xs.map .d)))
    | none => False)
  | none => False
def bTuple (env : Env) (ev : EV) (Q : EV → Prop) : Prop := match nodeOf env ev with
  | some o => (match seqO o with
    | some xs => Q (.d (.tup xs))
    | none => False)
  | none => False
theorem bList_0 {env : Env} {ev : EV} {Q : EV → Prop} (h : bList env ev Q) : bList0 env ev Q := by
  unfold bList at h
  unfold bList0 view
  cases e : nodeOf env ev with
  | none => rw [e] at h; exact h.elim
  | some o =>
    rw [e] at h
    simp only at h ⊢
    cases e2 : seqO o with
    | none => rw [e2] at h; exact h.elim
    | some xs =>
      rw [e2] at h
      obtain ⟨b, os, h1, h2⟩ := seqO_ok e2
      rw [h1]
      simp only [h2]
      exact h
theorem bTuple_0 {env : Env} {ev : EV} {Q : EV → Prop} (h : bTuple env ev Q) : bTuple0 env ev Q := by
  unfold bTuple at h
  unfold bTuple0 view
  cases e : nodeOf env ev with
  | none => rw [e] at h; exact h.elim
  | some o =>
    rw [e] at h
    simp only at h ⊢
    cases e2 : seqO o with
    | none => rw [e2] at h; exact h.elim
    | some xs =>
      rw [e2] at h
      obtain ⟨b, os, h1, h2⟩ := seqO_ok e2
      rw [h1]
      simp only [h2]
      exact h
theorem bs_list : BS K (fun xs H Q => ∃ p ys, xs = [.ref p] ∧ (SqL K H p ys ∨ SqT K H p ys) ∧ ∀ l, H l = none → Q (.ref l) (upd H l (.lst ys))) bList :=
  fun F G H s0 env σ ev v Q Qd evs hno q k => bs_list0 F G H s0 env σ ev v Q Qd evs hno (bList_0 q) k
theorem bs_tuple : BS K (fun xs H Q => ∃ p ys, xs = [.ref p] ∧ ((SqL K H p ys ∧ ∀ l, H l = none → Q (.ref l) (upd H l (.tup ys))) ∨ (SqT K H p ys ∧ Q (.ref p) H))) bTuple :=
  fun F G H s0 env σ ev v Q Qd evs hno q k => bs_tuple0 F G H s0 env σ ev v Q Qd evs hno (bTuple_0 q) k
/-- int, abs -/
def bInt (env : Env) (ev : EV) (Q : EV → Prop) : Prop := match ev with
  | .d (.int i) => Q (.d (.int i))
  | .d (.bl b) => Q (.d (.int (if b then 1 else 0)))
  | _ => False
theorem bs_int : BS K (fun xs H Q => (∃ i, xs = [.int i] ∧ Q (.int i) H) ∨ ∃ k, xs = [.bl k] ∧ Q (.int (if k then 1 else 0)) H) bInt := by
  intro F G H s0 env σ ev v Q Qd evs hno q k
  unfold bInt at q
  split at q
  · obtain ⟨S, R⟩ := evs
    simp only [Rep] at R
    subst R
    exact .inl ⟨_, rfl, k (.d (.int _)) _ G H (Gle.refl F G) ⟨S, by simp only [Rep]⟩ q⟩
  · obtain ⟨S, R⟩ := evs
    simp only [Rep] at R
    subst R
    exact .inr ⟨_, rfl, k (.d (.int _)) _ G H (Gle.refl F G) ⟨S, by simp only [Rep]⟩ q⟩
  · exact q.elim
def bAbs (env : Env) (ev : EV) (Q : EV → Prop) : Prop := match ev with
  | .d (.int i) => Q (.d (.int (if i < 0 then -i else i)))
  | _ => False
theorem bs_abs : BS K (fun xs H Q => ∃ i, xs = [.int i] ∧ Q (.int (if i < 0 then -i else i)) H) bAbs := by
  intro F G H s0 env σ ev v Q Qd evs hno q k
  unfold bAbs at q
  split at q
  · obtain ⟨S, R⟩ := evs
    simp only [Rep] at R
    subst R
    exact ⟨_, rfl, k (.d (.int _)) _ G H (Gle.refl F G) ⟨S, by simp only [Rep]⟩ q⟩
  · exact q.elim
/-- built-ins of several data -/
def CS (K : PySem.W.Frag) (r : List V → Hp → VK → Prop) (bc : List D → (EV → Prop) → Prop) : Prop := ∀ (F G H : Hp) (s0 : L2.St) (env : Env) (σ : L2.St) (xs : List D) (vs : List V) (Q : VK) (Qd : EV → Prop),
  SimE K F G H s0 env σ → RepL K G xs vs → bc xs Qd → (∀ ev' z G' H', Gle F G G' → EVS K F G' H' s0 env σ ev' z → Qd ev' → Q z H') → r vs H Q
def wBL (bc : List D → (EV → Prop) → Prop) (w : WL) : WE := fun env Q => w env fun xs e => bc xs fun ev' => Q ev' e
theorem bl_rd {r : List V → Hp → VK → Prop} {bc : List D → (EV → Prop) → Prop} (hs : CS K r bc) {w : WL} {Q : VK} (h : rdE K (wBL bc w) σ H Q) : tCB r (rdL K w) σ H Q := by
  obtain ⟨F, G, s0, env, fp, Qd, S, hw, k⟩ := h
  exact ⟨F, G, s0, env, fp, _, S, hw, fun xs vs e1 G1 H1 gl1 S1 R1 q => hs F G1 H1 s0 e1 σ xs vs Q (fun ev => Qd ev e1) S1 R1 q fun ev' z G2 H2 gl2 evs2 q2 => k ev' z e1 G2 H2 (gl1.trans gl2) evs2 q2⟩
theorem d_bl {X : Cx} {x : Str} {id : String} {p pos : Pos} {e : Expr} {es : List Expr} {r : List V → Hp → VK → Prop} {bc : List D → (EV → Prop) → Prop} {w : WL} (hs : CS X.K r bc) (hc : CallR X (.builtin id) r) (hg : Gl X x) (hm : X.mg x = none) (hv : bootBuiltins x = some (.builtin id))
    (h : PA X (e :: es) (rdL X.K w)) (hn : x ≠ "__name__") (hdb : (x == ("__debug__" : Str)) = false) (he : starEach (e :: es) X.env = (false, eval e X.env) :: starEach es X.env) (hpl : (backTo pos (starEach es X.env)).any (·.1) = false) : PE X (.Call (.Name x p) (e :: es) [] pos) (rdE X.K (wBL bc w)) :=
  PEimp (pe_callB hc hg hm hv h hn hdb he hpl) fun _ _ _ h => bl_rd hs h
def bMax2 (xs : List D) (Q : EV → Prop) : Prop := match xs with
  | [.int i, .int j] => Q (.d (.int (if j > i then j else i)))
  | _ => False
def bMin2 (xs : List D) (Q : EV → Prop) : Prop := match xs with
  | [.int i, .int j] => Q (.d (.int (if j < i then j else i)))
  | _ => False
theorem cs_max2 : CS K (fun xs H Q => ∃ i j, xs = [.int i, .int j] ∧ Q (.int (if j > i then j else i)) H) bMax2 := by
  intro F G H s0 env σ xs vs Q Qd S R q k
  unfold bMax2 at q
  split at q
  · simp only [RepL, Rep] at R
    obtain ⟨v, r, rfl, rfl, v2, r2, rfl, rfl, rfl⟩ := R
    exact ⟨_, _, rfl, k (.d (.int _)) _ G H (Gle.refl F G) ⟨S, by simp only [Rep]⟩ q⟩
  · exact q.elim
theorem cs_min2 : CS K (fun xs H Q => ∃ i j, xs = [.int i, .int j] ∧ Q (.int (if j < i then j else i)) H) bMin2 := by
  intro F G H s0 env σ xs vs Q Qd S R q k
  unfold bMin2 at q
  split at q
  · simp only [RepL, Rep] at R
    obtain ⟨v, r, rfl, rfl, v2, r2, rfl, rfl, rfl⟩ := R
    exact ⟨_, _, rfl, k (.d (.int _)) _ G H (Gle.refl F G) ⟨S, by simp only [Rep]⟩ q⟩
  · exact q.elim
/-! ### isinstance of a built-in type -/
inductive Ty where
  | tuple | list | int | bool | str | none | dict
  deriving DecidableEq
def Ty.nm : Ty → String
  | .tuple => "tuple" | .list => "list" | .int => "int" | .bool => "bool" | .str => "str" | .none => "NoneType" | .dict => "dict"
def Ty.sub : Ty → Ty → Bool
  | .bool, .int => true
  | a, b => decide (a = b)
theorem kit_sub : ∀ a b : Ty, b ≠ .none → kitB a.nm b.nm = some (Ty.sub a b) := by
  intro a b
  cases a <;> cases b <;> first | (intro h; exact absurd rfl h) | (intro _; decide +kernel)
def tyO : OT → Option Ty
  | .d .non => some .none
  | .d (.bl _) => some .bool
  | .d (.int _) => some .int
  | .d (.str _) => some .str
  | .d (.tup _) => some .tuple
  | .d (.lst _) => some .list
  | .d (.dct _) => some .dict
  | .l _ => some .list
  | .k _ => some .dict
  | _ => none
theorem tyO_ok {o : OT} {v : V} {f : List Addr} {t : Ty} (g : Same G H) (T : TR K G F H o v f) (e : tyO o = some t) : TyX K H v (.type t.nm) := by
  unfold tyO at e
  split at e
  · cases e; simp only [TR, Rep] at T; rw [T.1]; exact .base .non
  · cases e; simp only [TR, Rep] at T; rw [T.1]; exact .base (.bl _)
  · cases e; simp only [TR, Rep] at T; rw [T.1]; exact .base (.int _)
  · cases e; simp only [TR, Rep] at T; rw [T.1]; exact .base (.str _)
  · cases e
    simp only [TR, Rep] at T
    obtain ⟨⟨a, vs, rfl, s, r⟩, _⟩ := T
    rcases same_t g s with (h | ⟨o, h⟩) | ⟨o, its, n, h1, h2, _⟩
    · exact .base (.tup h)
    · exact .fTuple h
    · exact .kTuple h1 h2
  · cases e
    simp only [TR, Rep] at T
    obtain ⟨⟨a, vs, rfl, s, r⟩, _⟩ := T
    rcases same_rd g s with h | ⟨o, h⟩
    · exact .base (.lst h)
    · exact .base (.frz h)
  · cases e
    simp only [TR, Rep] at T
    obtain ⟨⟨a, vs, rfl, s, r⟩, _⟩ := T
    exact .base (.dK (g _ _ s))
  · cases e
    simp only [TR] at T
    obtain ⟨a, vs, f', rfl, _, h1, _⟩ := T
    exact .base (.lst h1)
  · cases e
    simp only [TR] at T
    obtain ⟨a, vs, rfl, _, h1, _⟩ := T
    exact .base (.dK h1)
  · cases e
def isiQ (t : Ty) (Q : EV → Env → Prop) (ev : EV) (e : Env) : Prop := match ev with
  | .o _ => False
  | ev => match nodeOf e ev with
    | some o => match tyO o with
      | some u => Q (.d (.bl (Ty.sub u t))) e
      | none => False
    | none => False
def wIsi (w : WE) (t : Ty) : WE := fun env Q => wP w env (isiQ t Q)
theorem d_isi {X : Cx} {p p2 pos : Pos} {e : Expr} {t : Ty} {x : Str} {w : WE} (ht : t ≠ .none) (hx : bootBuiltins x = some (.type t.nm)) (hg : Gl X "isinstance") (hm : X.mg "isinstance" = none) (hgx : Gl X x) (hmx : X.mg x = none) (hnx : x ≠ "__name__") (hdx : (x == ("__debug__" : Str)) = false)
    (h : PE X e (rdE X.K w)) (he : starEach [e, .Name x p2] X.env = (false, eval e X.env) :: starEach [.Name x p2] X.env) : PE X (.Call (.Name "isinstance" p) [e, .Name x p2] [] pos) (rdE X.K (wIsi w t)) :=
  PEimp (pe_callB call_isi hg hm (by decide +kernel) (pa_cons (d_peek h) (pa_cons (pe_bltn hgx hmx hx (v := .ty t.nm) rfl hnx hdx) pa_nil rfl) he) (by decide) (by decide) he rfl) fun σ H Q ⟨F, G, s0, env, fp, Qd, S, hw, k⟩ =>
    ⟨F, G, s0, env, fp, isiQ t Qd, S, hw, fun ev v e1 G1 H1 gl1 evs q => by
      have hno : ∀ t, ev ≠ .o t := fun t z => by subst z; exact q
      have q' : match nodeOf e1 ev with
          | some o => match tyO o with
            | some u => Qd (.d (.bl (Ty.sub u t))) e1
            | none => False
          | none => False := by
        cases ev with
        | o t => exact absurd rfl (hno t)
        | _ => exact q
      cases en : nodeOf e1 ev with
      | none => rw [en] at q'; exact q'.elim
      | some o =>
        rw [en] at q'
        obtain ⟨g, F', f, T⟩ := node_ok evs en
        simp only at q'
        cases et : tyO o with
        | none => rw [et] at q'; exact q'.elim
        | some u =>
          rw [et] at q'
          exact ⟨v, .ty t.nm, .type u.nm, .type t.nm, Ty.sub u t, rfl, .ty _, tyO_ok g T et, kit_ty (kit_sub u t ht), k (.d (.bl (Ty.sub u t))) _ e1 G1 H1 gl1 ⟨evs.sim hno, by simp only [Rep]⟩ q'⟩⟩
end
end Bv
end SBvH
section SBvI
set_option linter.all false
set_option Elab.async false
open PySem PySem.Spec PyProof.Rows L2
namespace Bv
/-! ### arguments: data, or a slot's own object by reference -/
inductive Ar where
  | d (x : D) | r (j : Nat)
abbrev WR := Env → (List Ar → Env → Prop) → Prop
def ArR (K : PySem.W.Frag) (G : Hp) (σ : L2.St) : Ar → V → Prop
  | .d x, v => Rep K G x v
  | .r j, v => σ[j]? = some (some v)
def ArsR (K : PySem.W.Frag) (G : Hp) (σ : L2.St) : List Ar → List V → Prop
  | [], vs => vs = []
  | a :: as, vs => ∃ v r, vs = v :: r ∧ ArR K G σ a v ∧ ArsR K G σ as r
def rdR (K : PySem.W.Frag) (w : WR) : TA := fun σ H Q => ∃ F G s0 env fp Qd, Sim K F G H s0 env σ fp ∧ w env Qd ∧ ∀ xs vs env' G' H', Gle F G G' → SimE K F G' H' s0 env' σ → ArsR K G' σ xs vs → Qd xs env' → Q vs H'
def wNilR : WR := fun env Q => Q [] env
def wConsD (w : WD) (r : WR) : WR := fun env Q => w env fun x e1 => r e1 fun xs e2 => Q (.d x :: xs) e2
/-- a slot by reference; where it holds data, the data -/
def wConsS (j : Nat) (r : WR) : WR := fun env Q => wSl j env fun ev e1 => match ev with
  | .d x => r e1 fun xs e2 => Q (.d x :: xs) e2
  | .s i => r e1 fun xs e2 => Q (.r i :: xs) e2
  | _ => False
/-- the callee's slots -/
def argOf (env : Env) : Ar → Option SV
  | .d x => some (.t (.d x))
  | .r j => match treeOf env j with
    | some o => some (.t o)
    | none => none
def argsOf (env : Env) : List Ar → Option (List SV)
  | [] => some []
  | a :: as => match argOf env a, argsOf env as with
    | some x, some r => some (x :: r)
    | _, _ => none
def refs : List Ar → List Nat
  | [] => []
  | .d _ :: r => refs r
  | .r j :: r => j :: refs r
def hideR : Env → List Nat → Env
  | e, [] => e
  | e, j :: r => hideR (sset (clr j e) j .no) r
def putR (e0 : Env) : Env → List Ar → List SV → Option Env
  | e, [], [] => some e
  | e, .d _ :: r, _ :: os => putR e0 e r os
  | e, .r j :: r, .t o :: os => putR e0 (sset (clr j e) j ((sget e0 j).put o)) r os
  | _, _, _ => none
def resQ (ars : List Ar) (Q : EV → Env → Prop) (ev : EV) (e2 : Env) : Prop := match ev with
  | .d x => Q (.d x) e2
  | .o t => Q (.o t) e2
  | .s k => match ars[k]? with
    | some (.r j) => Q (.s j) e2
    | _ => False
  | .p _ _ => False
/-- a call of what does fs -/
def callQ (n : Nat) (fs : WE) (Q : EV → Env → Prop) (ars : List Ar) (e1 : Env) : Prop := ars.length = n ∧ ∃ as, argsOf e1 ars = some as ∧ (refs ars).Nodup ∧ Gc (fs as fun ev outs => ∃ e2, putR e1 (hideR e1 (refs ars)) ars outs = some e2 ∧ resQ ars Q ev e2)
def wCall (n : Nat) (fs : WE) (w : WR) : WE := fun env Q => w env (callQ n fs Q)
/-- a def's promise by what it does to its slots -/
def spW (K : PySem.W.Frag) (n : Nat) (fs : WE) : Sp := fun vs H Q _ => vs.length = n ∧ ∃ F G as fp Qd, (∀ sv ∈ as, ∃ o, sv = SV.t o) ∧ Sim K F G H [] as (vs.map some) fp ∧ fs as Qd ∧
  ∀ ev v outs G' H', Gle F G G' → EVS K F G' H' [] outs (vs.map some) ev v → Qd ev outs → Q v H'
section
variable {K : PySem.W.Frag} {G G' H H' F F' : Hp} {s0 σ : L2.St} {env : Env} {fp : Nat → List Addr} {a : Addr}
theorem ArsR.mono (g : Same G G') : ∀ {xs : List Ar} {vs : List V}, ArsR K G σ xs vs → ArsR K G' σ xs vs
  | [], _, h => h
  | a :: as, _, h => by
    obtain ⟨v, r, e, h1, h2⟩ := h
    refine ⟨v, r, e, ?_, ArsR.mono g h2⟩
    cases a with
    | d x => exact Rep.mono g x h1
    | r j => exact h1
theorem r_nil {X : Cx} : PA X [] (rdR X.K wNilR) := PAimp pa_nil fun σ H Q ⟨F, G, s0, env, fp, Qd, S, hw, k⟩ => k [] [] env G H (Gle.refl F G) ⟨fp, S⟩ rfl hw
theorem r_data {X : Cx} {e : Expr} {es : List Expr} {w : WD} {r : WR} (h : PE X e (rdD X.K w)) (hr : PA X es (rdR X.K r)) (hs : starEach (e :: es) X.env = (false, eval e X.env) :: starEach es X.env) : PA X (e :: es) (rdR X.K (wConsD w r)) :=
  PAimp (pa_cons h hr hs) fun σ H Q ⟨F, G, s0, env, fp, Qd, S, hw, k⟩ => ⟨F, G, s0, env, fp, _, S, hw, fun x v e1 G1 H1 gl1 ⟨fp1, S1⟩ R1 q1 =>
    ⟨F, G1, s0, e1, fp1, _, S1, q1, fun xs vs e2 G2 H2 gl2 S2 R2 q2 => k (.d x :: xs) (v :: vs) e2 G2 H2 (gl1.trans gl2) S2 ⟨v, vs, rfl, R1.mono gl2.1, R2⟩ q2⟩⟩
theorem r_slot {X : Cx} {x : Str} {p : Pos} {es : List Expr} {j : Nat} {r : WR} (h : PE X (.Name x p) (tVar j)) (hr : PA X es (rdR X.K r)) (hs : starEach (.Name x p :: es) X.env = (false, eval (.Name x p) X.env) :: starEach es X.env) : PA X (.Name x p :: es) (rdR X.K (wConsS j r)) :=
  PAimp (pa_cons h hr hs) fun σ H Q ⟨F, G, s0, env, fp, Qd, S, hw, k⟩ => by
    obtain ⟨ev, v, hv, evs, q⟩ := wSl_ok S hw
    refine ⟨v, hv, ?_⟩
    cases ev with
    | d y => exact ⟨F, G, s0, env, fp, _, S, q, fun xs vs e2 G2 H2 gl2 S2 R2 q2 => k (.d y :: xs) (v :: vs) e2 G2 H2 gl2 S2 ⟨v, vs, rfl, Rep.mono gl2.1 y evs.2, R2⟩ q2⟩
    | s i => exact ⟨F, G, s0, env, fp, _, S, q, fun xs vs e2 G2 H2 gl2 S2 R2 q2 => k (.r i :: xs) (v :: vs) e2 G2 H2 gl2 S2 ⟨v, vs, rfl, evs.2, R2⟩ q2⟩
    | o t => exact q.elim
    | p _ _ => exact q.elim
theorem treeOf_lt {j : Nat} {o : OT} (h : treeOf env j = some o) : j < env.length := by
  rcases Nat.lt_or_ge j env.length with q | q
  · exact q
  · unfold treeOf at h; rw [sget_of_le q] at h; cases h
theorem treeOf_put {sv : SV} {o o' : OT} (h : (match sv with | .t o => some o | .a o => some o | _ => none) = some o') : (∃ x, sv.put o = .t x ∧ x = o) ∨ ∃ x, sv.put o = .a x ∧ x = o := by
  cases sv with
  | t x => exact .inl ⟨o, rfl, rfl⟩
  | a x => exact .inr ⟨o, rfl, rfl⟩
  | _ => cases h
/-- the passed slots hidden; the frame holds all other slots' objects -/
theorem hide_ok : ∀ {js : List Nat} {env : Env} {fp : Nat → List Addr}, js.Nodup → (∀ j ∈ js, (treeOf env j).isSome = true) → Sim K F G H s0 env σ fp →
    ∃ fp', Sim K F G H s0 (hideR env js) σ fp' ∧ (∀ i, i ∉ js → fp' i = fp i) ∧ (∀ i, i ∈ js → fp' i = [])
  | [], env, fp, _, _, S => ⟨fp, S, fun _ _ => rfl, fun _ h => absurd h (by simp)⟩
  | j :: js, env, fp, nd, ht, S => by
    obtain ⟨n1, n2⟩ := List.nodup_cons.mp nd
    obtain ⟨o, ho⟩ := Option.isSome_iff_exists.mp (ht j List.mem_cons_self)
    have S1 : Sim K F G H s0 (sset (clr j env) j .no) σ (fpSet fp j []) := S.put (treeOf_lt ho) rfl (fun _ _ => rfl) List.nodup_nil (fun _ _ _ _ => by simp) rfl (fun _ _ q => nomatch q)
    obtain ⟨fp', S2, h1, h2⟩ := hide_ok (js := js) n2 (fun i hi => by
      have ne : j ≠ i := fun z => n1 (z ▸ hi)
      rw [treeOf_sset_ne ne, treeOf_clr]
      exact ht i (List.mem_cons_of_mem _ hi)) S1
    refine ⟨fp', S2, fun i hi => ?_, fun i hi => ?_⟩
    · rw [h1 i fun z => hi (List.mem_cons_of_mem _ z), fpSet_ne fun (z : i = j) => hi (by rw [z]; exact List.mem_cons_self)]
    · by_cases hj : i ∈ js
      · exact h2 i hj
      · rcases List.mem_cons.mp hi with z | z
        · subst z; rw [h1 i hj, fpSet_self]
        · exact absurd z hj
theorem hide_length : ∀ {js : List Nat} {env : Env}, (hideR env js).length = env.length
  | [], _ => rfl
  | j :: js, env => by show (hideR (sset (clr j env) j .no) js).length = _; rw [hide_length, sset_length, clr_length]
/-- the callee's view of the arguments -/
theorem args_sim : ∀ {ars : List Ar} {vs : List V} {as : List SV}, ArsR K G σ ars vs → argsOf env ars = some as → Sim K F G H s0 env σ fp →
    as.length = vs.length ∧ (∀ sv ∈ as, ∃ o, sv = SV.t o) ∧ ∀ i, (∃ o v, sget as i = .t o ∧ vs[i]? = some v ∧ ((∃ j, ars[i]? = some (.r j) ∧ treeOf env j = some o ∧ σ[j]? = some (some v) ∧ TR K G F H o v (fp j)) ∨ (∃ x, ars[i]? = some (.d x) ∧ o = .d x ∧ Rep K G x v))) ∨ (sget as i = .no ∧ ars.length ≤ i)
  | [], vs, as, h, e, S => by
    have h' : vs = [] := h
    subst h'
    simp only [argsOf, Option.some.injEq] at e
    subst e
    exact ⟨rfl, fun _ z => absurd z (by simp), fun i => .inr ⟨by cases i <;> rfl, Nat.zero_le i⟩⟩
  | a :: ars, vs, as, h, e, S => by
    obtain ⟨v, r, rfl, h1, h2⟩ := h
    simp only [argsOf] at e
    cases e1 : argOf env a with
    | none => rw [e1] at e; cases e
    | some x =>
      cases e2 : argsOf env ars with
      | none => rw [e1, e2] at e; cases e
      | some xs =>
        rw [e1, e2] at e
        cases e
        obtain ⟨l1, l2, l3⟩ := args_sim h2 e2 S
        have hx : ∃ o, x = SV.t o ∧ ((∃ j, a = .r j ∧ treeOf env j = some o ∧ σ[j]? = some (some v) ∧ TR K G F H o v (fp j)) ∨ (∃ y, a = .d y ∧ o = .d y ∧ Rep K G y v)) := by
          cases a with
          | d y =>
            simp only [argOf, Option.some.injEq] at e1
            subst e1
            exact ⟨.d y, rfl, .inr ⟨y, rfl, rfl, h1⟩⟩
          | r j =>
            simp only [argOf] at e1
            cases e3 : treeOf env j with
            | none => rw [e3] at e1; cases e1
            | some o =>
              rw [e3] at e1
              cases e1
              obtain ⟨v', hv', T⟩ := S.tree e3
              have h1' : σ[j]? = some (some v) := h1
              rw [h1'] at hv'; cases hv'
              exact ⟨o, rfl, .inl ⟨j, rfl, e3, h1', T⟩⟩
        obtain ⟨o, rfl, ho⟩ := hx
        refine ⟨by simp [l1], fun sv hsv => ?_, fun i => ?_⟩
        · rcases List.mem_cons.mp hsv with z | z
          · exact ⟨o, z⟩
          · exact l2 sv z
        · cases i with
          | zero =>
            refine .inl ⟨o, v, rfl, rfl, ?_⟩
            rcases ho with ⟨j, rfl, q⟩ | ⟨y, rfl, q⟩
            · exact .inl ⟨j, rfl, q⟩
            · exact .inr ⟨y, rfl, q⟩
          | succ i =>
            rcases l3 i with ⟨o', v', q1, q2, q3⟩ | ⟨q1, q2⟩
            · exact .inl ⟨o', v', q1, by simpa using q2, by simpa using q3⟩
            · exact .inr ⟨q1, by simpa using q2⟩
theorem refs_mem : ∀ {ars : List Ar} {j : Nat}, j ∈ refs ars ↔ ∃ i : Nat, ars[i]? = some (.r j)
  | [], j => by simp [refs]
  | .d x :: r, j => by
    simp only [refs]
    rw [refs_mem (ars := r)]
    constructor
    · rintro ⟨i, h⟩; exact ⟨i + 1, by simpa using h⟩
    · rintro ⟨i, h⟩
      cases i with
      | zero => simp at h
      | succ i => exact ⟨i, by simpa using h⟩
  | .r k :: r, j => by
    simp only [refs, List.mem_cons]
    rw [refs_mem (ars := r)]
    constructor
    · rintro (h | ⟨i, h⟩)
      · subst h; exact ⟨0, rfl⟩
      · exact ⟨i + 1, by simpa using h⟩
    · rintro ⟨i, h⟩
      cases i with
      | zero => simp at h; exact .inl h.symm
      | succ i => exact .inr ⟨i, by simpa using h⟩
theorem refs_inj : ∀ {ars : List Ar} {i i' j : Nat}, (refs ars).Nodup → ars[i]? = some (.r j) → ars[i']? = some (.r j) → i = i'
  | [], i, i', j, _, h, _ => by simp at h
  | .d x :: r, i, i', j, nd, h, h' => by
    cases i with
    | zero => simp at h
    | succ i =>
      cases i' with
      | zero => simp at h'
      | succ i' => exact congrArg (· + 1) (refs_inj (ars := r) nd (by simpa using h) (by simpa using h'))
  | .r k :: r, i, i', j, nd, h, h' => by
    obtain ⟨n1, n2⟩ := List.nodup_cons.mp nd
    cases i with
    | zero =>
      cases i' with
      | zero => rfl
      | succ i' =>
        simp at h
        subst h
        exact absurd (refs_mem.mpr ⟨i', by simpa using h'⟩) n1
    | succ i =>
      cases i' with
      | zero =>
        simp at h'
        subst h'
        exact absurd (refs_mem.mpr ⟨i, by simpa using h⟩) n1
      | succ i' => exact congrArg (· + 1) (refs_inj (ars := r) n2 (by simpa using h) (by simpa using h'))
open Classical in
/-- F with what H has where P holds -/
noncomputable def addP (F H : Hp) (P : Addr → Prop) : Hp := fun a => if P a then H a else F a
theorem addP_in {P : Addr → Prop} (h : P a) : addP F H P a = H a := by unfold addP; rw [if_pos h]
theorem addP_out {P : Addr → Prop} (h : ¬ P a) : addP F H P a = F a := by unfold addP; rw [if_neg h]
theorem addP_same {P : Addr → Prop} (h : Same F H) : Same (addP F H P) H := fun a o e => by
  by_cases ha : P a
  · rw [addP_in ha] at e; exact e
  · rw [addP_out ha] at e; exact h a o e
theorem addP_le {P : Addr → Prop} (h : ∀ a, P a → F a = none) : Same F (addP F H P) := fun a o e => by
  by_cases ha : P a
  · rw [h a ha] at e; cases e
  · rw [addP_out ha]; exact e
theorem put_ok {e0 : Env} : ∀ {ars : List Ar} {outs : List SV} {e e2 : Env} {fpc : Nat → List Addr} {g : Nat → List Addr}, Sim K F G H s0 e σ fpc → (refs ars).Nodup →
    (∀ j ∈ refs ars, j < e.length ∧ ((∃ o, sget e0 j = .t o) ∨ ((∃ o, sget e0 j = .a o) ∧ ∃ v, s0[j]? = some (some v) ∧ σ[j]? = some (some v)))) →
    (∀ i j o, ars[i]? = some (.r j) → sget outs i = .t o → ∃ v, σ[j]? = some (some v) ∧ TR K G F H o v (g i) ∧ (g i).Nodup) →
    (∀ i i' a, a ∈ g i → a ∈ g i' → i = i') → (∀ i a k, a ∈ g i → a ∉ fpc k) → putR e0 e ars outs = some e2 →
    ∃ fp2, Sim K F G H s0 e2 σ fp2 ∧ ∀ a k, a ∈ fp2 k → (∃ k', a ∈ fpc k') ∨ ∃ i, a ∈ g i
  | [], outs, e, e2, fpc, g, S, _, _, _, _, _, hp => by
    cases outs with
    | nil => simp only [putR, Option.some.injEq] at hp; subst hp; exact ⟨fpc, S, fun a k h => .inl ⟨k, h⟩⟩
    | cons x r => simp [putR] at hp
  | .d x :: ars, outs, e, e2, fpc, g, S, nd, hk, hs, hd, hf, hp => by
    cases outs with
    | nil => simp [putR] at hp
    | cons y outs =>
      simp only [putR] at hp
      obtain ⟨fp2, S2, h2⟩ := put_ok (ars := ars) (outs := outs) (g := fun i => g (i + 1)) S nd hk (fun i j o h1 h2 => hs (i + 1) j o (by simpa using h1) h2) (fun i i' a h1 h2 => Nat.succ.inj (hd _ _ a h1 h2)) (fun i a k h => hf (i + 1) a k h) hp
      refine ⟨fp2, S2, fun a k h => ?_⟩
      rcases h2 a k h with q | ⟨i, q⟩
      · exact .inl q
      · exact .inr ⟨i + 1, q⟩
  | .r j :: ars, outs, e, e2, fpc, g, S, nd, hk, hs, hd, hf, hp => by
    obtain ⟨n1, n2⟩ := List.nodup_cons.mp nd
    cases outs with
    | nil => simp [putR] at hp
    | cons y outs =>
      cases y with
      | t o =>
        simp only [putR] at hp
        obtain ⟨v, hv, T, ng⟩ := hs 0 j o rfl rfl
        obtain ⟨hj, hkind⟩ := hk j List.mem_cons_self
        have hy : SlotOk K G F H s0 (sset (clr j e) j ((sget e0 j).put o)) σ (g 0) j ((sget e0 j).put o) := by
          rcases hkind with ⟨o1, e1⟩ | ⟨⟨o1, e1⟩, w, w1, w2⟩
          · rw [e1]; exact ⟨v, hv, T⟩
          · rw [e1]
            rw [hv] at w2; cases w2
            exact ⟨v, hv, w1, T⟩
        have hna : ∀ k p, (sget e0 j).put o = .al k p → k ≠ j := by
          intro k p q
          rcases hkind with ⟨o1, e1⟩ | ⟨⟨o1, e1⟩, _⟩ <;> (rw [e1] at q; cases q)
        have S1 := S.put (i := j) (y := (sget e0 j).put o) (σ' := σ) (f := g 0) hj rfl (fun _ _ => rfl) ng (fun k a hk ha hg => hf 0 a k hg ha) hy hna
        obtain ⟨fp2, S2, h2⟩ := put_ok (ars := ars) (outs := outs) (g := fun i => g (i + 1)) S1 n2 (fun i hi => by
            rw [sset_length, clr_length]
            exact hk i (List.mem_cons_of_mem _ hi)) (fun i j o h1 h2 => hs (i + 1) j o (by simpa using h1) h2) (fun i i' a h1 h2 => Nat.succ.inj (hd _ _ a h1 h2)) (fun i a k h hk => by
            by_cases hkj : k = j
            · subst hkj
              rw [fpSet_self] at hk
              exact absurd (hd _ _ a h hk) (by omega)
            · rw [fpSet_ne hkj] at hk
              exact hf (i + 1) a k h hk) hp
        refine ⟨fp2, S2, fun a k h => ?_⟩
        rcases h2 a k h with ⟨k', q⟩ | ⟨i, q⟩
        · by_cases hkj : k' = j
          · subst hkj
            rw [fpSet_self] at q
            exact .inr ⟨0, q⟩
          · rw [fpSet_ne hkj] at q
            exact .inl ⟨k', q⟩
        · exact .inr ⟨i + 1, q⟩
      | _ => simp [putR] at hp
theorem call_ok {fs : WE} {n : Nat} {ars : List Ar} {vs : List V} {Q : VK} {Qd : EV → Env → Prop} (S : Sim K F G H s0 env σ fp) (R : ArsR K G σ ars vs) (q : callQ n fs Qd ars env)
    (k : ∀ ev v env' G' H', Gle F G G' → EVS K F G' H' s0 env' σ ev v → Qd ev env' → Q v H') : spW K n fs vs H Q E0 := by
  obtain ⟨hn, as, ha, nd, hfs⟩ := q
  replace hfs := hfs.go
  obtain ⟨l1, l2, l3⟩ := args_sim R ha S
  have tsome : ∀ j ∈ refs ars, ∃ (o : OT) (v : V) (i : Nat), ars[i]? = some (Ar.r j) ∧ treeOf env j = some o ∧ σ[j]? = some (some v) := fun j hj => by
    obtain ⟨i, hi⟩ := refs_mem.mp hj
    rcases l3 i with ⟨o, v, _, _, h⟩ | ⟨_, h⟩
    · rcases h with ⟨j', h1, h2, h3, _⟩ | ⟨x, h1, _⟩
      · rw [hi] at h1; cases h1
        exact ⟨o, v, i, hi, h2, h3⟩
      · rw [hi] at h1; cases h1
    · have := (List.getElem?_eq_some_iff.mp hi).1
      omega
  obtain ⟨fph, Sh, hh1, hh2⟩ := hide_ok nd (fun j hj => by obtain ⟨o, _, _, _, h, _⟩ := tsome j hj; rw [h]; rfl) S
  have own := fun (i : Nat) (a : Addr) (h : a ∈ fph i) => Sh.own h
  let P : Addr → Prop := fun a => ∃ i, a ∈ fph i
  have hPF : ∀ a, P a → F a = none := fun a ⟨i, h⟩ => (own i a h).2.2
  have fle : Same F (addP F H P) := addP_le hPF
  have vlen : ∀ {ars : List Ar} {vs : List V}, ArsR K G σ ars vs → ars.length = vs.length := by
    intro ars
    induction ars with
    | nil => intro vs h; rw [show vs = [] from h]; rfl
    | cons a ars ih => intro vs h; obtain ⟨v, r, rfl, _, h2⟩ := h; simp [ih h2]
  -- the arguments' own state
  let fpa : Nat → List Addr := fun i => match ars[i]? with
    | some (.r j) => fp j
    | _ => []
  have pap : ∀ j, j ∈ refs ars → ∀ a, a ∈ fp j → ¬ P a := fun j hj a haj ⟨i, hi⟩ => by
    by_cases hir : i ∈ refs ars
    · rw [hh2 i hir] at hi; cases hi
    · rw [hh1 i hir] at hi
      exact hir (S.dj i j a hi haj ▸ hj)
  have Sa : Sim K (addP F H P) G H [] as (vs.map some) fpa := by
    refine ⟨S.gh, addP_same S.fh, fun i => ?_, fun i i' a h1 h2 => ?_, fun i => ?_, by rw [List.length_map, l1]⟩
    · show (match ars[i]? with | some (.r j) => fp j | _ => []).Nodup
      split
      · exact S.nd _
      · exact List.nodup_nil
    · have h1' : a ∈ (match ars[i]? with | some (.r j) => fp j | _ => []) := h1
      have h2' : a ∈ (match ars[i']? with | some (.r j) => fp j | _ => []) := h2
      split at h1'
      · rename_i j e1
        split at h2'
        · rename_i j' e2
          have := S.dj j j' a h1' h2'
          subst this
          exact refs_inj nd e1 e2
        · cases h2'
      · cases h1'
    · rcases l3 i with ⟨o, v, h1, h2, h⟩ | ⟨h1, h2⟩
      · rw [h1]
        have hv : (vs.map some)[i]? = some (some v) := by rw [List.getElem?_map, h2]; rfl
        refine ⟨v, hv, ?_⟩
        rcases h with ⟨j, e1, e2, e3, T⟩ | ⟨x, e1, rfl, R'⟩
        · have : fpa i = fp j := by show (match ars[i]? with | some (.r j) => fp j | _ => []) = _; rw [e1]
          rw [this]
          refine T.frame o (Same.refl G) fun b hb => ?_
          obtain ⟨_, q2, q3⟩ := T.own o b hb
          exact ⟨rfl, q2, (addP_out (pap j (refs_mem.mpr ⟨i, e1⟩) b hb)).trans q3⟩
        · have : fpa i = [] := by show (match ars[i]? with | some (.r j) => fp j | _ => []) = _; rw [e1]
          rw [this]
          simp only [TR]
          exact ⟨R', trivial⟩
      · rw [h1]
        show (match ars[i]? with | some (.r j) => fp j | _ => []) = []
        rw [List.getElem?_eq_none h2]
  refine ⟨by rw [← hn, vlen R], addP F H P, G, as, fpa, _, l2, Sa, hfs, fun ev v outs G' H' gl evs ⟨e2, hput, hres⟩ => ?_⟩
  -- behind the call
  have so : ∃ fpo, Sim K (addP F H P) G' H' [] outs (vs.map some) fpo ∧ ∀ a, (∃ i, a ∈ fpo i) → (∀ t f, ev = .o t → TR K G' (addP F H P) H' t v f → a ∉ f) := by
    cases ev with
    | o t =>
      obtain ⟨fpo, f, nf, T, So⟩ := evs
      have hno := So.notin
      exact ⟨fpo, So.unF fun a ha => (T.own t a ha).2.2, fun a ⟨i, hi⟩ t' f' et T' hf' => by
        cases et
        rw [TR_uniq t T' T] at hf'
        exact hno i a hi hf'⟩
    | d x => obtain ⟨⟨fpo, So⟩, _⟩ := evs; exact ⟨fpo, So, fun _ _ _ _ z => nomatch z⟩
    | s j => obtain ⟨⟨fpo, So⟩, _⟩ := evs; exact ⟨fpo, So, fun _ _ _ _ z => nomatch z⟩
    | p j p => obtain ⟨⟨fpo, So⟩, _⟩ := evs; exact ⟨fpo, So, fun _ _ _ _ z => nomatch z⟩
  obtain ⟨fpo, So, hof⟩ := so
  have S' : Sim K F G' H' s0 (hideR env (refs ars)) σ fph := by
    refine Sh.grow gl.1 So.gh (fun a o e => So.fh a o (fle a o e)) fun i a hi => ?_
    obtain ⟨⟨u, hu⟩, q2, q3⟩ := own i a hi
    have e : addP F H P a = some u := (addP_in (P := P) ⟨i, hi⟩).trans hu
    exact ⟨(So.fh a u e).trans hu.symm, (gl.2 a (by rw [e]; simp)).trans q2, q3⟩
  have oo : ∀ i j o, ars[i]? = some (.r j) → sget outs i = .t o → ∃ v, σ[j]? = some (some v) ∧ TR K G' F H' o v (fpo i) ∧ (fpo i).Nodup := fun i j o h1 h2 => by
    have q := So.sl i
    rw [h2] at q
    obtain ⟨w, hw, T⟩ := q
    rcases l3 i with ⟨o', v', _, e2, h⟩ | ⟨_, h⟩
    · rcases h with ⟨j', e1, _, e3, _⟩ | ⟨x, e1, _⟩
      · rw [h1] at e1; cases e1
        rw [List.getElem?_map, e2] at hw
        cases hw
        refine ⟨w, e3, T.frame o (Same.refl G') fun b hb => ?_, So.nd i⟩
        obtain ⟨_, q2, q3⟩ := T.own o b hb
        refine ⟨rfl, q2, ?_⟩
        cases qf : F b with
        | none => rfl
        | some u => rw [fle b u qf] at q3; cases q3
      · rw [h1] at e1; cases e1
    · have := (List.getElem?_eq_some_iff.mp h1).1
      omega
  have apart : ∀ i a k, a ∈ fpo i → a ∉ fph k := fun i a k h1 h2 => by
    obtain ⟨⟨u, hu⟩, _⟩ := own k a h2
    have q3 := (So.own h1).2.2
    rw [addP_in (P := P) ⟨k, h2⟩, hu] at q3
    cases q3
  obtain ⟨fp2, S2, h2⟩ := put_ok (e0 := env) (g := fpo) S' nd (fun j hj => by
      obtain ⟨o, v, i, h1, h3, h4⟩ := tsome j hj
      refine ⟨by rw [hide_length]; exact treeOf_lt h3, ?_⟩
      have q := S.sl j
      rcases treeOf_cases h3 with e | e
      · exact .inl ⟨o, e⟩
      · rw [e] at q
        obtain ⟨w, w1, w0, _⟩ := q
        exact .inr ⟨⟨o, e⟩, w, w0, w1⟩) oo So.dj apart hput
  have gl' : Gle F G G' := gl.anti fle
  cases ev with
  | d x => exact k (.d x) v e2 G' H' gl' ⟨⟨fp2, S2⟩, evs.2⟩ hres
  | o t =>
    obtain ⟨fpo', f, nf, T, _⟩ := evs
    have fF : ∀ a ∈ f, F a = none := fun a ha => by
      have q3 := (T.own t a ha).2.2
      cases qf : F a with
      | none => rfl
      | some u => rw [fle a u qf] at q3; cases q3
    have T' : TR K G' F H' t v f := T.frame t (Same.refl G') fun a ha => ⟨rfl, (T.own t a ha).2.1, fF a ha⟩
    refine k (.o t) v e2 G' H' gl' ⟨fp2, f, nf, T', ?_⟩ hres
    refine S2.grow (Same.refl G') S2.gh (addF_same S2.fh) fun i a ha => ?_
    obtain ⟨_, q2, q3⟩ := S2.own ha
    refine ⟨rfl, q2, (addF_out fun hf => ?_).trans q3⟩
    rcases h2 a i ha with ⟨k', hk'⟩ | ⟨i', hi'⟩
    · obtain ⟨⟨u, hu⟩, _⟩ := own k' a hk'
      have q3 := (T.own t a hf).2.2
      rw [addP_in (P := P) ⟨k', hk'⟩, hu] at q3
      cases q3
    · exact hof a ⟨i', hi'⟩ t f rfl T hf
  | s kk =>
    simp only [resQ] at hres
    cases e1 : ars[kk]? with
    | none => rw [e1] at hres; exact hres.elim
    | some ar =>
      rw [e1] at hres
      cases ar with
      | d x => exact hres.elim
      | r j =>
        obtain ⟨_, hv⟩ := evs
        rcases l3 kk with ⟨o', v', _, e2', h⟩ | ⟨_, h⟩
        · rcases h with ⟨j', e1', _, e3, _⟩ | ⟨x, e1', _⟩
          · rw [e1] at e1'; cases e1'
            rw [List.getElem?_map, e2'] at hv
            cases hv
            exact k (.s j) v e2 G' H' gl' ⟨⟨fp2, S2⟩, e3⟩ hres
          · rw [e1] at e1'; cases e1'
        · have := (List.getElem?_eq_some_iff.mp e1).1
          omega
  | p _ _ => exact hres.elim
/-- f(e, ..), a def of the text -/
theorem d_call {X : Cx} {k n : Nat} {f : Addr} {fd : FuncData} {ps : List Str} {fs : WE} {x : Str} {p pos : Pos} {e : Expr} {es : List Expr} {w : WR} (FO : FnOk X.prog X.w X.K X.mg X.base CX0 k f fd ps (spW X.K n fs)) (hr : Room k X.A) (hg : Gl X x) (hm : X.mg x = some (.ref f))
    (hk : PySem.W.keepIn X.K (.ref f) = true) (hb : Binds X.K fd ps []) (ha : PA X (e :: es) (rdR X.K w)) (hdb : (x == ("__debug__" : Str)) = false)
    (he : starEach (e :: es) X.env = (false, eval e X.env) :: starEach es X.env) (hpl : (backTo pos (starEach es X.env)).any (·.1) = false) : PE X (.Call (.Name x p) (e :: es) [] pos) (rdE X.K (wCall n fs w)) :=
  PEimp (pe_call (sp := spW X.K n fs) FO hr hg hm hk hb .nil pass0 ha hdb he hpl) fun σ H Q ⟨F, G, s0, env, fp, Qd, S, hw', kk⟩ =>
    ⟨F, G, s0, env, fp, callQ n fs Qd, S, hw', fun ars vs e1 G1 H1 gl1 ⟨fp1, S1⟩ R1 q => by
      show spW X.K n fs (vs ++ []) H1 Q E0
      rw [List.append_nil]
      exact call_ok S1 R1 q fun ev v e2 G2 H2 gl2 evs q2 => kk ev v e2 G2 H2 (gl1.trans gl2) evs q2⟩
end
end Bv
end SBvI
section SBvJ
set_option linter.all false
set_option Elab.async false
open PySem PySem.Spec PyProof.Rows L2
namespace Bv
structure PP where
  nx : Env → Prop
  rt : EV → Env → Prop
  bk : Env → Prop
  ct : Env → Prop
abbrev WS := Env → PP → Prop
def Sat (K : PySem.W.Frag) (F G : Hp) (s0 : L2.St) (P : PP) (D : Ends) : Prop :=
  (∀ σ' env' G' H', Gle F G G' → SimE K F G' H' s0 env' σ' → P.nx env' → D.nx σ' H') ∧ (∀ ev v σ' env' G' H', Gle F G G' → EVS K F G' H' s0 env' σ' ev v → P.rt ev env' → D.rt v H') ∧
  (∀ σ' env' G' H', Gle F G G' → SimE K F G' H' s0 env' σ' → P.bk env' → D.bk σ' H') ∧ (∀ σ' env' G' H', Gle F G G' → SimE K F G' H' s0 env' σ' → P.ct env' → D.ct σ' H')
def rdS (K : PySem.W.Frag) (w : WS) : TS := fun D σ H => ∃ F G s0 env fp P, Sim K F G H s0 env σ fp ∧ w env P ∧ Sat K F G s0 P D
/-- where a slot's own object stands: the root, the way, the node -/
def placeOf (env : Env) (j : Nat) : Option (Nat × List Nat × OT) := match sget env j with
  | .t o => some (j, [], o)
  | .a o => some (j, [], o)
  | .al k p => match treeOf env k with
    | some o => match nodeAt p o with
      | some o' => some (k, p, o')
      | none => none
    | none => none
  | .no => none
def mutE (env : Env) (r : Nat) (p : List Nat) (y : OT) : Env := match treeOf env r with
  | some o => sset (clrx r p env) r ((sget env r).put (nodeSet p o y))
  | none => env
section
variable {K : PySem.W.Frag} {G G' H H' F F' : Hp} {s0 σ : L2.St} {env : Env} {fp : Nat → List Addr} {a : Addr}
theorem Sat.mono {P : PP} {D : Ends} {G1 : Hp} (h : Sat K F G s0 P D) (g : Gle F G G1) : Sat K F G1 s0 P D :=
  ⟨fun σ' env' G' H' gl => h.1 σ' env' G' H' (g.trans gl), fun ev v σ' env' G' H' gl => h.2.1 ev v σ' env' G' H' (g.trans gl), fun σ' env' G' H' gl => h.2.2.1 σ' env' G' H' (g.trans gl), fun σ' env' G' H' gl => h.2.2.2 σ' env' G' H' (g.trans gl)⟩
/-! ### blocks -/
def wPass : WS := fun env P => P.nx env
def isArg : SV → Bool
  | .a _ => true
  | _ => false
def forget (i : Nat) (e : Env) : Env := sset (clr i e) i .no
/-- the gate behind a statement; slots may be forgotten there -/
inductive Gf (Q : Env → Prop) : Env → Prop where
  | mk {e : Env} (h : Q e) : Gf Q e
  | drop {e : Env} (i : Nat) (hi : i < e.length) (h : Gf Q (forget i e)) : Gf Q e
  | fz {e : Env} (j : Nat) (o : OT) (hj : treeOf e j = some o) (h : Gf Q (sset (clr j e) j ((sget e j).put (.d (res o))))) : Gf Q e
theorem Sim.forget {i : Nat} {fp : Nat → List Addr} (S : Sim K F G H s0 env σ fp) (hi : i < env.length) : Sim K F G H s0 (forget i env) σ (fpSet fp i []) :=
  S.put hi rfl (fun _ _ => rfl) List.nodup_nil (fun _ _ _ _ => by simp) rfl (fun _ _ q => nomatch q)
theorem Gf.go {Q : Env → Prop} : ∀ {G : Hp} {env : Env}, Gf Q env → SimE K F G H s0 env σ → ∃ G' e', Gle F G G' ∧ SimE K F G' H s0 e' σ ∧ Q e'
  | _, _, .mk h, S => ⟨_, _, Gle.refl _ _, S, h⟩
  | _, _, .drop _ hi h, ⟨_, S⟩ => Gf.go h ⟨_, S.forget hi⟩
  | _, _, .fz _ _ hj h, ⟨_, S⟩ => by
    obtain ⟨S', gl, _⟩ := S.freezeS hj
    obtain ⟨G2, e2, g2, r⟩ := Gf.go h ⟨_, S'⟩
    exact ⟨G2, e2, gl.trans g2, r⟩
def wSeq (a b : WS) : WS := fun env P => a env { P with nx := Gf fun e => b e P }
theorem ss_nil {X : Cx} : PSs X [] (rdS X.K wPass) := PSsimp pss_nil fun D σ H ⟨F, G, s0, env, fp, P, S, hw, sat⟩ => sat.1 σ env G H (Gle.refl F G) ⟨fp, S⟩ hw
theorem ss_cons {X : Cx} {st : Stmt} {rest : List Stmt} {a b : WS} (h1 : PS X st (rdS X.K a)) (h2 : PSs X rest (rdS X.K b)) : PSs X (st :: rest) (rdS X.K (wSeq a b)) :=
  PSsimp (pss_cons h1 h2) fun D σ H ⟨F, G, s0, env, fp, P, S, hw, sat⟩ => ⟨F, G, s0, env, fp, { P with nx := Gf fun e => b e P }, S, hw,
    fun σ' env' G' H' gl S' q => by
      obtain ⟨G2, e2, gl2, ⟨fp2, S2⟩, q2⟩ := q.go S'
      exact ⟨F, G2, s0, e2, fp2, P, S2, q2, sat.mono (gl.trans gl2)⟩, sat.2.1, sat.2.2.1, sat.2.2.2⟩
theorem s_pass {X : Cx} {pos : Pos} : PS X (.Pass pos) (rdS X.K wPass) := PSimp ps_pass fun D σ H ⟨F, G, s0, env, fp, P, S, hw, sat⟩ => sat.1 σ env G H (Gle.refl F G) ⟨fp, S⟩ hw
def wBrk : WS := fun env P => P.bk env
def wCont : WS := fun env P => P.ct env
theorem s_brk {X : Cx} {pos : Pos} : PS X (.Break pos) (rdS X.K wBrk) := PSimp ps_break fun D σ H ⟨F, G, s0, env, fp, P, S, hw, sat⟩ => sat.2.2.1 σ env G H (Gle.refl F G) ⟨fp, S⟩ hw
theorem s_cont {X : Cx} {pos : Pos} : PS X (.Continue pos) (rdS X.K wCont) := PSimp ps_continue fun D σ H ⟨F, G, s0, env, fp, P, S, hw, sat⟩ => sat.2.2.2 σ env G H (Gle.refl F G) ⟨fp, S⟩ hw
def wRet (w : WE) : WS := fun env P => w env P.rt
theorem s_ret {X : Cx} {e : Expr} {w : WE} {pos : Pos} (h : PE X e (rdE X.K w)) : PS X (.Return (some e) pos) (rdS X.K (wRet w)) := PSimp (ps_ret h) fun D σ H ⟨F, G, s0, env, fp, P, S, hw, sat⟩ =>
  ⟨F, G, s0, env, fp, P.rt, S, hw, fun ev v env' G' H' gl evs q => sat.2.1 ev v σ env' G' H' gl evs q⟩
def wRetN : WS := fun env P => P.rt (.d .non) env
theorem s_retN {X : Cx} {pos : Pos} : PS X (.Return none pos) (rdS X.K wRetN) := PSimp ps_retN fun D σ H ⟨F, G, s0, env, fp, P, S, hw, sat⟩ => sat.2.1 (.d .non) .non σ env G H (Gle.refl F G) ⟨⟨fp, S⟩, by simp only [Rep]⟩ hw
def wEx (w : WE) : WS := fun env P => w env fun _ e => P.nx e
theorem EVS.any {ev : EV} {v : V} (h : EVS K F G H s0 env σ ev v) : SimE K F G H s0 env σ := by
  cases ev with
  | o t =>
    obtain ⟨fp, f, nf, T, S⟩ := h
    exact ⟨fp, S.unF fun b hb => (T.own t b hb).2.2⟩
  | d x => exact h.1
  | s j => exact h.1
  | p j p => exact h.1
theorem s_ex {X : Cx} {e : Expr} {w : WE} {pos : Pos} (h : PE X e (rdE X.K w)) (hs : swapsWith e none pos.line X.env = pure false) : PS X (.Expr e pos) (rdS X.K (wEx w)) := PSimp (ps_expr h hs) fun D σ H ⟨F, G, s0, env, fp, P, S, hw, sat⟩ =>
  ⟨F, G, s0, env, fp, _, S, hw, fun ev v env' G' H' gl evs q => sat.1 σ env' G' H' gl evs.any q⟩
def wDoc : WS := wPass
theorem s_doc {X : Cx} {x j pos pos'} : PS X (.Expr (.Constant (.str x) j pos) pos') (rdS X.K wPass) := PSimp ps_doc fun D σ H ⟨F, G, s0, env, fp, P, S, hw, sat⟩ => sat.1 σ env G H (Gle.refl F G) ⟨fp, S⟩ hw
def wIfS (t : WT) (a b : WS) : WS := fun env P => t env fun c e => Brn c (a e P) (b e P)
theorem s_if {X : Cx} {c : Expr} {as bs : List Stmt} {t : WT} {a b : WS} {pos : Pos} (hc : PT X c (rdT X.K t)) (ha : PSs X as (rdS X.K a)) (hb : PSs X bs (rdS X.K b)) : PS X (.If c as bs pos) (rdS X.K (wIfS t a b)) :=
  PSimp (ps_if hc ha hb) fun D σ H ⟨F, G, s0, env, fp, P, S, hw, sat⟩ => ⟨F, G, s0, env, fp, _, S, hw, fun c env' G' H' gl ⟨fp', S'⟩ q => by
    cases c with
    | true => exact ⟨F, G', s0, env', fp', P, S', q.tt, sat.mono gl⟩
    | false => exact ⟨F, G', s0, env', fp', P, S', q.ff, sat.mono gl⟩⟩
def wNever : WS := fun _ _ => False
theorem s_never {X : Cx} {st : Stmt} : PS X st (rdS X.K wNever) := PSimp ps_never fun D σ H ⟨F, G, s0, env, fp, P, S, hw, sat⟩ => hw
theorem ss_never {X : Cx} {sts : List Stmt} : PSs X sts (rdS X.K wNever) := PSsimp pss_never fun D σ H ⟨F, G, s0, env, fp, P, S, hw, sat⟩ => hw

/-! ### name = e -/
def isA : SV → Bool
  | .a _ => true
  | _ => false
def asgQ (i : Nat) (Q : Env → Prop) (ev : EV) (e : Env) : Prop := match ev with
  | .d x => isA (sget e i) = false ∧ Q (sset (clr i e) i (.t (.d x)))
  | .o t => isA (sget e i) = false ∧ Q (sset (clr i e) i (.t t))
  | .s j => if j = i then Q e else isA (sget e i) = false ∧ (match sget e j with
    | .t _ => Q (sset (clr i e) i (.al j []))
    | .a _ => Q (sset (clr i e) i (.al j []))
    | .al k p => k ≠ i ∧ Q (sset (clr i e) i (.al k p))
    | .no => False)
  | .p j p => j ≠ i ∧ isA (sget e i) = false ∧ (match treeOf e j with
    | some o => (nodeAt p o).isSome = true ∧ Q (sset (clr i e) i (.al j p))
    | none => False)
theorem set_len {i : Nat} {v : V} : (σ.set i (some v)).length = σ.length := List.length_set
theorem set_get {i j : Nat} {v : V} (h : j ≠ i) : (σ.set i (some v))[j]? = σ[j]? := List.getElem?_set_ne (Ne.symm h)
theorem asg_ok {i : Nat} {ev : EV} {v : V} {Q : Env → Prop} (hi : i < env.length) (h : EVS K F G H s0 env σ ev v) (q : asgQ i Q ev env) : ∃ env', SimE K F G H s0 env' (σ.set i (some v)) ∧ Q env' := by
  have self : ∀ {fp : Nat → List Addr} {F : Hp}, Sim K F G H s0 env σ fp → (σ.set i (some v))[i]? = some (some v) := fun S => List.getElem?_set_self (by rw [← S.len]; exact hi)
  cases ev with
  | d x =>
    obtain ⟨⟨fp, S⟩, R⟩ := h
    refine ⟨_, ⟨_, S.put (y := .t (.d x)) (f := []) hi set_len (fun j hj => set_get hj) List.nodup_nil (fun _ _ _ _ => by simp) ⟨v, self S, ?_⟩ (fun _ _ z => nomatch z)⟩, q.2⟩
    simp only [TR]; exact ⟨R, trivial⟩
  | o t =>
    obtain ⟨fp, f, nf, T, S⟩ := h
    have S1 := S.unF fun b hb => (T.own t b hb).2.2
    exact ⟨_, ⟨_, S1.put (y := .t t) (f := f) hi set_len (fun j hj => set_get hj) nf (fun j b _ hb => S.notin j b hb) ⟨v, self S, T⟩ (fun _ _ z => nomatch z)⟩, q.2⟩
  | s j =>
    obtain ⟨⟨fp, S⟩, hv⟩ := h
    simp only [asgQ] at q
    by_cases hj : j = i
    · subst hj
      rw [if_pos rfl] at q
      have e : σ.set j (some v) = σ := by
        apply List.ext_getElem?
        intro k
        by_cases hk : k = j
        · subst hk; rw [self S, hv]
        · rw [set_get hk]
      rw [e]
      exact ⟨env, ⟨fp, S⟩, q⟩
    · rw [if_neg hj] at q
      have fin : ∀ k p o o' v0, k ≠ i → treeOf env k = some o → nodeAt p o = some o' → σ[k]? = some (some v0) → walk H v0 p = some v → Q (sset (clr i env) i (.al k p)) → ∃ env', SimE K F G H s0 env' (σ.set i (some v)) ∧ Q env' := fun k p o o' v0 hk h1 h2 h3 h4 q' =>
        ⟨_, ⟨_, S.put (y := .al k p) (f := []) hi set_len (fun j hj => set_get hj) List.nodup_nil (fun _ _ _ _ => by simp) ⟨rfl, o, o', v0, v, by rw [treeOf_sset_ne (Ne.symm hk), treeOf_clr]; exact h1, h2, by rw [set_get hk]; exact h3, h4, self S⟩ (fun _ _ z => by cases z; exact hk)⟩, q'⟩
      have sl := S.sl j
      cases e : sget env j with
      | no => rw [e] at q; exact q.2.elim
      | t o =>
        rw [e] at q
        exact fin j [] o o v hj (by unfold treeOf; rw [e]) rfl hv (by cases v <;> rfl) q.2
      | a o =>
        rw [e] at q
        exact fin j [] o o v hj (by unfold treeOf; rw [e]) rfl hv (by cases v <;> rfl) q.2
      | al k p =>
        rw [e] at q sl
        obtain ⟨_, o, o', v0, v', h1, h2, h3, h4, h5⟩ := sl
        rw [hv] at h5; cases h5
        exact fin k p o o' v0 q.2.1 h1 h2 h3 h4 q.2.2
  | p j p =>
    obtain ⟨⟨fp, S⟩, v0, hv0, hw⟩ := h
    obtain ⟨hj, _, q⟩ := q
    cases e : treeOf env j with
    | none => rw [e] at q; exact q.elim
    | some o =>
      rw [e] at q
      obtain ⟨o', ho'⟩ := Option.isSome_iff_exists.mp q.1
      exact ⟨_, ⟨_, S.put (y := .al j p) (f := []) hi set_len (fun j hj => set_get hj) List.nodup_nil (fun _ _ _ _ => by simp) ⟨rfl, o, o', v0, v, by rw [treeOf_sset_ne (Ne.symm hj), treeOf_clr]; exact e, ho', by rw [set_get hj]; exact hv0, hw, self S⟩ (fun _ _ z => by cases z; exact hj)⟩, q.2⟩
def wAsg (i : Nat) (w : WE) : WS := fun env P => w env (asgQ i P.nx)
theorem s_asg {X : Cx} {i : Nat} {st : Stmt} {w : WE} {x : Str} (h : PS X st (tAsg (rdE X.K w) (gName i))) (hx : X.N[i]? = some x) : PS X st (rdS X.K (wAsg i w)) :=
  ⟨fun pins s σ H D I ⟨F, G, s0, env, fp, P, S, hw, sat⟩ => h.run pins s σ H D I ⟨F, G, s0, env, fp, asgQ i P.nx, S, hw, fun ev v env' G' H' gl evs q => by
    obtain ⟨fp', S'⟩ := evs.any
    obtain ⟨e2, S2, q2⟩ := asg_ok (i := i) (by rw [S'.len, I.len]; exact (List.getElem?_eq_some_iff.mp hx).1) evs q
    exact sat.1 _ e2 G' H' gl S2 q2⟩⟩

/-! ### targets -/
abbrev WG := D → Env → (Env → Prop) → Prop
abbrev WGs := List D → Env → (Env → Prop) → Prop
def rdG (K : PySem.W.Frag) (w : WG) : TG := fun v σ H Q => ∃ F G s0 env fp x Qd, Sim K F G H s0 env σ fp ∧ Rep K G x v ∧ w x env Qd ∧ ∀ σ' env' G' H', Gle F G G' → SimE K F G' H' s0 env' σ' → Qd env' → Q σ' H'
def rdGs (K : PySem.W.Frag) (w : WGs) : TGs := fun vs σ H Q => ∃ F G s0 env fp xs Qd, Sim K F G H s0 env σ fp ∧ RepL K G xs vs ∧ w xs env Qd ∧ ∀ σ' env' G' H', Gle F G G' → SimE K F G' H' s0 env' σ' → Qd env' → Q σ' H'
theorem PGimp {X : Cx} {e : Expr} {t t' : TG} (h : PG X e t) (k : ∀ v σ H Q, t' v σ H Q → t v σ H Q) : PG X e t' := ⟨fun pins s σ H v u Q I r q => h.run pins s σ H v u Q I r (k v σ H Q q)⟩
theorem PGsimp {X : Cx} {es : List Expr} {t t' : TGs} (h : PGs X es t) (k : ∀ vs σ H Q, t' vs σ H Q → t vs σ H Q) : PGs X es t' := ⟨fun pins s σ H v u Q I r q => h.run pins s σ H v u Q I r (k v σ H Q q)⟩
def gN (i : Nat) : WG := fun x e Q => i < e.length ∧ isA (sget e i) = false ∧ Q (sset (clr i e) i (.t (.d x)))
theorem g_name {X : Cx} {i : Nat} {x : Str} {pos : Pos} (h : PG X (.Name x pos) (gName i)) : PG X (.Name x pos) (rdG X.K (gN i)) := PGimp h fun v σ H Q ⟨F, G, s0, env, fp, y, Qd, S, R, hw, k⟩ => by
  obtain ⟨e2, S2, q2⟩ := asg_ok (i := i) (ev := .d y) (Q := Qd) hw.1 ⟨⟨fp, S⟩, R⟩ ⟨hw.2.1, hw.2.2⟩
  exact k _ e2 G H (Gle.refl F G) S2 q2
def gsNil : WGs := fun xs e Q => xs = [] ∧ Q e
def gsCons (g : WG) (r : WGs) : WGs := fun xs e Q => match xs with
  | x :: xs => g x e fun e1 => r xs e1 Q
  | [] => False
theorem gs_nil {X : Cx} : PGs X [] (rdGs X.K gsNil) := PGsimp pgs_nil fun vs σ H Q ⟨F, G, s0, env, fp, xs, Qd, S, R, hw, k⟩ => by
  obtain ⟨rfl, q⟩ := hw
  simp only [RepL] at R
  exact ⟨R, k σ env G H (Gle.refl F G) ⟨fp, S⟩ q⟩
theorem gs_cons {X : Cx} {e : Expr} {es : List Expr} {g : WG} {r : WGs} (h1 : PG X e (rdG X.K g)) (h2 : PGs X es (rdGs X.K r)) (hs : (assignEach (e :: es) X.env).map (·.2) = assign e X.env :: (assignEach es X.env).map (·.2)) : PGs X (e :: es) (rdGs X.K (gsCons g r)) :=
  PGsimp (pgs_cons h1 h2 hs) fun vs σ H Q ⟨F, G, s0, env, fp, xs, Qd, S, R, hw, k⟩ => by
    cases xs with
    | nil => exact hw.elim
    | cons x xs =>
      simp only [RepL] at R
      obtain ⟨v, rv, rfl, R1, R2⟩ := R
      exact ⟨v, rv, rfl, F, G, s0, env, fp, x, _, S, R1, hw, fun σ' env' G' H' gl ⟨fp', S'⟩ q => ⟨F, G', s0, env', fp', xs, Qd, S', R2.mono gl.1 xs, q, fun σ2 e2 G2 H2 gl2 S2 q2 => k σ2 e2 G2 H2 (gl.trans gl2) S2 q2⟩⟩
def gT (m : Nat) (r : WGs) : WG := fun x e Q => match x with
  | .tup xs => xs.length = m ∧ r xs e Q
  | _ => False
theorem g_tup {X : Cx} {m : Nat} {es : List Expr} {kk : Nat} {r : WGs} {pos : Pos} (hc : X.calm = true) (h : PGs X es (rdGs X.K r)) (hn : (assignEach es X.env).length = m) (hst : (assignEach es X.env).findIdx? (·.1) = none) : PG X (.Tuple es kk pos) (rdG X.K (gT m r)) :=
  PGimp (pg_tup hc h hn hst) fun v σ H Q ⟨F, G, s0, env, fp, x, Qd, S, R, hw, k⟩ => by
    cases x with
    | tup xs =>
      simp only [Rep] at R
      obtain ⟨a, vs, rfl, s, R⟩ := R
      exact ⟨a, vs, rfl, same_t S.gh s, by rw [← R.length]; exact hw.1, F, G, s0, env, fp, xs, Qd, S, R, hw.2, k⟩
    | _ => exact hw.elim
/-- a, b = e -/
def wAsgT (g : WG) (w : WE) : WS := fun env P => wD w env fun x e => g x e P.nx
theorem s_asgT {X : Cx} {st : Stmt} {g : WG} {w : WE} (h : PS X st (tAsg (rdD X.K (wD w)) (rdG X.K g))) : PS X st (rdS X.K (wAsgT g w)) :=
  PSimp h fun D σ H ⟨F, G, s0, env, fp, P, S, hw, sat⟩ => ⟨F, G, s0, env, fp, fun x e => g x e P.nx, S, hw,
    fun x v env' G' H' gl ⟨fp', S'⟩ R q => ⟨F, G', s0, env', fp', x, P.nx, S', R, q, fun σ' e2 G2 H2 gl2 S2 q2 => sat.1 σ' e2 G2 H2 (gl.trans gl2) S2 q2⟩⟩
/-! ### a place of a slot -/
theorem place_ok {j r : Nat} {p : List Nat} {o1 : OT} (S : Sim K F G H s0 env σ fp) (h : placeOf env j = some (r, p, o1)) :
    ∃ o v0 v f, treeOf env r = some o ∧ nodeAt p o = some o1 ∧ σ[r]? = some (some v0) ∧ walk H v0 p = some v ∧ σ[j]? = some (some v) ∧ TR K G F H o1 v f ∧ f.Nodup := by
  have q := S.sl j
  unfold placeOf at h
  cases e : sget env j with
  | no => rw [e] at h; cases h
  | t o =>
    rw [e] at h q; cases h
    obtain ⟨v, h1, T⟩ := q
    exact ⟨o1, v, v, _, by unfold treeOf; rw [e], rfl, h1, by cases v <;> rfl, h1, T, S.nd j⟩
  | a o =>
    rw [e] at h q; cases h
    obtain ⟨v, h1, _, T⟩ := q
    exact ⟨o1, v, v, _, by unfold treeOf; rw [e], rfl, h1, by cases v <;> rfl, h1, T, S.nd j⟩
  | al k p' =>
    rw [e] at h q
    obtain ⟨_, o, o', v0, v, h1, h2, h3, h4, h5⟩ := q
    simp only [h1, h2] at h
    cases h
    obtain ⟨v0', e0, T⟩ := S.tree h1
    rw [h3] at e0; cases e0
    obtain ⟨w, f, e2, T', _, nf⟩ := T.at h2
    rw [h4] at e2; cases e2
    exact ⟨o, v0, v, f, h1, h2, h3, h4, h5, T', nf (S.nd _)⟩
theorem mutL {j r : Nat} {p : List Nat} {os : List OT} (S : Sim K F G H s0 env σ fp) (h : placeOf env j = some (r, p, .l os)) :
    ∃ a vs f, σ[j]? = some (some (.ref a)) ∧ H a = some (.lst vs) ∧ TRL K G F H os vs f ∧ f.Nodup ∧ a ∉ f ∧
      ∀ os' vs', (∃ f', (∀ b ∈ f', b ∈ f) ∧ f'.Nodup ∧ TRL K G F H os' vs' f') → SimE K F G (upd H a (.lst vs')) s0 (mutE env r p (.l os')) σ := by
  obtain ⟨o, v0, v, f, h1, h2, h3, h4, h5, T, nf⟩ := place_ok S h
  simp only [TR] at T
  obtain ⟨a, vs, f1, rfl, rfl, e1, e2, e3, e4⟩ := T
  obtain ⟨n1, n2⟩ := List.nodup_cons.mp nf
  refine ⟨a, vs, f1, h5, e1, e4, n2, n1, fun os' vs' ⟨f', k1, k2, k3⟩ => ?_⟩
  have k4 : TRL K G F (upd H a (.lst vs')) os' vs' f' := k3.frame os' (Same.refl G) fun b hb => by
    obtain ⟨_, q2, q3⟩ := k3.own os' b hb
    exact ⟨upd_ne fun z => n1 (z ▸ k1 b hb), q2, q3⟩
  obtain ⟨f2, S2⟩ := S.mutate (u := .lst vs') (o2 := .l os') h1 h2 h3 h4 (fun g hg => by
      simp only [TR] at hg
      obtain ⟨a', _, _, ea, rfl, _⟩ := hg
      cases ea
      exact List.mem_cons_self) (fun g hg ng => by
      simp only [TR] at hg
      obtain ⟨a', vs2, g1, ea, rfl, q1, q2, q3, q4⟩ := hg
      cases ea
      rw [e1] at q1; cases q1
      rw [TRL_uniq os q4 e4] at ng ⊢
      refine ⟨a :: f', fun b hb => ?_, List.nodup_cons.mpr ⟨fun z => n1 (k1 a z), k2⟩, ?_⟩
      · rcases List.mem_cons.mp hb with z | z
        · rw [z]; exact List.mem_cons_self
        · exact List.mem_cons_of_mem _ (k1 b z)
      · simp only [TR]
        exact ⟨a, vs', f', rfl, rfl, upd_same, e2, e3, k4⟩)
  exact ⟨fpSet fp r f2, by unfold mutE; rw [h1]; exact S2⟩
theorem TRL.snocD {x : D} {v : V} (R : Rep K G x v) : ∀ {os : List OT} {vs : List V} {f : List Addr}, TRL K G F H os vs f → TRL K G F H (os ++ [.d x]) (vs ++ [v]) f
  | [], _, _, h => by
    simp only [TRL] at h
    obtain ⟨rfl, rfl⟩ := h
    simp only [List.nil_append, TRL, TR]
    exact ⟨v, [], [], [], rfl, rfl, ⟨R, rfl⟩, rfl, rfl⟩
  | o :: os, _, _, h => by
    simp only [TRL] at h
    obtain ⟨w, r, f1, f2, rfl, rfl, h1, h2⟩ := h
    simp only [List.cons_append, TRL]
    exact ⟨w, _, f1, f2, rfl, rfl, h1, TRL.snocD R h2⟩
theorem TRL.setD {x : D} {v : V} (R : Rep K G x v) : ∀ {os : List OT} {vs : List V} {f : List Addr} (k : Nat), TRL K G F H os vs f → f.Nodup → ∃ f', (∀ b ∈ f', b ∈ f) ∧ f'.Nodup ∧ TRL K G F H (os.set k (.d x)) (vs.set k v) f'
  | [], _, f, k, h, nf => by
    simp only [TRL] at h
    obtain ⟨rfl, rfl⟩ := h
    exact ⟨[], fun _ z => z, List.nodup_nil, by simp only [List.set_nil, TRL]; exact ⟨trivial, trivial⟩⟩
  | o :: os, _, f, k, h, nf => by
    simp only [TRL] at h
    obtain ⟨w, r, f1, f2, rfl, rfl, h1, h2⟩ := h
    obtain ⟨n1, n2, n3⟩ := List.nodup_append.mp nf
    cases k with
    | zero =>
      refine ⟨f2, fun b hb => List.mem_append_right _ hb, n2, ?_⟩
      simp only [List.set_cons_zero, TRL, TR]
      exact ⟨v, r, [], f2, rfl, rfl, ⟨R, rfl⟩, h2⟩
    | succ k =>
      obtain ⟨f', e1, e2, e3⟩ := TRL.setD R k h2 n2
      refine ⟨f1 ++ f', fun b hb => ?_, List.nodup_append.mpr ⟨n1, e2, fun b hb c hc => n3 b hb c (e1 c hc)⟩, ?_⟩
      · rcases List.mem_append.mp hb with z | z
        · exact List.mem_append_left _ z
        · exact List.mem_append_right _ (e1 b z)
      · simp only [List.set_cons_succ, TRL]
        exact ⟨w, _, f1, f', rfl, rfl, h1, e3⟩
theorem TRL.insD {x : D} {v : V} (R : Rep K G x v) : ∀ {os : List OT} {vs : List V} {f : List Addr} (k : Nat), TRL K G F H os vs f → TRL K G F H (os.take k ++ [.d x] ++ os.drop k) (vs.take k ++ [v] ++ vs.drop k) f
  | [], _, f, k, h => by
    simp only [TRL] at h
    obtain ⟨rfl, rfl⟩ := h
    simp only [List.take_nil, List.drop_nil, List.nil_append, List.append_nil, TRL, TR]
    exact ⟨v, [], [], [], rfl, rfl, ⟨R, rfl⟩, rfl, rfl⟩
  | o :: os, _, f, k, h => by
    have h0 := h
    simp only [TRL] at h
    obtain ⟨w, r, f1, f2, rfl, rfl, h1, h2⟩ := h
    cases k with
    | zero =>
      simp only [List.take_zero, List.drop_zero, List.nil_append, List.cons_append, TRL, TR]
      exact ⟨v, _, [], _, rfl, rfl, ⟨R, rfl⟩, w, r, f1, f2, rfl, rfl, h1, h2⟩
    | succ k =>
      simp only [List.take_succ_cons, List.drop_succ_cons, List.cons_append, TRL]
      exact ⟨w, _, f1, f2, rfl, rfl, h1, TRL.insD R k h2⟩
theorem placeOf_var {j : Nat} {x : Nat × List Nat × OT} (S : Sim K F G H s0 env σ fp) (h : placeOf env j = some x) : ∃ v, σ[j]? = some (some v) := by
  obtain ⟨r, p, o⟩ := x
  obtain ⟨_, _, v, _, _, _, _, _, h5, _, _⟩ := place_ok S h
  exact ⟨v, h5⟩
/-! ### slot.append(e), slot.insert(i, e) -/
def appQ (j : Nat) (Q : EV → Env → Prop) (x : D) (e : Env) : Prop := match placeOf e j with
  | some (r, p, .l os) => os.length < 1000000 ∧ Q (.d .non) (mutE e r p (.l (os ++ [.d x])))
  | _ => False
def isLst : Option (Nat × List Nat × OT) → Bool
  | some (_, _, .l _) => true
  | _ => false
def wApp (j : Nat) (w : WD) : WE := fun env Q => isLst (placeOf env j) = true ∧ w env (appQ j Q)
theorem sig_same {j : Nat} {v v' : V} (h : σ[j]? = some (some v)) (h' : σ[j]? = some (some v')) : v = v' := by rw [h] at h'; cases h'; rfl
theorem lst_at {j : Nat} (S : Sim K F G H s0 env σ fp) (h : isLst (placeOf env j) = true) : ∃ a vs, σ[j]? = some (some (.ref a)) ∧ H a = some (.lst vs) := by
  unfold isLst at h
  split at h
  · rename_i r p os e
    obtain ⟨a, vs, f, h1, h2, _⟩ := mutL S e
    exact ⟨a, vs, h1, h2⟩
  · cases h
theorem d_app {X : Cx} {o e : Expr} {apos cpos : Pos} {j : Nat} {w : WD} (h : PE X (.Call (.Attribute o "append" apos) [e] [] cpos) (tBM X.K "list" rAppend (tVar j) (tCons (rdD X.K w) tNil))) :
    PE X (.Call (.Attribute o "append" apos) [e] [] cpos) (rdE X.K (wApp j w)) := PEimp h fun σ H Q ⟨F, G, s0, env, fp, Qd, S, ⟨hl, hw⟩, k⟩ => by
  obtain ⟨a, vs, hv, ha⟩ := lst_at S hl
  refine ⟨.ref a, hv, .inl ⟨rfl, vs, SqL.of ha⟩, F, G, s0, env, fp, appQ j Qd, S, hw, fun x v e1 G1 H1 gl1 ⟨fp1, S1⟩ R q => ?_⟩
  unfold appQ at q
  split at q
  · rename_i r p os ep
    obtain ⟨a', vs', f, h1, h2, T, nf, na, mk⟩ := mutL S1 ep
    cases sig_same hv h1
    refine ⟨a, vs', v, rfl, rfl, h2, by rw [← T.length]; exact Nat.lt_of_lt_of_le q.1 (mil (Nat.le_refl _)), ?_⟩
    exact k (.d .non) .non _ G1 _ gl1 ⟨mk (os ++ [.d x]) (vs' ++ [v]) ⟨f, fun _ z => z, nf, T.snocD R⟩, by simp only [Rep]⟩ q.2
  · exact q.elim
def insQ (j : Nat) (Q : EV → Env → Prop) (xs : List D) (e : Env) : Prop := match xs with
  | [.int i, x] => match placeOf e j with
    | some (r, p, .l os) => os.length < 1000000 ∧ 0 ≤ i ∧ i < 1000000 ∧ Q (.d .non) (mutE e r p (.l (os.take i.toNat ++ [.d x] ++ os.drop i.toNat)))
    | _ => False
  | _ => False
def wIns (j : Nat) (w : WL) : WE := fun env Q => isLst (placeOf env j) = true ∧ w env (insQ j Q)
theorem d_ins {X : Cx} {o e e2 : Expr} {apos cpos : Pos} {j : Nat} {w : WL} (h : PE X (.Call (.Attribute o "insert" apos) [e, e2] [] cpos) (tBM X.K "list" (fun x vs H Q => ∃ (l : Addr) (xs : List V) (i : Int) (y : V), x = .ref l ∧ vs = [.int i, y] ∧ H l = some (.lst xs) ∧ xs.length < sizeLine ∧ 0 ≤ i ∧ i < 2 ^ 63 ∧
    Q .non (upd H l (.lst (xs.take i.toNat ++ [y] ++ xs.drop i.toNat)))) (tVar j) (rdL X.K w))) :
    PE X (.Call (.Attribute o "insert" apos) [e, e2] [] cpos) (rdE X.K (wIns j w)) := PEimp h fun σ H Q ⟨F, G, s0, env, fp, Qd, S, ⟨hl, hw⟩, k⟩ => by
  obtain ⟨a, vs, hv, ha⟩ := lst_at S hl
  refine ⟨.ref a, hv, .inl ⟨rfl, vs, SqL.of ha⟩, F, G, s0, env, fp, insQ j Qd, S, hw, fun xs ws e1 G1 H1 gl1 ⟨fp1, S1⟩ R q => ?_⟩
  unfold insQ at q
  split at q
  · rename_i i x
    simp only [RepL, Rep] at R
    obtain ⟨v1, r1, rfl, rfl, v2, r2, rfl, R2, rfl⟩ := R
    split at q
    · rename_i r p os ep
      obtain ⟨a', vs', f, h1, h2, T, nf, na, mk⟩ := mutL S1 ep
      cases sig_same hv h1
      obtain ⟨q1, q2, q3, q4⟩ := q
      refine ⟨a, vs', i, v2, rfl, rfl, h2, by rw [← T.length]; exact Nat.lt_of_lt_of_le q1 (mil (Nat.le_refl _)), q2, by omega, ?_⟩
      exact k (.d .non) .non _ G1 _ gl1 ⟨mk _ _ ⟨f, fun _ z => z, nf, T.insD R2 i.toNat⟩, by simp only [Rep]⟩ q4
    · exact q.elim
  · exact q.elim
/-! ### slot[i] = e -/
def setQ (j : Nat) (x : D) (Q : Env → Prop) (y : D) (e : Env) : Prop := match placeOf e j with
  | some (r, p, .l os) => ixS e y os fun _ k => Q (mutE e r p (.l (os.set k (.d x))))
  | _ => False
def wSetI (j : Nat) (wi : WD) (w : WD) : WS := fun env P => w env fun x e1 => isLst (placeOf e1 j) = true ∧ wi e1 (setQ j x P.nx)
theorem s_setI {X : Cx} {st : Stmt} {j : Nat} {wi w : WD} (h : PS X st (tAsg (rdD X.K w) (gSub (tVar j) (rdD X.K wi) rSetL))) : PS X st (rdS X.K (wSetI j wi w)) :=
  PSimp h fun D σ H ⟨F, G, s0, env, fp, P, S, hw, sat⟩ => ⟨F, G, s0, env, fp, _, S, hw, fun x v e1 G1 H1 gl1 ⟨fp1, S1⟩ R ⟨hl, q⟩ => by
    obtain ⟨a, vs, hv, ha⟩ := lst_at S1 hl
    refine ⟨.ref a, hv, F, G1, s0, e1, fp1, setQ j x P.nx, S1, q, fun y u e2 G2 H2 gl2 ⟨fp2, S2⟩ R2 q2 => ?_⟩
    unfold setQ at q2
    split at q2
    · rename_i r p os ep
      obtain ⟨a', vs', f, h1, h2, T, nf, na, mk⟩ := mutL S2 ep
      cases sig_same hv h1
      obtain ⟨n, kk, o, z, f2, rfl, e4, hat, e5, e6, T2, q3⟩ := ixS_ok R2 T q2
      refine ⟨a, vs', n, kk, rfl, rfl, h2, e5, ?_⟩
      exact sat.1 _ _ G2 _ (gl1.trans gl2) (mk _ _ (TRL.setD (R.mono gl2.1) kk T nf)) q3
    · exact q2.elim⟩
/-! ### slot[i] op= e -/
def rGetL (K : PySem.W.Frag) : V → V → Hp → VK → Prop := fun x y H Q => ∃ p xs i v, x = .ref p ∧ y = .int i ∧ SqL K H p xs ∧ atI xs i = some v ∧ Q v H
theorem get_list {X : Cx} : PGet X (rGetL X.K) := by
  intro pins s σ H x y v u Q I rx ry h
  obtain ⟨p, xs, i, z, rfl, rfl, hq, he, q⟩ := h
  cases rx
  obtain ⟨t, rfl⟩ := ry
  obtain ⟨its, r, pl, hz⟩ := I.list hq
  obtain ⟨j, h1, h2, h3, h4, h5⟩ := atI_get he
  obtain ⟨w, ew, rw'⟩ := r.get h2
  have hl := r.length
  have hn := line63
  have fin : EP X pins σ Q w s := ⟨z, H, I, rw', q⟩
  by_cases h0 : 0 ≤ i
  · have hj : i.toNat = j := by
      rw [seqIndex_of h0 h5] at h1
      exact Option.some.inj h1
    exact wpAny_getItem_list pl.isList h0 (by omega) (by rw [hj]; simpa using ew) fin
  · have hj : (i + (its.toArray.size : Int)).toNat = j := by
      rw [seqIndex_neg (by omega) h4] at h1
      rw [List.size_toArray, ← hl]
      exact Option.some.inj h1
    exact wpAny_getItem_list_neg pl.isList (by omega) (by rw [List.size_toArray] <;> omega) (by omega) (by rw [hj]; simpa using ew) fin
def augF (add : Bool) (i j : Int) : Int := if add then i + j else i - j
def ipA (add : Bool) : TIp := ipI (augF add)
theorem ip_A {X : Cx} : ∀ add : Bool, PIp X (if add then .Add else .Sub) (ipA add)
  | true => ip_add
  | false => ip_sub
def augIQ (j : Nat) (add : Bool) (w : WD) (Q : Env → Prop) (y : D) (e : Env) : Prop := match placeOf e j with
  | some (_, _, .l os) => ixS e y os fun o k => ∃ m, o = .d (.int m) ∧ w e fun x e2 => ∃ n, x = .int n ∧ (match placeOf e2 j with
    | some (r, p, .l os2) => ixS e2 y os2 fun _ k2 => Q (mutE e2 r p (.l (os2.set k2 (.d (.int (augF add m n))))))
    | _ => False)
  | _ => False
def wAugI (j : Nat) (add : Bool) (wi w : WD) : WS := fun env P => isLst (placeOf env j) = true ∧ wi env (augIQ j add w P.nx)
theorem s_augI {X : Cx} {st : Stmt} {j : Nat} {add : Bool} {wi w : WD} (h : PS X st (tAugS (tVar j) (rdD X.K wi) (rdD X.K w) (rGetL X.K) (ipA add) rSetL)) : PS X st (rdS X.K (wAugI j add wi w)) :=
  PSimp h fun D σ H ⟨F, G, s0, env, fp, P, S, ⟨hl, hw⟩, sat⟩ => by
    obtain ⟨a, vs, hv, ha⟩ := lst_at S hl
    refine ⟨.ref a, hv, F, G, s0, env, fp, augIQ j add w P.nx, S, hw, fun y u e1 G1 H1 gl1 ⟨fp1, S1⟩ R q => ?_⟩
    unfold augIQ at q
    split at q
    · rename_i r p os ep
      obtain ⟨a', vs', f, h1, h2, T, nf, na, mk⟩ := mutL S1 ep
      cases sig_same hv h1
      obtain ⟨n, kk, o, z, f2, rfl, e4, hat, e5, e6, T2, m, rfl, q3⟩ := ixS_ok R T q
      simp only [TR, Rep] at T2
      obtain ⟨rfl, _⟩ := T2
      refine ⟨a, vs', n, .int m, rfl, rfl, SqL.of h2, hat, F, G1, s0, e1, fp1, _, S1, q3, fun x w2 e2 G2 H2 gl2 ⟨fp2, S2⟩ R2 ⟨n2, en, q4⟩ => ?_⟩
      subst en
      simp only [Rep] at R2
      subst R2
      refine ⟨m, n2, rfl, rfl, ?_⟩
      split at q4
      · rename_i r2 p2 os2 ep2
        obtain ⟨a2, vs2, f2, k1, k2, T3, nf3, na3, mk3⟩ := mutL S2 ep2
        cases sig_same hv k1
        obtain ⟨n', kk', o', z', f3, ez, e4', hat', e5', e6', T4, q5⟩ := ixS_ok (R.mono gl2.1) T3 q4
        cases ez
        refine ⟨a, vs2, n, kk', rfl, rfl, k2, e5', ?_⟩
        exact sat.1 _ _ G2 _ (gl1.trans gl2) (mk3 _ _ (TRL.setD (x := .int (augF add m n2)) (v := .int (augF add m n2)) (by simp only [Rep]) kk' T3 nf3)) q5
      · exact q4.elim
    · exact q.elim
/-! ### name op= e, ints -/
def augQ (i : Nat) (add : Bool) (m : Int) (Q : Env → Prop) (x : D) (e : Env) : Prop := ∃ n, x = .int n ∧ isA (sget e i) = false ∧ Q (sset (clr i e) i (.t (.d (.int (augF add m n)))))
def wAug (i : Nat) (add : Bool) (w : WD) : WS := fun env P => match sget env i with
  | .t (.d (.int m)) => w env (augQ i add m P.nx)
  | _ => False
theorem s_aug {X : Cx} {st : Stmt} {i : Nat} {add : Bool} {w : WD} {x : Str} (h : PS X st (tAug i (rdD X.K w) (ipA add))) (hx : X.N[i]? = some x) : PS X st (rdS X.K (wAug i add w)) :=
  ⟨fun pins s σ H D I ⟨F, G, s0, env, fp, P, S, hw, sat⟩ => h.run pins s σ H D I (by
    unfold wAug at hw
    split at hw
    · rename_i m em
      have q := S.sl i
      rw [em] at q
      obtain ⟨v, hv, T⟩ := q
      simp only [TR, Rep] at T
      obtain ⟨rfl, _⟩ := T
      refine ⟨.int m, hv, F, G, s0, env, fp, augQ i add m P.nx, S, hw, fun x v e1 G1 H1 gl1 ⟨fp1, S1⟩ R ⟨n, en, hA, q⟩ => ?_⟩
      subst en
      simp only [Rep] at R
      subst R
      refine ⟨m, n, rfl, rfl, ?_⟩
      obtain ⟨e2, S2, q2⟩ := asg_ok (i := i) (ev := .d (.int (augF add m n))) (v := .int (augF add m n)) (Q := P.nx) (by rw [S1.len, I.len]; exact (List.getElem?_eq_some_iff.mp hx).1) ⟨⟨fp1, S1⟩, by simp only [Rep]⟩ ⟨hA, q⟩
      exact sat.1 _ e2 G1 H1 gl1 S2 q2
    · exact hw.elim)⟩
end
end Bv
end SBvJ
section SBvK
set_option linter.all false
set_option Elab.async false
open PySem PySem.Spec PyProof.Rows L2
namespace Bv
/-! ### lists or tuples that a loop walks -/
def SQ (K : PySem.W.Frag) (t : Bool) (H : Hp) (a : Addr) (xs : List V) : Prop := if t = true then SqT K H a xs else SqL K H a xs
def IsIt (t : Bool) (h : Heap) (it a : Addr) (i : Nat) : Prop := if t = true then h.IsTupleIter it a i else h.IsListIter it a i
def IsSq (t : Bool) (h : Heap) (a : Addr) (its : Array Value) : Prop := if t = true then h.IsTuple a its else h.IsList a its
theorem Inv.sq {X : Cx} {pins : List (Addr × Obj)} {σ : L2.St} {H : Hp} {s : Shared} {t : Bool} {a : Addr} {xs : List V} (I : L2.Inv X pins σ H s) (h : SQ X.K t H a xs) : ∃ its : List Value, Vals xs its ∧ IsSq t s.heap a its.toArray ∧ xs.length ≤ sizeLine ∧ a < s.heap.objs.size := by
  cases t with
  | true =>
    obtain ⟨its, rv, p, hz⟩ := I.tuple (show SqT X.K H a xs from h)
    obtain ⟨o, ho, _⟩ := id p
    exact ⟨its, rv, p, hz, Heap.lt_size ho⟩
  | false =>
    obtain ⟨its, rv, p, hz⟩ := I.list (show SqL X.K H a xs from h)
    exact ⟨its, rv, p.isList, hz, p.lt⟩
theorem Draws.side {prog : Program} {w : World} {A : Around} (hh : A.handled = none) (t : Bool) (it a : Addr) (hne : a ≠ it) (items : Array Value) :
    Draws prog w A it [it, a] items.size (fun i v => items[i]? = some v) (fun i h => IsIt t h it a i ∧ IsSq t h a items) := by
  cases t with
  | true => exact Draws.tuple hh it a hne items
  | false => exact Draws.list hh it a hne items
def itObj (t : Bool) (a : Addr) : Obj := if t = true then { cls := .type "tuple_iterator", data := .fields #[.ref a, .int 0 0] } else { cls := .type "list_iterator", data := .fields #[.ref a, .int 0 0] }
theorem begins_side (t : Bool) (a : Addr) (items : Array Value) : Begins (.ref a) (itObj t a) fun h => IsSq t h a items := by
  cases t with
  | true => exact begins_tuple a items
  | false => exact begins_list a items
theorem IsIt.start {t : Bool} {h : Heap} {it a : Addr} (e : h.get? it = some (itObj t a)) : IsIt t h it a 0 := by
  cases t with
  | true => exact ⟨_, e, rfl, rfl⟩
  | false => exact ⟨_, e, rfl, rfl⟩
theorem IsIt.at {t : Bool} {h h' : Heap} {it a : Addr} {i : Nat} (x : IsIt t h it a i) (k : ∀ o, h.get? it = some o → h'.get? it = some o) : IsIt t h' it a i := by
  cases t with
  | true => exact Heap.IsTupleIter.at x k
  | false => exact Heap.IsListIter.at x k
theorem IsIt.obj {t : Bool} {h : Heap} {it a : Addr} {i : Nat} (x : IsIt t h it a i) : ∃ o, h.get? it = some o ∧ ∀ v, o.data ≠ .cell v := by
  cases t with
  | true => obtain ⟨o, e, _, d⟩ := x; exact ⟨o, e, fun v z => by rw [d] at z; cases z⟩
  | false => obtain ⟨o, e, _, d⟩ := x; exact ⟨o, e, fun v z => by rw [d] at z; cases z⟩
theorem SQ.inj {X : Cx} {pins : List (Addr × Obj)} {σ : L2.St} {H : Hp} {s : Shared} {t : Bool} {a : Addr} {xs ys : List V} (I : L2.Inv X pins σ H s) (h : SQ X.K t H a xs) (h' : SQ X.K t H a ys) : xs = ys := by
  cases t with
  | true => exact I.tuple_inj h h'
  | false => exact I.list_inj h h'

/-- a Turn from a walk that hands out new tuples -/
theorem turn_walk {P : Program} {w : World} {K : PySem.W.Frag} {elts : List Expr} {kk : Nat} {tpos : Pos} {J : It} {wr : List Addr} {it : Addr} {tn : Nat → Heap → Prop} (mem : it ∈ wr)
    (obj : ∀ i h, tn i h → ∀ b ∈ wr, ∃ o, h.get? b = some o ∧ ∀ v, o.data ≠ .cell v) (keep : ∀ i h h', tn i h → (∀ b ∈ wr, ∀ o, h.get? b = some o → h'.get? b = some o) → tn i h')
    (walk : ∀ (X : Cx), X.prog = P → X.w = w → X.K = K → X.calm = true → ∀ (i : Nat) (pins : List (Addr × Obj)) (s : Shared) (σ : L2.St) (H : Hp), L2.Inv X pins σ H s → (∀ b ∈ wr, FpOk X pins H b) → tn i s.heap → (J.go i H ∨ J.stop i H) →
      ∃ (n : Nat) (fpW : List Addr) (wr' : List Addr) (Pt : Nat → Array Value → Prop) (St : Nat → Heap → Prop) (Mid : Nat → Addr → Heap → Prop), WalksT P w X.A it fpW wr' n Pt St Mid ∧ (∀ b ∈ wr', b ∈ wr) ∧ St i s.heap ∧ (J.go i H → i < n) ∧ (J.stop i H → i = n) ∧ (∀ h', St (i + 1) h' → (∀ b o, b ∉ wr' → s.heap.get? b = some o → h'.get? b = some o) → tn (i + 1) h') ∧
        (J.go i H → ∀ vals, Pt i vals → ∃ ys, Vals ys vals.toList ∧ ys.length ≤ sizeLine ∧ ∀ T, H T = none → J.yld i H (.ref T) (upd H T (.tup ys))))
    (self : ∀ i h, tn i h → ∀ (A : Around) (s : Shared) (Q : Value → Shared → Prop) (E : Value → Shared → Prop), s.heap = h → Q (.ref it) s → wpAny (model P w) A (pyIter (.ref it)) Q E s) : Turn P w K (.Tuple elts kk tpos) J wr it tn where
  mem := mem
  obj := obj
  keep := keep
  item := by
    intro X hP hw hK hc i pins s σ H E I hf st hg
    obtain ⟨n, fpW, wr', Pt, St, Mid, W, sub, st0, hlt, _, hnx, hy⟩ := walk X hP hw hK hc i pins s σ H I hf st (.inl hg)
    subst hP hw hK
    refine W.item i s _ _ (hlt hg) st0 fun T vals h' tk hPt hT hTup mid k => ⟨_, rfl, ?_⟩
    obtain ⟨ys, rv, hz, hyld⟩ := hy hg vals hPt
    refine W.go elts kk tpos i T { s with heap := h', toks := tk } _ _ mid fun h'' st2 k2 => ?_
    have k12 : ∀ b o, b ∉ wr' → s.heap.get? b = some o → h''.get? b = some o := fun b o hb e => k2 b o hb (k b o hb e)
    have nT : T ∉ wr' := W.apart i T _ mid
    have hTup2 : h''.IsTuple T vals := by
      obtain ⟨o, e, c, m, d⟩ := hTup
      exact ⟨o, k2 T o nT e, c, m, d⟩
    have hn : H T = none := I.hok.fresh hT
    have new : ObjOk X.prog X.w (upd H T (.tup ys)) h'' T (.tup ys) := ⟨hz, vals.toList, rv, by simp only [Array.toArray_toList]; exact hTup2⟩
    have I1 : L2.Inv X pins σ (upd H T (.tup ys)) { s with heap := h'', toks := tk } := I.turnedNew (ch := wr) (fun b o hb e => k12 b o (fun z => hb (sub b z)) e) hf hT new
    refine ⟨.ref T, _, I1, rfl, hyld T hn, hnx h'' st2 k12, fun b hb => ?_⟩
    obtain ⟨o, e, _⟩ := obj i _ st b hb
    rw [upd_ne (Nat.ne_of_lt (Nat.lt_of_lt_of_le (Heap.lt_size e) hT))]
    exact (hf b hb).1
  done := by
    intro X hP hw hK hc i pins s σ H E I hf st hg
    obtain ⟨n, fpW, wr', Pt, St, Mid, W, sub, st0, _, hst, _, _⟩ := walk X hP hw hK hc i pins s σ H I hf st (.inr hg)
    subst hP hw hK
    have := hst hg
    subst this
    exact W.done s _ _ st0 fun h' tk k => ⟨rfl, I.turnedL (ch := wr) (fun b o hb e => k b o (fun z => hb (sub b z)) e) hf⟩
  self := fun A i s Q E st h => self i _ st A s Q E rfl h

/-! ### zip of two -/
def Jz2 (K : PySem.W.Frag) (t1 : Bool) (a : Addr) (xs : List V) (t2 : Bool) (b : Addr) (ys : List V) : It :=
  ⟨fun i H => SQ K t1 H a xs ∧ SQ K t2 H b ys ∧ i < xs.length ∧ i < ys.length, fun i H v H' => ∃ T x y, v = .ref T ∧ H T = none ∧ H' = upd H T (.tup [x, y]) ∧ xs[i]? = some x ∧ ys[i]? = some y,
    fun i H => SQ K t1 H a xs ∧ SQ K t2 H b ys ∧ i = min xs.length ys.length⟩
theorem at_arr {xs : List V} {its : List Value} {i : Nat} {u : Value} (rv : Vals xs its) (h : its.toArray[i]? = some u) : ∃ x, xs[i]? = some x ∧ RelV x u := by
  have hi : i < its.length := by
    have := (Array.getElem?_eq_some_iff.mp h).1
    simpa using this
  obtain ⟨v, e, r⟩ := rv.get (List.getElem?_eq_getElem (by rw [rv.length]; exact hi))
  have e' : its[i]? = some u := by simpa using h
  rw [e'] at e; cases e
  exact ⟨_, List.getElem?_eq_getElem (by rw [rv.length]; exact hi), r⟩
theorem turn_z2 {P : Program} {w : World} {K : PySem.W.Frag} {elts : List Expr} {kk : Nat} {tpos : Pos} {t1 t2 : Bool} {a b : Addr} {xs ys : List V} {N : Nat} (ha : a < N) (hb : b < N) :
    Turn P w K (.Tuple elts kk tpos) (Jz2 K t1 a xs t2 b ys) [N + 4, N + 2, N + 3, N, N + 1] (N + 4) (fun i h => IsZip h (N + 4) (N + 2) (N + 3) .none ∧ IsTupOf2 h (N + 2) (.ref N) (.ref (N + 1)) ∧ (∃ x y, IsTupOf2 h (N + 3) x y) ∧ IsIt t1 h N a i ∧ IsIt t2 h (N + 1) b i) :=
  turn_walk (by simp) (fun i h st c hc => by
    obtain ⟨hz, hTI, ⟨x, y, hTO⟩, h1, h2⟩ := st
    have e' : c = N + 4 ∨ c = N + 2 ∨ c = N + 3 ∨ c = N ∨ c = N + 1 := by simpa using hc
    rcases e' with q | q | q | q | q
    · rw [q]; exact ⟨_, hz, fun v q => nomatch q⟩
    · rw [q]; exact ⟨_, hTI, fun v q => nomatch q⟩
    · rw [q]; exact ⟨_, hTO, fun v q => nomatch q⟩
    · rw [q]; exact h1.obj
    · rw [q]; exact h2.obj) (fun i h h' st k => by
    obtain ⟨hz, hTI, ⟨x, y, hTO⟩, h1, h2⟩ := st
    exact ⟨k _ (by simp) _ hz, k _ (by simp) _ hTI, ⟨x, y, k _ (by simp) _ hTO⟩, h1.at fun o q => k _ (by simp) o q, h2.at fun o q => k _ (by simp) o q⟩) (by
    intro X hP hw hK hc i pins s σ H I hf st hg
    subst hP hw hK
    obtain ⟨hz, hTI, hTO, h1, h2⟩ := st
    have sq : SQ X.K t1 H a xs ∧ SQ X.K t2 H b ys := by
      rcases hg with ⟨q1, q2, _⟩ | ⟨q1, q2, _⟩ <;> exact ⟨q1, q2⟩
    obtain ⟨its, rv, p, _, _⟩ := Inv.sq I sq.1
    obtain ⟨its2, rv2, p2, _, _⟩ := Inv.sq I sq.2
    have l1 := rv.length
    have l2 := rv2.length
    have D1 := Draws.side (prog := X.prog) (w := X.w) (A := X.A.in1) (I.ok.hd hc) t1 N a (Nat.ne_of_lt ha) its.toArray
    have D2 := Draws.side (prog := X.prog) (w := X.w) (A := X.A.in1) (I.ok.hd hc) t2 (N + 1) b (Nat.ne_of_lt (Nat.lt_succ_of_lt hb)) its2.toArray
    have S := zip_sep2 (N := N) (fp1 := [a]) (fp2 := [b]) (fun c hc => by simp at hc; rw [hc]; exact ha) (fun c hc => by simp at hc; rw [hc]; exact hb)
    refine ⟨_, _, _, _, _, _, WalksT.zipD2 S D1 D2, fun c hc => ?_, ⟨hz, hTI, hTO, ⟨h1, p⟩, ⟨h2, p2⟩⟩, fun q => ?_, fun q => ?_, fun h' q _ => ?_, fun q vals hv => ?_⟩
    · have : c = N + 4 ∨ c = N + 3 ∨ c = N ∨ c = N + 1 := by simpa using hc
      rcases this with z | z | z | z <;> (rw [z]; simp)
    · obtain ⟨_, _, q1, q2⟩ := q
      simp only [List.size_toArray]; omega
    · obtain ⟨_, _, q⟩ := q
      simp only [List.size_toArray]; omega
    · obtain ⟨z1, z2, z3, ⟨z4, _⟩, ⟨z5, _⟩⟩ := q
      exact ⟨z1, z2, z3, z4, z5⟩
    · obtain ⟨u1, u2, y1, y2, rfl⟩ := hv
      obtain ⟨x1, e1, r1⟩ := at_arr rv y1
      obtain ⟨x2, e2, r2⟩ := at_arr rv2 y2
      exact ⟨[x1, x2], .cons r1 (.cons r2 .nil), by show 2 ≤ sizeLine; decide, fun T hT => ⟨T, x1, x2, rfl, hT, rfl, e1, e2⟩⟩)
    (fun i h st A s Q E e hQ => by subst e; exact wpAny_pyIter_zip st.1 hQ)
def iZ2 (K : PySem.W.Frag) (ta : TA) : TI := fun σ H R => ta σ H fun vs H1 => ∃ a b xs ys t1 t2, vs = [.ref a, .ref b] ∧ SQ K t1 H1 a xs ∧ SQ K t2 H1 b ys ∧ R (Jz2 K t1 a xs t2 b ys) H1
theorem pi_z2 {X : Cx} {e e2 : Expr} {ta : TA} {p pos tpos : Pos} {elts : List Expr} {kk : Nat} (hg : Gl X "zip") (hm : X.mg "zip" = none) (ha : PA X [e, e2] ta)
    (hs : starEach [e, e2] X.env = (false, eval e X.env) :: starEach [e2] X.env) (hpl : (backTo pos (starEach [e2] X.env)).any (·.1) = false) :
    PI X (.Tuple elts kk tpos) (.Call (.Name "zip" p) [e, e2] [] pos) (iZ2 X.K ta) := by
  refine ⟨fun pins s σ H R I h => ?_⟩
  refine Call_ (ld_blt I hg hm PyProof.Rows.boot_zip (PyProof.Rows.callWith_type1 (thn (ha.run pos pins s σ H _ I h) fun us s1 ⟨vs, H1, I1, r1, q1⟩ => ?_) hs hpl))
  obtain ⟨a, b, xs, ys, t1, t2, ex, hqx, hqy, q⟩ := q1
  subst ex
  cases r1 with
  | cons r rr =>
    cases rr with
    | cons r' rr =>
      cases rr
      cases r
      cases r'
      obtain ⟨its, rv, p1, _, la⟩ := Inv.sq I1 hqx
      obtain ⟨its2, rv2, p2, _, lb⟩ := Inv.sq I1 hqy
      refine zip_begins2 (begins_side t1 a its.toArray) (begins_side t2 b its2.toArray) p1 p2 fun h' hz hTI hTO g1 g2 hsz hk => wpAny_pyIter_zip hz ?_
      have I2 : L2.Inv X pins σ H1 { s1 with heap := h' } := I1.kept (t' := s1.toks) hk
      refine ⟨s1.heap.objs.size + 4, [s1.heap.objs.size + 4, s1.heap.objs.size + 2, s1.heap.objs.size + 3, s1.heap.objs.size, s1.heap.objs.size + 1], _, _, H1, rfl, I2, turn_z2 la lb, ⟨hz, hTI, ⟨_, _, hTO⟩, IsIt.start g1, IsIt.start g2⟩, fun c hcm => ?_, q⟩
      have e' : c = s1.heap.objs.size + 4 ∨ c = s1.heap.objs.size + 2 ∨ c = s1.heap.objs.size + 3 ∨ c = s1.heap.objs.size ∨ c = s1.heap.objs.size + 1 := by simpa using hcm
      have hle : s1.heap.objs.size ≤ c := by
        rcases e' with z | z | z | z | z
        · rw [z]; exact Nat.le_add_right _ _
        · rw [z]; exact Nat.le_add_right _ _
        · rw [z]; exact Nat.le_add_right _ _
        · rw [z]; exact Nat.le_refl _
        · rw [z]; exact Nat.le_add_right _ _
      exact I1.fpOk hle (I1.hok.fresh hle)

/-! ### zip of three -/
def Jz3 (K : PySem.W.Frag) (t1 : Bool) (a : Addr) (xs : List V) (t2 : Bool) (b : Addr) (ys : List V) (t3 : Bool) (c : Addr) (zs : List V) : It :=
  ⟨fun i H => SQ K t1 H a xs ∧ SQ K t2 H b ys ∧ SQ K t3 H c zs ∧ i < xs.length ∧ i < ys.length ∧ i < zs.length,
    fun i H v H' => ∃ T x y z, v = .ref T ∧ H T = none ∧ H' = upd H T (.tup [x, y, z]) ∧ xs[i]? = some x ∧ ys[i]? = some y ∧ zs[i]? = some z,
    fun i H => SQ K t1 H a xs ∧ SQ K t2 H b ys ∧ SQ K t3 H c zs ∧ i = min (min xs.length ys.length) zs.length⟩
theorem turn_z3 {P : Program} {w : World} {K : PySem.W.Frag} {elts : List Expr} {kk : Nat} {tpos : Pos} {t1 t2 t3 : Bool} {a b c : Addr} {xs ys zs : List V} {N : Nat} (ha : a < N) (hb : b < N) (hcN : c < N) :
    Turn P w K (.Tuple elts kk tpos) (Jz3 K t1 a xs t2 b ys t3 c zs) [N + 5, N + 3, N + 4, N, N + 1, N + 2] (N + 5) (fun i h => IsZip h (N + 5) (N + 3) (N + 4) .none ∧ IsTupOf3 h (N + 3) (.ref N) (.ref (N + 1)) (.ref (N + 2)) ∧ (∃ x y z, IsTupOf3 h (N + 4) x y z) ∧ IsIt t1 h N a i ∧ IsIt t2 h (N + 1) b i ∧ IsIt t3 h (N + 2) c i) :=
  turn_walk (by simp) (fun i h st d hd => by
    obtain ⟨hz, hTI, ⟨x, y, z, hTO⟩, h1, h2, h3⟩ := st
    have e' : d = N + 5 ∨ d = N + 3 ∨ d = N + 4 ∨ d = N ∨ d = N + 1 ∨ d = N + 2 := by simpa using hd
    rcases e' with q | q | q | q | q | q
    · rw [q]; exact ⟨_, hz, fun v q => nomatch q⟩
    · rw [q]; exact ⟨_, hTI, fun v q => nomatch q⟩
    · rw [q]; exact ⟨_, hTO, fun v q => nomatch q⟩
    · rw [q]; exact h1.obj
    · rw [q]; exact h2.obj
    · rw [q]; exact h3.obj) (fun i h h' st k => by
    obtain ⟨hz, hTI, ⟨x, y, z, hTO⟩, h1, h2, h3⟩ := st
    exact ⟨k _ (by simp) _ hz, k _ (by simp) _ hTI, ⟨x, y, z, k _ (by simp) _ hTO⟩, h1.at fun o q => k _ (by simp) o q, h2.at fun o q => k _ (by simp) o q, h3.at fun o q => k _ (by simp) o q⟩) (by
    intro X hP hw hK hc i pins s σ H I hf st hg
    subst hP hw hK
    obtain ⟨hz, hTI, hTO, h1, h2, h3⟩ := st
    have sq : SQ X.K t1 H a xs ∧ SQ X.K t2 H b ys ∧ SQ X.K t3 H c zs := by
      rcases hg with ⟨q1, q2, q3, _⟩ | ⟨q1, q2, q3, _⟩ <;> exact ⟨q1, q2, q3⟩
    obtain ⟨its, rv, p, _, _⟩ := Inv.sq I sq.1
    obtain ⟨its2, rv2, p2, _, _⟩ := Inv.sq I sq.2.1
    obtain ⟨its3, rv3, p3, _, _⟩ := Inv.sq I sq.2.2
    have l1 := rv.length
    have l2 := rv2.length
    have l3 := rv3.length
    have D1 := Draws.side (prog := X.prog) (w := X.w) (A := X.A.in1) (I.ok.hd hc) t1 N a (Nat.ne_of_lt ha) its.toArray
    have D2 := Draws.side (prog := X.prog) (w := X.w) (A := X.A.in1) (I.ok.hd hc) t2 (N + 1) b (Nat.ne_of_lt (Nat.lt_succ_of_lt hb)) its2.toArray
    have D3 := Draws.side (prog := X.prog) (w := X.w) (A := X.A.in1) (I.ok.hd hc) t3 (N + 2) c (Nat.ne_of_lt (Nat.lt_succ_of_lt (Nat.lt_succ_of_lt hcN))) its3.toArray
    have S := zip_sep3 (N := N) (fp1 := [a]) (fp2 := [b]) (fp3 := [c]) (fun d hd => by simp at hd; rw [hd]; exact ha) (fun d hd => by simp at hd; rw [hd]; exact hb) (fun d hd => by simp at hd; rw [hd]; exact hcN)
    refine ⟨_, _, _, _, _, _, WalksT.zipD3 S D1 D2 D3, fun d hd => ?_, ⟨hz, hTI, hTO, ⟨h1, p⟩, ⟨h2, p2⟩, ⟨h3, p3⟩⟩, fun q => ?_, fun q => ?_, fun h' q _ => ?_, fun q vals hv => ?_⟩
    · have : d = N + 5 ∨ d = N + 4 ∨ d = N ∨ d = N + 1 ∨ d = N + 2 := by simpa using hd
      rcases this with z | z | z | z | z <;> (rw [z]; simp)
    · obtain ⟨_, _, _, q1, q2, q3⟩ := q
      simp only [List.size_toArray]; omega
    · obtain ⟨_, _, _, q⟩ := q
      simp only [List.size_toArray]; omega
    · obtain ⟨z1, z2, z3, ⟨z4, _⟩, ⟨z5, _⟩, ⟨z6, _⟩⟩ := q
      exact ⟨z1, z2, z3, z4, z5, z6⟩
    · obtain ⟨u1, u2, u3, y1, y2, y3, rfl⟩ := hv
      obtain ⟨x1, e1, r1⟩ := at_arr rv y1
      obtain ⟨x2, e2, r2⟩ := at_arr rv2 y2
      obtain ⟨x3, e3, r3⟩ := at_arr rv3 y3
      exact ⟨[x1, x2, x3], .cons r1 (.cons r2 (.cons r3 .nil)), by show 3 ≤ sizeLine; decide, fun T hT => ⟨T, x1, x2, x3, rfl, hT, rfl, e1, e2, e3⟩⟩)
    (fun i h st A s Q E e hQ => by subst e; exact wpAny_pyIter_zip st.1 hQ)
def iZ3 (K : PySem.W.Frag) (ta : TA) : TI := fun σ H R => ta σ H fun vs H1 => ∃ a b c xs ys zs t1 t2 t3, vs = [.ref a, .ref b, .ref c] ∧ SQ K t1 H1 a xs ∧ SQ K t2 H1 b ys ∧ SQ K t3 H1 c zs ∧ R (Jz3 K t1 a xs t2 b ys t3 c zs) H1
theorem pi_z3 {X : Cx} {e e2 e3 : Expr} {ta : TA} {p pos tpos : Pos} {elts : List Expr} {kk : Nat} (hg : Gl X "zip") (hm : X.mg "zip" = none) (ha : PA X [e, e2, e3] ta)
    (hs : starEach [e, e2, e3] X.env = (false, eval e X.env) :: starEach [e2, e3] X.env) (hpl : (backTo pos (starEach [e2, e3] X.env)).any (·.1) = false) :
    PI X (.Tuple elts kk tpos) (.Call (.Name "zip" p) [e, e2, e3] [] pos) (iZ3 X.K ta) := by
  refine ⟨fun pins s σ H R I h => ?_⟩
  refine Call_ (ld_blt I hg hm PyProof.Rows.boot_zip (PyProof.Rows.callWith_type1 (thn (ha.run pos pins s σ H _ I h) fun us s1 ⟨vs, H1, I1, r1, q1⟩ => ?_) hs hpl))
  obtain ⟨a, b, c, xs, ys, zs, t1, t2, t3, ex, hqx, hqy, hqz, q⟩ := q1
  subst ex
  cases r1 with
  | cons r rr =>
    cases rr with
    | cons r' rr =>
      cases rr with
      | cons r'' rr =>
        cases rr
        cases r
        cases r'
        cases r''
        obtain ⟨its, rv, p1, _, la⟩ := Inv.sq I1 hqx
        obtain ⟨its2, rv2, p2, _, lb⟩ := Inv.sq I1 hqy
        obtain ⟨its3, rv3, p3, _, lc⟩ := Inv.sq I1 hqz
        refine zip_begins3 (begins_side t1 a its.toArray) (begins_side t2 b its2.toArray) (begins_side t3 c its3.toArray) p1 p2 p3 fun h' hz hTI hTO g1 g2 g3 hsz hk => wpAny_pyIter_zip hz ?_
        have I2 : L2.Inv X pins σ H1 { s1 with heap := h' } := I1.kept (t' := s1.toks) hk
        refine ⟨s1.heap.objs.size + 5, [s1.heap.objs.size + 5, s1.heap.objs.size + 3, s1.heap.objs.size + 4, s1.heap.objs.size, s1.heap.objs.size + 1, s1.heap.objs.size + 2], _, _, H1, rfl, I2, turn_z3 la lb lc, ⟨hz, hTI, ⟨_, _, _, hTO⟩, IsIt.start g1, IsIt.start g2, IsIt.start g3⟩, fun c hcm => ?_, q⟩
        have e' : c = s1.heap.objs.size + 5 ∨ c = s1.heap.objs.size + 3 ∨ c = s1.heap.objs.size + 4 ∨ c = s1.heap.objs.size ∨ c = s1.heap.objs.size + 1 ∨ c = s1.heap.objs.size + 2 := by simpa using hcm
        have hle : s1.heap.objs.size ≤ c := by
          rcases e' with z | z | z | z | z | z
          · rw [z]; exact Nat.le_add_right _ _
          · rw [z]; exact Nat.le_add_right _ _
          · rw [z]; exact Nat.le_add_right _ _
          · rw [z]; exact Nat.le_refl _
          · rw [z]; exact Nat.le_add_right _ _
          · rw [z]; exact Nat.le_add_right _ _
        exact I1.fpOk hle (I1.hok.fresh hle)

/-! ### enumerate -/
set_option maxHeartbeats 1000000 in
theorem meets_enumerate_new1 {v : Value} {o : Obj} {H : Heap → Prop} (B : Begins v o H) :
    Meets (Builtin.«enumerate.__new__» ⟨[.type "enumerate", v], []⟩) (fun _ R s => H s.heap ∧
      R (.ok (.ret (.ref (s.heap.push o).objs.size))) { s with heap := (s.heap.push o).push { cls := .type "enumerate", data := .fields #[.none, .bool false, .ref s.heap.objs.size, rawInt 0, .none, .none] } }) :=
  .of_wp fun prog w A R s h => by
    obtain ⟨hp, g, d, tk, os⟩ := s; obtain ⟨h1, h⟩ := h
    have hsub := sub_enumerate
    have q1 : ∀ {A' : Around} {E : Value → Shared → Prop} {Q : Value → Shared → Prop}, Q (.ref hp.objs.size) ⟨hp.push o, g, d, tk, os⟩ → wpAny (model prog w) A' (pyIter v) Q E ⟨hp, g, d, tk, os⟩ :=
      fun q => B.iter prog w _ _ ⟨hp, g, d, tk, os⟩ _ h1 q
    wp_walk using q1
    refine wpAny_stack_any fun st => wpAny_pure ?_
    split
    · rename_i c _ _ _ _ _
      cases (c == Value.type "enumerate")
      · wp_walk using q1
        exact ⟨_, rfl, h⟩
      · wp_walk using q1
        exact ⟨_, rfl, h⟩
    · wp_walk using q1
      exact ⟨_, rfl, h⟩
theorem enum_begins1 {prog : Program} {w : World} {A : Around} {E : Value → Shared → Prop} {s : Shared} {v : Value} {o : Obj} {H : Heap → Prop} {Q : Value → Shared → Prop} (B : Begins v o H) (h1 : H s.heap)
    (h : ∀ h', IsEnum h' (s.heap.objs.size + 1) s.heap.objs.size 0 .none → h'.get? s.heap.objs.size = some o → h'.objs.size = s.heap.objs.size + 2 →
      (∀ b o, s.heap.get? b = some o → h'.get? b = some o) → Q (.ref (s.heap.objs.size + 1)) { s with heap := h' }) :
    wpAny (model prog w) A (call (.type "enumerate") [v]) Q E s := by
  refine callType_new F.called_enumerate (by decide) (F.typeCall_enumerate_1 _) (F.newCall_enumerate_1 _) (fun obj => F.args_object_init_2 obj _) F.entry_enumerate_new
    (meets_enumerate_new1 B) ⟨h1, ?_⟩
  have hz : (s.heap.push o).objs.size = s.heap.objs.size + 1 := Heap.size_push ..
  show _ ∧ _
  rw [hz]
  have he : IsEnum ((s.heap.push o).push { cls := .type "enumerate", data := .fields #[.none, .bool false, .ref s.heap.objs.size, rawInt 0, .none, .none] }) (s.heap.objs.size + 1) s.heap.objs.size 0 .none := by
    have := Heap.get?_push_size (s.heap.push o) (o := { cls := .type "enumerate", data := .fields #[.none, .bool false, .ref s.heap.objs.size, rawInt 0, .none, .none] }) rfl
    rw [hz] at this; exact this
  refine ⟨⟨_, he, rfl⟩, h _ he (Heap.get?_push_of_some _ (Heap.get?_push_size _ B.free)) (by rw [Heap.size_push, hz]) fun b o x => Heap.get?_push_of_some _ (Heap.get?_push_of_some _ x)⟩
def Jen (K : PySem.W.Frag) (t : Bool) (a : Addr) (xs : List V) : It :=
  ⟨fun i H => SQ K t H a xs ∧ i < xs.length, fun i H v H' => ∃ T x, v = .ref T ∧ H T = none ∧ H' = upd H T (.tup [.int (i : Nat), x]) ∧ xs[i]? = some x, fun i H => SQ K t H a xs ∧ i = xs.length⟩
theorem turn_en {P : Program} {w : World} {K : PySem.W.Frag} {elts : List Expr} {kk : Nat} {tpos : Pos} {t : Bool} {a : Addr} {xs : List V} {N : Nat} (ha : a < N) :
    Turn P w K (.Tuple elts kk tpos) (Jen K t a xs) [N + 1, N] (N + 1) (fun i h => (∃ old, IsEnum h (N + 1) N ((i : Nat) : Int) old) ∧ IsIt t h N a i) :=
  turn_walk (by simp) (fun i h st c hc => by
    obtain ⟨⟨old, hz⟩, h1⟩ := st
    have e' : c = N + 1 ∨ c = N := by simpa using hc
    rcases e' with q | q
    · rw [q]; exact ⟨_, hz, fun v q => nomatch q⟩
    · rw [q]; exact h1.obj) (fun i h h' st k => by
    obtain ⟨⟨old, hz⟩, h1⟩ := st
    exact ⟨⟨old, k _ (by simp) _ hz⟩, h1.at fun o q => k _ (by simp) o q⟩) (by
    intro X hP hw hK hc i pins s σ H I hf st hg
    subst hP hw hK
    obtain ⟨⟨old, hz⟩, h1⟩ := st
    have sq : SQ X.K t H a xs := by
      rcases hg with ⟨q1, _⟩ | ⟨q1, _⟩ <;> exact q1
    obtain ⟨its, rv, p, _, _⟩ := Inv.sq I sq
    have l1 := rv.length
    have D1 := Draws.side (prog := X.prog) (w := X.w) (A := X.A.in1) (I.ok.hd hc) t N a (Nat.ne_of_lt ha) its.toArray
    have z0 : ∀ i : Nat, (0 : Int) + (i : Int) = (i : Int) := fun i => by omega
    refine ⟨_, _, _, _, _, _, WalksT.enumFrom 0 D1 (N + 1) (Nat.succ_ne_self _) (fun z => ?_) (by simp), fun c hc => hc, ⟨⟨old, by rw [z0]; exact hz⟩, h1, p⟩, fun q => ?_, fun q => ?_, fun h' q _ => ?_, fun q vals hv => ?_⟩
    · have : N + 1 = N ∨ N + 1 = a := by simpa using z
      rcases this with q | q
      · exact Nat.succ_ne_self _ q
      · rw [← q] at ha
        exact absurd ha (Nat.not_lt.mpr (Nat.le_succ N))
    · obtain ⟨_, q1⟩ := q
      simp only [List.size_toArray]; omega
    · obtain ⟨_, q⟩ := q
      simp only [List.size_toArray]; omega
    · obtain ⟨⟨old', z1⟩, z4, _⟩ := q
      rw [z0] at z1
      exact ⟨⟨old', z1⟩, z4⟩
    · obtain ⟨tk, u1, y1, rfl⟩ := hv
      obtain ⟨x1, e1, r1⟩ := at_arr rv y1
      rw [z0]
      exact ⟨[.int (i : Nat), x1], .cons ⟨_, rfl⟩ (.cons r1 .nil), by show 2 ≤ sizeLine; decide, fun T hT => ⟨T, x1, rfl, hT, rfl, e1⟩⟩)
    (fun i h st A s Q E e hQ => by subst e; obtain ⟨⟨_, he⟩, _⟩ := st; exact wpAny_pyIter_enum he hQ)
def iEn (K : PySem.W.Frag) (ta : TA) : TI := fun σ H R => ta σ H fun vs H1 => ∃ a xs t, vs = [.ref a] ∧ SQ K t H1 a xs ∧ R (Jen K t a xs) H1
theorem pi_en {X : Cx} {e : Expr} {ta : TA} {p pos tpos : Pos} {elts : List Expr} {kk : Nat} (hg : Gl X "enumerate") (hm : X.mg "enumerate" = none) (ha : PA X [e] ta) (hs : starEach [e] X.env = [(false, eval e X.env)]) :
    PI X (.Tuple elts kk tpos) (.Call (.Name "enumerate" p) [e] [] pos) (iEn X.K ta) := by
  refine ⟨fun pins s σ H R I h => ?_⟩
  refine Call_ (ld_blt I hg hm boot_enumerate (PyProof.Rows.callWith_type1 (thn (ha.run pos pins s σ H _ I h) fun us s1 ⟨vs, H1, I1, r1, q1⟩ => ?_) hs rfl))
  obtain ⟨a, xs, t, ex, hq, q⟩ := q1
  subst ex
  cases r1 with
  | cons r rr =>
    cases rr
    cases r
    obtain ⟨its, rv, p', hz, la⟩ := Inv.sq I1 hq
    refine enum_begins1 (begins_side t a its.toArray) p' fun h' he g1 hsz hk => wpAny_pyIter_enum he ?_
    have I2 : L2.Inv X pins σ H1 { s1 with heap := h' } := I1.kept (t' := s1.toks) hk
    refine ⟨s1.heap.objs.size + 1, [s1.heap.objs.size + 1, s1.heap.objs.size], _, _, H1, rfl, I2, turn_en la, ⟨⟨.none, he⟩, IsIt.start g1⟩, fun b hb => ?_, q⟩
    have e' : b = s1.heap.objs.size + 1 ∨ b = s1.heap.objs.size := by simpa using hb
    have hle : s1.heap.objs.size ≤ b := by
      rcases e' with z | z
      · rw [z]; exact Nat.le_add_right _ _
      · rw [z]; exact Nat.le_refl _
    exact I1.fpOk hle (I1.hok.fresh hle)
/-! ### a list or a tuple -/
def iSq (K : PySem.W.Frag) (tl : TE) : TI := fun σ H R => tl σ H fun x H1 => ∃ a, x = .ref a ∧ (((∃ xs, SqL K H1 a xs) ∧ R (Itl K a) H1) ∨ ((∃ xs, SqT K H1 a xs) ∧ R (Itt K a) H1))
theorem pi_sq {X : Cx} {tg l : Expr} {tl : TE} (hl : PE X l tl) : PI X tg l (iSq X.K tl) := by
  refine ⟨fun pins s σ H R I h => ?_⟩
  refine thn (hl.run pins s σ H _ I h) fun v s1 ⟨x, H1, I1, r1, q1⟩ => ?_
  obtain ⟨a, e, q⟩ := q1
  subst e
  cases r1
  have fresh : ∀ b ∈ [s1.heap.objs.size], FpOk X pins H1 b := fun b hb => by
    have e : b = s1.heap.objs.size := by simpa using hb
    subst e
    exact I1.fpOk (Nat.le_refl _) (I1.hok.fresh (Nat.le_refl _))
  rcases q with ⟨⟨xs, hq⟩, q⟩ | ⟨⟨xs, hq⟩, q⟩
  · obtain ⟨its, rv, p, hz⟩ := I1.list hq
    refine wpAny_pyIter_list p.isList ?_
    exact ⟨s1.heap.objs.size, [s1.heap.objs.size], _, _, H1, rfl, I1.kept (t' := s1.toks) fun b o e => Heap.get?_push_of_some _ e, turn_list a _, ⟨_, Heap.get?_push_size _ rfl, rfl, rfl⟩, fresh, q⟩
  · obtain ⟨its, rv, p, hz⟩ := I1.tuple hq
    refine wpAny_pyIter_tuple (show s1.heap.IsTuple a its.toArray from p) ?_
    exact ⟨s1.heap.objs.size, [s1.heap.objs.size], _, _, H1, rfl, I1.kept (t' := s1.toks) fun b o e => Heap.get?_push_of_some _ e, turn_tuple a _, ⟨_, Heap.get?_push_size _ rfl, rfl, rfl⟩, fresh, q⟩
end Bv
end SBvK
section SBvL
set_option linter.all false
set_option Elab.async false
open PySem PySem.Spec PyProof.Rows L2
namespace Bv
/-! ### what a loop walks, by value: the items, and what must stay true of the slots at each turn -/
abbrev WI := Env → (List D → (Env → Prop) → Env → Prop) → Prop
def JOk (K : PySem.W.Frag) (G0 : Hp) (s0 : L2.St) (J : It) (items : List D) (P : Env → Prop) : Prop := ∀ F G H env σ fp, Sim K F G H s0 env σ fp → Same G0 G → P env →
  (∀ i, i < items.length → J.go i H) ∧ J.stop items.length H ∧ ∀ i y x H', items[i]? = some y → J.yld i H x H' → ∃ G', Rep K G' y x ∧ ((H' = H ∧ G' = G) ∨ ∃ p o, H p = none ∧ H' = upd H p o ∧ G' = upd G p o)
def rdI (K : PySem.W.Frag) (w : WI) : TI := fun σ H R => ∃ F G s0 env fp Qd, Sim K F G H s0 env σ fp ∧ w env Qd ∧ ∀ items P J env' G' H', Gle F G G' → SimE K F G' H' s0 env' σ → JOk K G' s0 J items P → Qd items P env' → R J H'
def pTrue : Env → Prop := fun _ => True
section
variable {K : PySem.W.Frag} {G G' H H' F F' : Hp} {s0 σ : L2.St} {env : Env} {fp : Nat → List Addr} {a : Addr}
theorem PIimp {X : Cx} {tg e : Expr} {t t' : TI} (h : PI X tg e t) (k : ∀ σ H R, t' σ H R → t σ H R) : PI X tg e t' := ⟨fun pins s σ H R I q => h.run pins s σ H R I (k σ H R q)⟩
def wItD (w : WE) : WI := fun env Q => wD w env fun x e => match x with
  | .lst xs => Q xs pTrue e
  | .tup xs => Q xs pTrue e
  | _ => False
theorem jok_l {vs : List V} {xs : List D} (R : RepL K G xs vs) (g : SqL K G a vs ∨ Rd G a (.lst vs)) : JOk K G s0 (Itl K a) xs pTrue := by
  intro F G1 H env σ fp S gg _
  have hq : SqL K H a vs := by
    rcases g with (g | g) | g
    · exact .inl (same_rd S.gh (same_rd gg g))
    · exact .inr g
    · exact .inl (same_rd S.gh (same_rd gg g))
  have R1 := R.mono gg xs
  refine ⟨fun i hi => ?_, ⟨vs, hq, by rw [R.length]; exact Nat.le_refl _⟩, fun i y x H' hy hyl => ?_⟩
  · obtain ⟨v, hv, _⟩ := R.get (List.getElem?_eq_getElem hi)
    exact ⟨vs, v, hq, hv⟩
  · obtain ⟨e, q⟩ := hyl
    obtain ⟨v, hv, r⟩ := R1.get hy
    have := q vs hq
    rw [hv] at this; cases this
    exact ⟨G1, r, .inl ⟨e, rfl⟩⟩
theorem jok_t {vs : List V} {xs : List D} (R : RepL K G xs vs) (g : SqT K G a vs) : JOk K G s0 (Itt K a) xs pTrue := by
  intro F G1 H env σ fp S gg _
  have hq : SqT K H a vs := same_t S.gh (same_t gg g)
  have R1 := R.mono gg xs
  refine ⟨fun i hi => ?_, ⟨vs, hq, by rw [R.length]; exact Nat.le_refl _⟩, fun i y x H' hy hyl => ?_⟩
  · obtain ⟨v, hv, _⟩ := R.get (List.getElem?_eq_getElem hi)
    exact ⟨vs, v, hq, hv⟩
  · obtain ⟨e, q⟩ := hyl
    obtain ⟨v, hv, r⟩ := R1.get hy
    have := q vs hq
    rw [hv] at this; cases this
    exact ⟨G1, r, .inl ⟨e, rfl⟩⟩
theorem i_seq {X : Cx} {tg l : Expr} {w : WE} (h : PE X l (rdE X.K w)) : PI X tg l (rdI X.K (wItD w)) := PIimp (pi_sq (rE_D h)) fun σ H R ⟨F, G, s0, env, fp, Qd, S, hw, k⟩ =>
  ⟨F, G, s0, env, fp, _, S, hw, fun x v e1 G1 H1 gl1 ⟨fp1, S1⟩ R1 q => by
    cases x with
    | lst xs =>
      simp only [Rep] at R1
      obtain ⟨a, vs, rfl, s, r⟩ := R1
      exact ⟨a, rfl, .inl ⟨⟨vs, .inl (same_rd S1.gh s)⟩, k xs pTrue _ e1 G1 H1 gl1 ⟨fp1, S1⟩ (jok_l r (.inr s)) q⟩⟩
    | tup xs =>
      simp only [Rep] at R1
      obtain ⟨a, vs, rfl, s, r⟩ := R1
      exact ⟨a, rfl, .inr ⟨⟨vs, same_t S1.gh s⟩, k xs pTrue _ e1 G1 H1 gl1 ⟨fp1, S1⟩ (jok_t r s) q⟩⟩
    | _ => exact q.elim⟩
/-- a slot: one's own argument stays what it is; anything else is frozen -/
def wItSl (j : Nat) : WI := fun env Q => match sget env j with
  | .a (.l os) => (match allD os with
    | some xs => Q xs (fun e => sget e j = .a (.l os)) env
    | none => False)
  | _ => wItD (wSl j) env Q
theorem jok_a {j : Nat} {os : List OT} {xs : List D} (hv : s0[j]? = some (some (.ref a))) (ha : allD os = some xs) : JOk K G s0 (Itl K a) xs (fun e => sget e j = .a (.l os)) := by
  intro F G1 H env σ fp S gg hp
  have q := S.sl j
  rw [hp] at q
  obtain ⟨v, h1, h0, T⟩ := q
  rw [hv] at h0; cases h0
  simp only [TR] at T
  obtain ⟨a', vs, f, e, _, h2, _, _, h4⟩ := T
  cases e
  have hq : SqL K H a vs := .inl (.inl h2)
  have R1 := h4.repL ha
  refine ⟨fun i hi => ?_, ⟨vs, hq, by rw [R1.length]; exact Nat.le_refl _⟩, fun i y x H' hy hyl => ?_⟩
  · obtain ⟨v, hv, _⟩ := R1.get (List.getElem?_eq_getElem hi)
    exact ⟨vs, v, hq, hv⟩
  · obtain ⟨e, q⟩ := hyl
    obtain ⟨v, hv, r⟩ := R1.get hy
    have := q vs hq
    rw [hv] at this; cases this
    exact ⟨G1, r, .inl ⟨e, rfl⟩⟩
theorem i_slot {X : Cx} {tg : Expr} {x : Str} {p : Pos} {j : Nat} (h : PE X (.Name x p) (tVar j)) : PI X tg (.Name x p) (rdI X.K (wItSl j)) := PIimp (pi_sq h) fun σ H R ⟨F, G, s0, env, fp, Qd, S, hw, k⟩ => by
  have other : wItD (wSl j) env Qd → (iSq X.K (tVar j)) σ H R := fun hw => by
    unfold wItD wD at hw
    obtain ⟨ev, v, hv, evs, q⟩ := wSl_ok S hw
    obtain ⟨x, e1, G1, gl1, ⟨fp1, S1⟩, R1, q⟩ := frz_ok evs q
    refine ⟨v, hv, ?_⟩
    cases x with
    | lst xs =>
      simp only [Rep] at R1
      obtain ⟨a, vs, rfl, s, r⟩ := R1
      exact ⟨a, rfl, .inl ⟨⟨vs, .inl (same_rd S1.gh s)⟩, k xs pTrue _ e1 G1 H gl1 ⟨fp1, S1⟩ (jok_l r (.inr s)) q⟩⟩
    | tup xs =>
      simp only [Rep] at R1
      obtain ⟨a, vs, rfl, s, r⟩ := R1
      exact ⟨a, rfl, .inr ⟨⟨vs, same_t S1.gh s⟩, k xs pTrue _ e1 G1 H gl1 ⟨fp1, S1⟩ (jok_t r s) q⟩⟩
    | _ => exact q.elim
  unfold wItSl at hw
  split at hw
  · rename_i os e
    split at hw
    · rename_i xs ea
      have q := S.sl j
      rw [e] at q
      obtain ⟨v, h1, h0, T⟩ := q
      have T' := T
      simp only [TR] at T'
      obtain ⟨a, vs, f, rfl, _, h2, _, _, h4⟩ := T'
      exact ⟨.ref a, h1, a, rfl, .inl ⟨⟨vs, .inl (.inl h2)⟩, k xs _ _ env G H (Gle.refl F G) ⟨fp, S⟩ (jok_a h0 ea) hw⟩⟩
    · exact hw.elim
  · exact other hw
/-! ranges -/
def ups (lo : Int) (n : Nat) : List D := (List.range n).map fun (i : Nat) => .int (lo + (i : Int))
def dns (lo : Int) (n : Nat) : List D := (List.range n).map fun (i : Nat) => .int (lo - (i : Int))
theorem ups_get {lo : Int} {n i : Nat} {y : D} (h : (ups lo n)[i]? = some y) : y = .int (lo + (i : Int)) := by
  unfold ups at h
  rw [List.getElem?_map] at h
  cases e : (List.range n)[i]? with
  | none => rw [e] at h; cases h
  | some k =>
    rw [e] at h
    obtain ⟨hi, ek⟩ := List.getElem?_eq_some_iff.mp e
    simp only [List.getElem_range] at ek
    subst ek
    simpa using h.symm
theorem dns_get {lo : Int} {n i : Nat} {y : D} (h : (dns lo n)[i]? = some y) : y = .int (lo - (i : Int)) := by
  unfold dns at h
  rw [List.getElem?_map] at h
  cases e : (List.range n)[i]? with
  | none => rw [e] at h; cases h
  | some k =>
    rw [e] at h
    obtain ⟨hi, ek⟩ := List.getElem?_eq_some_iff.mp e
    simp only [List.getElem_range] at ek
    subst ek
    simpa using h.symm
theorem ups_length {lo : Int} {n : Nat} : (ups lo n).length = n := by simp [ups]
theorem dns_length {lo : Int} {n : Nat} : (dns lo n).length = n := by simp [dns]
theorem jok_r {lo : Int} {n : Nat} : JOk K G s0 (Itr lo n) (ups lo n) pTrue := by
  intro F G1 H env σ fp S gg _
  refine ⟨fun i hi => by rw [ups_length] at hi; exact hi, by rw [ups_length]; exact Nat.le_refl _, fun i y x H' hy hyl => ?_⟩
  obtain ⟨e, q⟩ := hyl
  rw [ups_get hy]
  exact ⟨G1, by simp only [Rep]; exact q, .inl ⟨e, rfl⟩⟩
theorem jok_rc {lo : Int} {n : Nat} : JOk K G s0 (Itc lo (-1) n) (dns lo n) pTrue := by
  intro F G1 H env σ fp S gg _
  refine ⟨fun i hi => by rw [dns_length] at hi; exact hi, by rw [dns_length]; exact Nat.le_refl _, fun i y x H' hy hyl => ?_⟩
  obtain ⟨e, q⟩ := hyl
  rw [dns_get hy]
  exact ⟨G1, by simp only [Rep]; rw [q]; congr 1; omega, .inl ⟨e, rfl⟩⟩
def sml (i : Int) : Prop := -1000000000 ≤ i ∧ i ≤ 1000000000
def wR1 (w : WL) : WI := fun env Q => w env fun xs e => match xs with
  | [.int j] => sml j ∧ Q (ups 0 j.toNat) pTrue e
  | _ => False
theorem i_r1 {X : Cx} {tg a : Expr} {w : WL} {p pos : Pos} (hg : Gl X "range") (hm : X.mg "range" = none) (ha : PA X [a] (rdL X.K w)) (hs : starEach [a] X.env = [(false, eval a X.env)]) : PI X tg (.Call (.Name "range" p) [a] [] pos) (rdI X.K (wR1 w)) :=
  PIimp (pi_range1 hg hm ha hs) fun σ H R ⟨F, G, s0, env, fp, Qd, S, hw, k⟩ => ⟨F, G, s0, env, fp, _, S, hw, fun xs vs e1 G1 H1 gl1 S1 R1 q => by
    split at q
    · rename_i j
      simp only [RepL, Rep] at R1
      obtain ⟨v, r, rfl, rfl, rfl⟩ := R1
      obtain ⟨⟨b1, b2⟩, q⟩ := q
      exact ⟨j, rfl, by omega, by omega, k _ _ _ e1 G1 H1 gl1 S1 jok_r q⟩
    · exact q.elim⟩
def wR2 (w : WL) : WI := fun env Q => w env fun xs e => match xs with
  | [.int i, .int j] => sml i ∧ sml j ∧ Q (ups i (j - i).toNat) pTrue e
  | _ => False
theorem i_r2 {X : Cx} {tg a b : Expr} {w : WL} {p pos : Pos} (hg : Gl X "range") (hm : X.mg "range" = none) (ha : PA X [a, b] (rdL X.K w)) (hs : starEach [a, b] X.env = [(false, eval a X.env), (false, eval b X.env)]) (hs2 : starEach [b] X.env = [(false, eval b X.env)]) :
    PI X tg (.Call (.Name "range" p) [a, b] [] pos) (rdI X.K (wR2 w)) :=
  PIimp (pi_range2 hg hm ha hs hs2) fun σ H R ⟨F, G, s0, env, fp, Qd, S, hw, k⟩ => ⟨F, G, s0, env, fp, _, S, hw, fun xs vs e1 G1 H1 gl1 S1 R1 q => by
    split at q
    · rename_i i j
      simp only [RepL, Rep] at R1
      obtain ⟨v, r, rfl, rfl, v2, r2, rfl, rfl, rfl⟩ := R1
      obtain ⟨⟨b1, b2⟩, ⟨b3, b4⟩, q⟩ := q
      exact ⟨i, j, rfl, ⟨by omega, by omega, by omega, by omega⟩, k _ _ _ e1 G1 H1 gl1 S1 jok_r q⟩
    · exact q.elim⟩
def wR3 (w : WL) : WI := fun env Q => w env fun xs e => match xs with
  | [.int i, .int j, .int c] => c = -1 ∧ sml i ∧ sml j ∧ Q (dns i (i - j).toNat) pTrue e
  | _ => False
theorem i_r3 {X : Cx} {tg a b c : Expr} {w : WL} {p pos : Pos} (hg : Gl X "range") (hm : X.mg "range" = none) (ha : PA X [a, b, c] (rdL X.K w)) (hs : starEach [a, b, c] X.env = (false, eval a X.env) :: starEach [b, c] X.env) (hpl : (backTo pos (starEach [b, c] X.env)).any (·.1) = false) :
    PI X tg (.Call (.Name "range" p) [a, b, c] [] pos) (rdI X.K (wR3 w)) :=
  PIimp (pi_range3 hg hm ha hs hpl) fun σ H R ⟨F, G, s0, env, fp, Qd, S, hw, k⟩ => ⟨F, G, s0, env, fp, _, S, hw, fun xs vs e1 G1 H1 gl1 S1 R1 q => by
    split at q
    · rename_i i j c
      simp only [RepL, Rep] at R1
      obtain ⟨v, r, rfl, rfl, v2, r2, rfl, rfl, v3, r3, rfl, rfl, rfl⟩ := R1
      obtain ⟨rfl, ⟨b1, b2⟩, ⟨b3, b4⟩, q⟩ := q
      exact ⟨i, j, -1, _, rfl, RgC.neg (by omega) (by omega) (by omega) (by omega), k _ _ _ e1 G1 H1 gl1 S1 jok_rc q⟩
    · exact q.elim⟩
/-! zip, enumerate -/
def seqD : D → Option (List D)
  | .lst xs => some xs
  | .tup xs => some xs
  | _ => none
theorem seqD_ok {x : D} {v : V} {xs : List D} (R : Rep K G x v) (e : seqD x = some xs) : ∃ a vs t, v = .ref a ∧ (∀ G1 H1, Same G G1 → Same G1 H1 → SQ K t H1 a vs) ∧ RepL K G xs vs := by
  cases x with
  | lst ys =>
    cases e
    simp only [Rep] at R
    obtain ⟨a, vs, rfl, s, r⟩ := R
    exact ⟨a, vs, false, rfl, fun G1 H1 g1 g2 => .inl (same_rd g2 (same_rd g1 s)), r⟩
  | tup ys =>
    cases e
    simp only [Rep] at R
    obtain ⟨a, vs, rfl, s, r⟩ := R
    exact ⟨a, vs, true, rfl, fun G1 H1 g1 g2 => same_t g2 (same_t g1 s), r⟩
  | _ => cases e
def zip2D : List D → List D → List D
  | x :: xs, y :: ys => .tup [x, y] :: zip2D xs ys
  | _, _ => []
theorem zip2D_length : ∀ (xs ys : List D), (zip2D xs ys).length = min xs.length ys.length
  | [], _ => by simp [zip2D]
  | _ :: _, [] => by simp [zip2D]
  | x :: xs, y :: ys => by simp only [zip2D, List.length_cons, zip2D_length xs ys]; omega
theorem zip2D_get : ∀ {xs ys : List D} {i : Nat} {z : D}, (zip2D xs ys)[i]? = some z → ∃ x y, xs[i]? = some x ∧ ys[i]? = some y ∧ z = .tup [x, y]
  | [], _, _, _, h => by simp [zip2D] at h
  | _ :: _, [], _, _, h => by simp [zip2D] at h
  | x :: xs, y :: ys, i, z, h => by
    cases i with
    | zero => simp only [zip2D, List.getElem?_cons_zero, Option.some.injEq] at h; exact ⟨x, y, rfl, rfl, h.symm⟩
    | succ i => simp only [zip2D, List.getElem?_cons_succ] at h ⊢; exact zip2D_get h
theorem jok_z2 {t1 t2 : Bool} {a b : Addr} {xs ys : List D} {vs us : List V} (h1 : ∀ G1 H1, Same G G1 → Same G1 H1 → SQ K t1 H1 a vs) (h2 : ∀ G1 H1, Same G G1 → Same G1 H1 → SQ K t2 H1 b us) (R1 : RepL K G xs vs) (R2 : RepL K G ys us) :
    JOk K G s0 (Jz2 K t1 a vs t2 b us) (zip2D xs ys) pTrue := by
  intro F G1 H env σ fp S gg _
  have l1 := R1.length
  have l2 := R2.length
  refine ⟨fun i hi => ?_, ⟨h1 _ _ gg S.gh, h2 _ _ gg S.gh, by rw [zip2D_length, l1, l2]⟩, fun i y x H' hy hyl => ?_⟩
  · rw [zip2D_length] at hi
    exact ⟨h1 _ _ gg S.gh, h2 _ _ gg S.gh, by omega, by omega⟩
  · obtain ⟨T, u1, u2, rfl, hT, rfl, q1, q2⟩ := hyl
    obtain ⟨x1, x2, e1, e2, rfl⟩ := zip2D_get hy
    obtain ⟨v1, f1, r1⟩ := R1.get e1
    obtain ⟨v2, f2, r2⟩ := R2.get e2
    rw [q1] at f1; cases f1
    rw [q2] at f2; cases f2
    have g2 : Same G (upd G1 T (.tup [u1, u2])) := fun b o e => Same.upd_new (Same.refl G1) (Same.fresh S.gh hT) b o (gg b o e)
    refine ⟨upd G1 T (.tup [u1, u2]), ?_, .inr ⟨T, _, hT, rfl, rfl⟩⟩
    simp only [Rep]
    exact ⟨T, _, rfl, SqT.of upd_same, .cons (r1.mono g2) (.cons (r2.mono g2) .nil)⟩
def wZ2 (w : WL) : WI := fun env Q => w env fun xs e => match xs with
  | [x, y] => (match seqD x, seqD y with
    | some xs, some ys => Q (zip2D xs ys) pTrue e
    | _, _ => False)
  | _ => False
theorem i_z2 {X : Cx} {e e2 : Expr} {w : WL} {p pos tpos : Pos} {elts : List Expr} {kk : Nat} (hg : Gl X "zip") (hm : X.mg "zip" = none) (ha : PA X [e, e2] (rdL X.K w))
    (hs : starEach [e, e2] X.env = (false, eval e X.env) :: starEach [e2] X.env) (hpl : (backTo pos (starEach [e2] X.env)).any (·.1) = false) : PI X (.Tuple elts kk tpos) (.Call (.Name "zip" p) [e, e2] [] pos) (rdI X.K (wZ2 w)) :=
  PIimp (pi_z2 hg hm ha hs hpl) fun σ H R ⟨F, G, s0, env, fp, Qd, S, hw, k⟩ => ⟨F, G, s0, env, fp, _, S, hw, fun xs vs e1 G1 H1 gl1 ⟨fp1, S1⟩ R1 q => by
    split at q
    · rename_i x y
      simp only [RepL] at R1
      obtain ⟨v, r, rfl, r1, v2, r2, rfl, r2', rfl⟩ := R1
      split at q
      · rename_i xs ys ex ey
        obtain ⟨a, us, t1, rfl, s1, R1⟩ := seqD_ok r1 ex
        obtain ⟨b, ws, t2, rfl, s2, R2⟩ := seqD_ok r2' ey
        exact ⟨a, b, us, ws, t1, t2, rfl, s1 G1 H1 (Same.refl _) S1.gh, s2 G1 H1 (Same.refl _) S1.gh, k _ _ _ e1 G1 H1 gl1 ⟨fp1, S1⟩ (jok_z2 s1 s2 R1 R2) q⟩
      · exact q.elim
    · exact q.elim⟩
def zip3D : List D → List D → List D → List D
  | x :: xs, y :: ys, z :: zs => .tup [x, y, z] :: zip3D xs ys zs
  | _, _, _ => []
theorem zip3D_length : ∀ (xs ys zs : List D), (zip3D xs ys zs).length = min (min xs.length ys.length) zs.length
  | [], _, _ => by simp [zip3D]
  | _ :: _, [], _ => by simp [zip3D]
  | _ :: _, _ :: _, [] => by simp [zip3D]
  | x :: xs, y :: ys, z :: zs => by simp only [zip3D, List.length_cons, zip3D_length xs ys zs]; omega
theorem zip3D_get : ∀ {xs ys zs : List D} {i : Nat} {t : D}, (zip3D xs ys zs)[i]? = some t → ∃ x y z, xs[i]? = some x ∧ ys[i]? = some y ∧ zs[i]? = some z ∧ t = .tup [x, y, z]
  | [], _, _, _, _, h => by simp [zip3D] at h
  | _ :: _, [], _, _, _, h => by simp [zip3D] at h
  | _ :: _, _ :: _, [], _, _, h => by simp [zip3D] at h
  | x :: xs, y :: ys, z :: zs, i, t, h => by
    cases i with
    | zero => simp only [zip3D, List.getElem?_cons_zero, Option.some.injEq] at h; exact ⟨x, y, z, rfl, rfl, rfl, h.symm⟩
    | succ i => simp only [zip3D, List.getElem?_cons_succ] at h ⊢; exact zip3D_get h
theorem jok_z3 {t1 t2 t3 : Bool} {a b c : Addr} {xs ys zs : List D} {vs us ws : List V} (h1 : ∀ G1 H1, Same G G1 → Same G1 H1 → SQ K t1 H1 a vs) (h2 : ∀ G1 H1, Same G G1 → Same G1 H1 → SQ K t2 H1 b us) (h3 : ∀ G1 H1, Same G G1 → Same G1 H1 → SQ K t3 H1 c ws)
    (R1 : RepL K G xs vs) (R2 : RepL K G ys us) (R3 : RepL K G zs ws) : JOk K G s0 (Jz3 K t1 a vs t2 b us t3 c ws) (zip3D xs ys zs) pTrue := by
  intro F G1 H env σ fp S gg _
  have l1 := R1.length
  have l2 := R2.length
  have l3 := R3.length
  refine ⟨fun i hi => ?_, ⟨h1 _ _ gg S.gh, h2 _ _ gg S.gh, h3 _ _ gg S.gh, by rw [zip3D_length, l1, l2, l3]⟩, fun i y x H' hy hyl => ?_⟩
  · rw [zip3D_length] at hi
    exact ⟨h1 _ _ gg S.gh, h2 _ _ gg S.gh, h3 _ _ gg S.gh, by omega, by omega, by omega⟩
  · obtain ⟨T, u1, u2, u3, rfl, hT, rfl, q1, q2, q3⟩ := hyl
    obtain ⟨x1, x2, x3, e1, e2, e3, rfl⟩ := zip3D_get hy
    obtain ⟨v1, f1, r1⟩ := R1.get e1
    obtain ⟨v2, f2, r2⟩ := R2.get e2
    obtain ⟨v3, f3, r3⟩ := R3.get e3
    rw [q1] at f1; cases f1
    rw [q2] at f2; cases f2
    rw [q3] at f3; cases f3
    have g2 : Same G (upd G1 T (.tup [u1, u2, u3])) := fun b o e => Same.upd_new (Same.refl G1) (Same.fresh S.gh hT) b o (gg b o e)
    refine ⟨upd G1 T (.tup [u1, u2, u3]), ?_, .inr ⟨T, _, hT, rfl, rfl⟩⟩
    simp only [Rep]
    exact ⟨T, _, rfl, SqT.of upd_same, .cons (r1.mono g2) (.cons (r2.mono g2) (.cons (r3.mono g2) .nil))⟩
def wZ3 (w : WL) : WI := fun env Q => w env fun xs e => match xs with
  | [x, y, z] => (match seqD x, seqD y, seqD z with
    | some xs, some ys, some zs => Q (zip3D xs ys zs) pTrue e
    | _, _, _ => False)
  | _ => False
theorem i_z3 {X : Cx} {e e2 e3 : Expr} {w : WL} {p pos tpos : Pos} {elts : List Expr} {kk : Nat} (hg : Gl X "zip") (hm : X.mg "zip" = none) (ha : PA X [e, e2, e3] (rdL X.K w))
    (hs : starEach [e, e2, e3] X.env = (false, eval e X.env) :: starEach [e2, e3] X.env) (hpl : (backTo pos (starEach [e2, e3] X.env)).any (·.1) = false) : PI X (.Tuple elts kk tpos) (.Call (.Name "zip" p) [e, e2, e3] [] pos) (rdI X.K (wZ3 w)) :=
  PIimp (pi_z3 hg hm ha hs hpl) fun σ H R ⟨F, G, s0, env, fp, Qd, S, hw, k⟩ => ⟨F, G, s0, env, fp, _, S, hw, fun xs vs e1 G1 H1 gl1 ⟨fp1, S1⟩ R1 q => by
    split at q
    · rename_i x y z
      simp only [RepL] at R1
      obtain ⟨v, r, rfl, r1, v2, r2, rfl, r2', v3, r3, rfl, r3', rfl⟩ := R1
      split at q
      · rename_i xs ys zs ex ey ez
        obtain ⟨a, us, t1, rfl, s1, R1⟩ := seqD_ok r1 ex
        obtain ⟨b, ws, t2, rfl, s2, R2⟩ := seqD_ok r2' ey
        obtain ⟨c, ts, t3, rfl, s3, R3⟩ := seqD_ok r3' ez
        exact ⟨a, b, c, us, ws, ts, t1, t2, t3, rfl, s1 G1 H1 (Same.refl _) S1.gh, s2 G1 H1 (Same.refl _) S1.gh, s3 G1 H1 (Same.refl _) S1.gh, k _ _ _ e1 G1 H1 gl1 ⟨fp1, S1⟩ (jok_z3 s1 s2 s3 R1 R2 R3) q⟩
      · exact q.elim
    · exact q.elim⟩
def enumD (k : Nat) : List D → List D
  | [] => []
  | x :: xs => .tup [.int (k : Int), x] :: enumD (k + 1) xs
theorem enumD_length : ∀ (k : Nat) (xs : List D), (enumD k xs).length = xs.length
  | _, [] => rfl
  | k, x :: xs => by simp only [enumD, List.length_cons, enumD_length (k + 1) xs]
theorem enumD_get : ∀ {k : Nat} {xs : List D} {i : Nat} {z : D}, (enumD k xs)[i]? = some z → ∃ x, xs[i]? = some x ∧ z = .tup [.int ((k + i : Nat) : Int), x]
  | _, [], _, _, h => by simp [enumD] at h
  | k, x :: xs, i, z, h => by
    cases i with
    | zero => simp only [enumD, List.getElem?_cons_zero, Option.some.injEq] at h; exact ⟨x, rfl, h.symm⟩
    | succ i =>
      simp only [enumD, List.getElem?_cons_succ] at h ⊢
      obtain ⟨y, e, q⟩ := enumD_get h
      exact ⟨y, e, by rw [q]; congr 4; omega⟩
theorem jok_en {t : Bool} {a : Addr} {xs : List D} {vs : List V} (h1 : ∀ G1 H1, Same G G1 → Same G1 H1 → SQ K t H1 a vs) (R1 : RepL K G xs vs) : JOk K G s0 (Jen K t a vs) (enumD 0 xs) pTrue := by
  intro F G1 H env σ fp S gg _
  have l1 := R1.length
  refine ⟨fun i hi => ?_, ⟨h1 _ _ gg S.gh, by rw [enumD_length, l1]⟩, fun i y x H' hy hyl => ?_⟩
  · rw [enumD_length] at hi
    exact ⟨h1 _ _ gg S.gh, by omega⟩
  · obtain ⟨T, u1, rfl, hT, rfl, q1⟩ := hyl
    obtain ⟨x1, e1, rfl⟩ := enumD_get hy
    obtain ⟨v1, f1, r1⟩ := R1.get e1
    rw [q1] at f1; cases f1
    have g2 : Same G (upd G1 T (.tup [.int (i : Nat), u1])) := fun b o e => Same.upd_new (Same.refl G1) (Same.fresh S.gh hT) b o (gg b o e)
    refine ⟨upd G1 T (.tup [.int (i : Nat), u1]), ?_, .inr ⟨T, _, hT, rfl, rfl⟩⟩
    simp only [Rep]
    exact ⟨T, _, rfl, SqT.of upd_same, .cons (by simp only [Rep]; rw [Nat.zero_add]) (.cons (r1.mono g2) .nil)⟩
def wEn (w : WL) : WI := fun env Q => w env fun xs e => match xs with
  | [x] => (match seqD x with
    | some xs => Q (enumD 0 xs) pTrue e
    | none => False)
  | _ => False
theorem i_en {X : Cx} {e : Expr} {w : WL} {p pos tpos : Pos} {elts : List Expr} {kk : Nat} (hg : Gl X "enumerate") (hm : X.mg "enumerate" = none) (ha : PA X [e] (rdL X.K w)) (hs : starEach [e] X.env = [(false, eval e X.env)]) :
    PI X (.Tuple elts kk tpos) (.Call (.Name "enumerate" p) [e] [] pos) (rdI X.K (wEn w)) :=
  PIimp (pi_en hg hm ha hs) fun σ H R ⟨F, G, s0, env, fp, Qd, S, hw, k⟩ => ⟨F, G, s0, env, fp, _, S, hw, fun xs vs e1 G1 H1 gl1 ⟨fp1, S1⟩ R1 q => by
    split at q
    · rename_i x
      simp only [RepL] at R1
      obtain ⟨v, r, rfl, r1, rfl⟩ := R1
      split at q
      · rename_i xs ex
        obtain ⟨a, us, t1, rfl, s1, R1⟩ := seqD_ok r1 ex
        exact ⟨a, us, t1, rfl, s1 G1 H1 (Same.refl _) S1.gh, k _ _ _ e1 G1 H1 gl1 ⟨fp1, S1⟩ (jok_en s1 R1) q⟩
      · exact q.elim
    · exact q.elim⟩
/-! ### for -/
def wFor (g : WG) (b : WS) (P : Env → Prop) : List D → WS
  | [] => fun env C => P env ∧ C.nx env
  | x :: r => fun env C => P env ∧ g x env (Gf fun e1 => b e1 { C with nx := Gf fun e => wFor g b P r e C, ct := Gf fun e => wFor g b P r e C, bk := C.nx })
def wForS (i : WI) (g : WG) (b : WS) : WS := fun env C => i env fun items P e => Lp (wFor g b P items e C)
theorem s_for {X : Cx} {tg iter : Expr} {body : List Stmt} {wi : WI} {g : WG} {b : WS} {pos : Pos} (hp : PassesOwn (model X.prog X.w) X.A X.env X.xe) (hc : X.calm = true) (hi : PI X tg iter (rdI X.K wi)) (hg : PG X tg (rdG X.K g)) (hb : PSs X body (rdS X.K b))
    (hs : ∀ x, foldedSetIterable iter X.env x = pure x) : PS X (.For tg iter body [] pos) (rdS X.K (wForS wi g b)) :=
  PSimp (ps_for hp hc hi hg hb hs) fun D σ H ⟨F, G, s0, env, fp, C, S, hw, sat⟩ => ⟨F, G, s0, env, fp, _, S, hw, fun items P J e1 G1 H1 gl1 ⟨fp1, S1⟩ jok ⟨q⟩ => by
    refine ⟨fun i m σ' H' => m = items.length - i ∧ i ≤ items.length ∧ ∃ G' e fp', Gle F G1 G' ∧ Sim X.K F G' H' s0 e σ' fp' ∧ wFor g b P (items.drop i) e C, ⟨items.length, rfl, Nat.zero_le _, G1, e1, fp1, Gle.refl F G1, S1, by simpa using q⟩, ?_⟩
    rintro i m σ2 H2 ⟨rfl, hi, G2, e2, fp2, gl2, S2, q2⟩
    rcases Nat.lt_or_ge i items.length with hlt | hge
    · rw [List.drop_eq_getElem_cons hlt] at q2
      simp only [wFor] at q2
      obtain ⟨hP, q2⟩ := q2
      obtain ⟨k1, k2, k3⟩ := jok F G2 H2 e2 σ2 fp2 S2 gl2.1 hP
      refine .inr ⟨k1 i hlt, fun σ' H' => ∃ G' e fp', Gle F G1 G' ∧ Sim X.K F G' H' s0 e σ' fp' ∧ wFor g b P (items.drop (i + 1)) e C, fun σ' H' ⟨G', e, fp', a1, a2, a3⟩ => ⟨items.length - (i + 1), by omega, rfl, hlt, G', e, fp', a1, a2, a3⟩, fun x H' hy => ?_⟩
      obtain ⟨G3, R3, hh⟩ := k3 i _ x H' (List.getElem?_eq_getElem hlt) hy
      have S3 : ∃ gl : Gle F G2 G3, Sim X.K F G3 H' s0 e2 σ2 fp2 := by
        rcases hh with ⟨rfl, rfl⟩ | ⟨p, o, hp, rfl, rfl⟩
        · exact ⟨Gle.refl F _, S2⟩
        · exact ⟨Gle.data S2.fh S2.gh hp, S2.data hp⟩
      obtain ⟨gl3, S3⟩ := S3
      refine ⟨F, G3, s0, e2, fp2, _, _, S3, R3, q2, fun σ4 e4 G4 H4 gl4 S4 q4 => ?_⟩
      obtain ⟨G5, e5, gl5, ⟨fp5, S5⟩, q5⟩ := q4.go S4
      replace gl4 := gl4.trans gl5
      have glA := gl1.trans (gl2.trans (gl3.trans gl4))
      exact ⟨F, G5, s0, e5, fp5, _, S5, q5,
        fun σ' env' G' H'' gl S' q' => by
          obtain ⟨G9, e9, gl9, ⟨fp9, S9⟩, q9⟩ := q'.go S'
          exact ⟨G9, e9, fp9, ((gl2.trans (gl3.trans gl4)).trans gl).trans gl9, S9, q9⟩,
        fun ev v σ' env' G' H'' gl evs q' => sat.2.1 ev v σ' env' G' H'' (glA.trans gl) evs q',
        fun σ' env' G' H'' gl S' q' => sat.1 σ' env' G' H'' (glA.trans gl) S' q',
        fun σ' env' G' H'' gl S' q' => by
          obtain ⟨G9, e9, gl9, ⟨fp9, S9⟩, q9⟩ := q'.go S'
          exact ⟨G9, e9, fp9, ((gl2.trans (gl3.trans gl4)).trans gl).trans gl9, S9, q9⟩⟩
    · have e : i = items.length := by omega
      subst e
      rw [List.drop_length] at q2
      simp only [wFor] at q2
      obtain ⟨hP, q2⟩ := q2
      obtain ⟨k1, k2, k3⟩ := jok F G2 H2 e2 σ2 fp2 S2 gl2.1 hP
      exact .inl ⟨k2, sat.1 σ2 e2 G2 H2 (gl1.trans gl2) ⟨fp2, S2⟩ q2⟩⟩
end
end Bv
end SBvL
section SBvM
set_option linter.all false
set_option Elab.async false
open PySem PySem.Spec PyProof.Rows L2
namespace Bv
def keepD : SV → SV
  | .t (.d x) => .t (.d x)
  | .a (.d x) => .a (.d x)
  | _ => .no
def restE (e0 : Env) : List Nat → Env → Env
  | [], e => e
  | j :: r, e => restE e0 r (sset (clr j e) j (keepD (sget e0 j)))
/-- the block's targets: they change the block's own slots alone -/
def rdGO (K : PySem.W.Frag) (own : List Nat) (w : WG) : TG := fun v σ H Q => ∃ F G s0 env fp x Qd, Sim K F G H s0 env σ fp ∧ Rep K G x v ∧ w x env Qd ∧ ∀ σ' env', SimE K F G H s0 env' σ' → wipe σ' own = wipe σ own → Qd env' → Q σ' H
def rdGOs (K : PySem.W.Frag) (own : List Nat) (w : WGs) : TGs := fun vs σ H Q => ∃ F G s0 env fp xs Qd, Sim K F G H s0 env σ fp ∧ RepL K G xs vs ∧ w xs env Qd ∧ ∀ σ' env', SimE K F G H s0 env' σ' → wipe σ' own = wipe σ own → Qd env' → Q σ' H
section
variable {K : PySem.W.Frag} {G G' H H' F F' : Hp} {s0 σ : L2.St} {env : Env} {fp : Nat → List Addr} {a : Addr}
theorem wipe_get {i : Nat} : ∀ {vs : List Nat}, (wipe σ vs)[i]? = if i ∈ vs then (if i < σ.length then some none else none) else σ[i]?
  | [] => by simp [wipe]
  | v :: vs => by
    unfold wipe
    by_cases h : v = i
    · subst h
      rw [if_pos List.mem_cons_self]
      by_cases hl : v < σ.length
      · rw [if_pos hl, List.getElem?_set_self (by rw [wipe_length]; exact hl)]
      · rw [if_neg hl, List.getElem?_eq_none (by rw [List.length_set, wipe_length]; omega)]
    · rw [List.getElem?_set_ne h, wipe_get (vs := vs)]
      by_cases hm : i ∈ vs
      · rw [if_pos hm, if_pos (List.mem_cons_of_mem _ hm)]
      · rw [if_neg hm, if_neg (fun z => (List.mem_cons.mp z).elim (fun q => h q.symm) hm)]
theorem wipe_set {i : Nat} {v : Option V} {vs : List Nat} (h : i ∈ vs) : wipe (σ.set i v) vs = wipe σ vs := by
  apply List.ext_getElem?
  intro k
  rw [wipe_get, wipe_get, List.length_set]
  by_cases hk : k ∈ vs
  · rw [if_pos hk, if_pos hk]
  · rw [if_neg hk, if_neg hk, List.getElem?_set_ne (fun (z : i = k) => hk (by rw [← z]; exact h))]
theorem wipe_wipe {vs : List Nat} : wipe (wipe σ vs) vs = wipe σ vs := by
  apply List.ext_getElem?
  intro k
  rw [wipe_get, wipe_get, wipe_length]
  by_cases hk : k ∈ vs
  · rw [if_pos hk, if_pos hk]
  · rw [if_neg hk, if_neg hk]
theorem wipe_cons {j : Nat} {r : List Nat} : wipe (σ.set j none) r = wipe σ (j :: r) := by
  apply List.ext_getElem?
  intro k
  rw [wipe_get, wipe_get, List.length_set]
  by_cases hk : k ∈ r
  · rw [if_pos hk, if_pos (List.mem_cons_of_mem _ hk)]
  · rw [if_neg hk]
    by_cases hj : j = k
    · subst hj
      rw [if_pos List.mem_cons_self]
      by_cases hl : j < σ.length
      · rw [if_pos hl, List.getElem?_set_self hl]
      · rw [if_neg hl, List.getElem?_eq_none (by rw [List.length_set]; omega)]
    · rw [List.getElem?_set_ne hj, if_neg fun z => (List.mem_cons.mp z).elim (fun q => hj q.symm) hk]
theorem Sim.hide : ∀ {own : List Nat} {env : Env} {σ : L2.St} {fp : Nat → List Addr}, (∀ j ∈ own, j < env.length) → Sim K F G H s0 env σ fp → SimE K F G H s0 (hideR env own) (wipe σ own)
  | [], env, σ, fp, _, S => ⟨fp, S⟩
  | j :: r, env, σ, fp, h, S => by
    have S1 : Sim K F G H s0 (sset (clr j env) j .no) (σ.set j none) (fpSet fp j []) := S.put (h j List.mem_cons_self) List.length_set (fun k hk => List.getElem?_set_ne (Ne.symm hk)) List.nodup_nil (fun _ _ _ _ => by simp) rfl (fun _ _ q => nomatch q)
    have := Sim.hide (own := r) (fun k hk => by rw [sset_length, clr_length]; exact h k (List.mem_cons_of_mem _ hk)) S1
    rw [wipe_cons] at this
    exact this
theorem Sim.rest {e0 : Env} : ∀ {own : List Nat} {e : Env} {fp : Nat → List Addr}, own.Nodup → (∀ j ∈ own, j < e.length) → Sim K F G H s0 e (wipe σ own) fp → (∀ j ∈ own, SlotOk K G F H s0 [] σ [] j (keepD (sget e0 j))) → SimE K F G H s0 (restE e0 own e) σ
  | [], e, fp, _, _, S, _ => ⟨fp, S⟩
  | j :: r, e, fp, nd, hl, S, hs => by
    obtain ⟨n1, n2⟩ := List.nodup_cons.mp nd
    have hj := hs j List.mem_cons_self
    have hget : (wipe σ r)[j]? = σ[j]? := by rw [wipe_get, if_neg n1]
    have hy : SlotOk K G F H s0 (sset (clr j e) j (keepD (sget e0 j))) (wipe σ r) [] j (keepD (sget e0 j)) := by
      revert hj
      cases h : sget e0 j with
      | no => exact fun q => q
      | al k p => exact fun q => q
      | t o =>
        cases o with
        | d x => rintro ⟨v, h1, h2⟩; exact ⟨v, hget.trans h1, h2⟩
        | _ => exact fun q => q
      | a o =>
        cases o with
        | d x => rintro ⟨v, h1, h0, h2⟩; exact ⟨v, hget.trans h1, h0, h2⟩
        | _ => exact fun q => q
    have S1 := S.put (i := j) (y := keepD (sget e0 j)) (σ' := wipe σ r) (f := []) (hl j List.mem_cons_self) (by rw [wipe_length, wipe_length]) (fun k hk => by
        show _ = ((wipe σ r).set j none)[k]?
        rw [List.getElem?_set_ne (Ne.symm hk)]) List.nodup_nil (fun _ _ _ _ => by simp) hy (by
        intro k p q
        cases h : sget e0 j with
        | no => rw [h] at q; cases q
        | al k p => rw [h] at q; cases q
        | t o => rw [h] at q; cases o <;> cases q
        | a o => rw [h] at q; cases o <;> cases q)
    exact Sim.rest (own := r) n2 (fun k hk => by rw [sset_length, clr_length]; exact hl k (List.mem_cons_of_mem _ hk)) S1 fun k hk => hs k (List.mem_cons_of_mem _ hk)
/-- what a slot kept as data needs later -/
theorem Sim.keep {G1 H1 F1 : Hp} {j : Nat} (S : Sim K F G H s0 env σ fp) (g : Same G G1) (hj : j < env.length) : SlotOk K G1 F1 H1 s0 [] σ [] j (keepD (sget env j)) := by
  have q := S.sl j
  revert q
  cases sget env j with
  | no => exact fun _ => rfl
  | al k p => exact fun _ => rfl
  | t o =>
    cases o with
    | d x =>
      rintro ⟨v, h1, T⟩
      simp only [TR] at T
      exact ⟨v, h1, by simp only [TR]; exact ⟨T.1.mono g, trivial⟩⟩
    | _ => exact fun _ => rfl
  | a o =>
    cases o with
    | d x =>
      rintro ⟨v, h1, h0, T⟩
      simp only [TR] at T
      exact ⟨v, h1, h0, by simp only [TR]; exact ⟨T.1.mono g, trivial⟩⟩
    | _ => exact fun _ => rfl
theorem gc_name {X : Cx} {i : Nat} {x : Str} {pos : Pos} {own : List Nat} (h : PG X (.Name x pos) (gName i)) (hi : i ∈ own) : PG X (.Name x pos) (rdGO X.K own (gN i)) := PGimp h fun v σ H Q ⟨F, G, s0, env, fp, y, Qd, S, R, hw, k⟩ => by
  obtain ⟨e2, S2, q2⟩ := asg_ok (i := i) (ev := .d y) (Q := Qd) hw.1 ⟨⟨fp, S⟩, R⟩ ⟨hw.2.1, hw.2.2⟩
  exact k _ e2 S2 (wipe_set hi) q2
theorem gcs_nil {X : Cx} {own : List Nat} : PGs X [] (rdGOs X.K own gsNil) := PGsimp pgs_nil fun vs σ H Q ⟨F, G, s0, env, fp, xs, Qd, S, R, hw, k⟩ => by
  obtain ⟨rfl, q⟩ := hw
  simp only [RepL] at R
  exact ⟨R, k σ env ⟨fp, S⟩ rfl q⟩
theorem gcs_cons {X : Cx} {e : Expr} {es : List Expr} {g : WG} {r : WGs} {own : List Nat} (h1 : PG X e (rdGO X.K own g)) (h2 : PGs X es (rdGOs X.K own r)) (hs : (assignEach (e :: es) X.env).map (·.2) = assign e X.env :: (assignEach es X.env).map (·.2)) : PGs X (e :: es) (rdGOs X.K own (gsCons g r)) :=
  PGsimp (pgs_cons h1 h2 hs) fun vs σ H Q ⟨F, G, s0, env, fp, xs, Qd, S, R, hw, k⟩ => by
    cases xs with
    | nil => exact hw.elim
    | cons x xs =>
      simp only [RepL] at R
      obtain ⟨v, rv, rfl, R1, R2⟩ := R
      exact ⟨v, rv, rfl, F, G, s0, env, fp, x, _, S, R1, hw, fun σ' env' ⟨fp', S'⟩ hw1 q => ⟨F, G, s0, env', fp', xs, Qd, S', R2, q, fun σ2 e2 S2 hw2 q2 => k σ2 e2 S2 (hw2.trans hw1) q2⟩⟩
theorem gc_tup {X : Cx} {m : Nat} {es : List Expr} {kk : Nat} {r : WGs} {pos : Pos} {own : List Nat} (hc : X.calm = true) (h : PGs X es (rdGOs X.K own r)) (hn : (assignEach es X.env).length = m) (hst : (assignEach es X.env).findIdx? (·.1) = none) : PG X (.Tuple es kk pos) (rdGO X.K own (gT m r)) :=
  PGimp (pg_tup hc h hn hst) fun v σ H Q ⟨F, G, s0, env, fp, x, Qd, S, R, hw, k⟩ => by
    cases x with
    | tup xs =>
      simp only [Rep] at R
      obtain ⟨a, vs, rfl, s, R⟩ := R
      exact ⟨a, vs, rfl, same_t S.gh s, by rw [← R.length]; exact hw.1, F, G, s0, env, fp, xs, Qd, S, R, hw.2, k⟩
    | _ => exact hw.elim
/-! ### [elt for target in iter if ..] -/
def wYes : WT := fun env Q => Q true env
theorem PTsimp {X : Cx} {es : List Expr} {t t' : TT} (h : PTs X es t) (k : ∀ σ H Q, t' σ H Q → t σ H Q) : PTs X es t' := ⟨fun pins s σ H Q I q => h.run pins s σ H Q I (k σ H Q q)⟩
theorem t_yes {X : Cx} : PTs X [] (rdT X.K wYes) := PTsimp pts_nil fun σ H Q ⟨F, G, s0, env, fp, Qd, S, hw, k⟩ => k true env G H (Gle.refl F G) ⟨fp, S⟩ hw
theorem t_one {X : Cx} {e : Expr} {t : WT} (h : PT X e (rdT X.K t)) : PTs X [e] (rdT X.K t) := pts_one h
def wLcG (own : List Nat) (g : WG) (t : WT) (w : WO) (P : Env → Prop) : List D → List OT → Env → (List OT → Env → Prop) → Prop
  | [], acc, e, Q => P e ∧ Q acc e
  | x :: r, acc, e, Q => P e ∧ g x e fun e1 => t e1 fun c e2 => Brn c (w e2 fun o e3 => acc.length < 1000000 ∧ wLcG own g t w P r (acc ++ [o]) (hideR e3 own) Q) (wLcG own g t w P r acc (hideR e2 own) Q)
def wLc (i : WI) (own : List Nat) (g : WG) (t : WT) (w : WO) : WE := fun env Q => i env fun items P e => Lp (wLcG own g t w P items [] (hideR e own) fun os e' => Q (.o (.l os)) (restE e own e'))
theorem TRL.append : ∀ {xs ys : List OT} {vs us : List V} {f g : List Addr}, TRL K G F H xs vs f → TRL K G F H ys us g → TRL K G F H (xs ++ ys) (vs ++ us) (f ++ g)
  | [], _, _, _, _, _, h, h' => by
    simp only [TRL] at h
    obtain ⟨rfl, rfl⟩ := h
    exact h'
  | x :: xs, _, _, _, _, _, h, h' => by
    simp only [TRL] at h
    obtain ⟨v, r, f1, f2, rfl, rfl, h1, h2⟩ := h
    simp only [List.cons_append, TRL]
    exact ⟨v, _, f1, _, rfl, by rw [List.append_assoc], h1, TRL.append h2 h'⟩
/-- an item joins the list that is held -/
theorem Tmp.snoc {os : List OT} {o : OT} {D : Addr} {f : List Addr} {y : V} {G0 H0 : Hp} (nf : f.Nodup) (T : TR K G0 F H0 (.l os) (.ref D) f) (gl : Gle (addF F H0 f) G0 G) (E : Tmp K (addF F H0 f) G H s0 env σ o y) :
    ∃ vs, H D = some (.lst vs) ∧ vs.length = os.length ∧ Tmp K F G (upd H D (.lst (vs ++ [y]))) s0 env σ (.l (os ++ [o])) (.ref D) := by
  obtain ⟨fp2, f2, n2, T2, S2⟩ := E
  have ow2 := T2.own o
  have fh : Same (addF F H0 f) H := fun a u e => S2.fh a u (addF_le (fun b hb => (ow2 b hb).2.2) a u e)
  have T1 := T.held gl fh
  have same1 := held_same (fun a ha => (T.own _ a ha).1) fh
  have own1 := T1.own (.l os)
  have ap : ∀ a ∈ f, a ∉ f2 := fun a h1 h2 => by
    obtain ⟨u, hu⟩ := (T.own _ a h1).1
    have := (ow2 a h2).2.2
    rw [addF_in h1, hu] at this; cases this
  have apS : ∀ i a, a ∈ fp2 i → a ∉ f2 ∧ a ∉ f := fun i a ha => ⟨S2.notin i a ha, fun hf => by
    obtain ⟨_, _, q3⟩ := S2.own ha
    obtain ⟨u, hu⟩ := (T.own _ a hf).1
    rw [addF_out (S2.notin i a ha), addF_in hf, hu] at q3; cases q3⟩
  simp only [TR] at T1
  obtain ⟨a, vs, f0, e, rfl, h1, h2, h3, h4⟩ := T1
  cases e
  obtain ⟨nD, nf0⟩ := List.nodup_cons.mp nf
  have D2 : D ∉ f2 := ap D List.mem_cons_self
  refine ⟨vs, h1, h4.length.symm, fp2, D :: (f0 ++ f2), ?_, ?_, ?_⟩
  · refine List.nodup_cons.mpr ⟨fun z => (List.mem_append.mp z).elim nD D2, List.nodup_append.mpr ⟨nf0, n2, fun x hx z hz q => ap x (List.mem_cons_of_mem _ hx) (q ▸ hz)⟩⟩
  · simp only [TR]
    refine ⟨D, vs ++ [y], f0 ++ f2, rfl, rfl, upd_same, h2, h3, ?_⟩
    have A : TRL K G F (upd H D (.lst (vs ++ [y]))) os vs f0 := h4.frame os (Same.refl G) fun b hb => ⟨upd_ne fun z => nD (z ▸ hb), (own1 b (List.mem_cons_of_mem _ hb)).2.1, (own1 b (List.mem_cons_of_mem _ hb)).2.2⟩
    have B : TR K G F (upd H D (.lst (vs ++ [y]))) o y f2 := T2.frame o (Same.refl G) fun b hb => by
      obtain ⟨_, q2, q3⟩ := ow2 b hb
      refine ⟨upd_ne fun z => D2 (z ▸ hb), q2, ?_⟩
      rw [addF_out (fun z => ap b z hb)] at q3; exact q3
    have B' : TRL K G F (upd H D (.lst (vs ++ [y]))) [o] [y] f2 := by
      simp only [TRL]
      exact ⟨y, [], f2, [], rfl, by simp, B, rfl, rfl⟩
    exact A.append B'
  · have fF : Same F H := fun b u e => fh b u (addF_le (fun c hc => (T.own _ c hc).2.2) b u e)
    refine S2.grow (Same.refl G) (fun b u e => ?_) (fun b u e => ?_) fun i b hb => ?_
    · rw [upd_ne (fun z => by rw [z, h2] at e; cases e)]
      exact S2.gh b u e
    · by_cases hb : b ∈ D :: (f0 ++ f2)
      · rw [addF_in hb] at e; exact e
      · rw [addF_out hb] at e
        rw [upd_ne (fun z => hb (by rw [z]; exact List.mem_cons_self))]
        exact fF b u e
    · obtain ⟨a1, a2⟩ := apS i b hb
      obtain ⟨_, q2, q3⟩ := S2.own hb
      have nb : b ≠ D := fun z => a2 (by rw [z]; exact List.mem_cons_self)
      refine ⟨upd_ne nb, q2, ?_⟩
      rw [addF_out (fun z => (List.mem_cons.mp z).elim nb fun z => (List.mem_append.mp z).elim (fun q => a2 (List.mem_cons_of_mem _ q)) a1)]
      rw [addF_out a1, addF_out a2] at q3
      exact q3
theorem hideR_length {own : List Nat} {env : Env} : (hideR env own).length = env.length := hide_length
theorem lc_rd {own : List Nat} {wi : WI} {g : WG} {t : WT} {w : WO} {Q : VK} (nd : own.Nodup) (hlt : ∀ j ∈ own, j < σ.length) (h : rdE K (wLc wi own g t w) σ H Q) : tLc (rdI K wi) (rdGO K own g) (rdT K t) (rdO K w) own σ H Q := by
  obtain ⟨F, G, s0, env, fp, Qd, S, hw, k⟩ := h
  refine ⟨F, G, s0, env, fp, _, S, hw, fun items P J e1 G1 H1 gl1 ⟨fp1, S1⟩ jok ⟨q⟩ D hD => ?_⟩
  have ln1 : e1.length = σ.length := S1.len
  obtain ⟨fph, Sh⟩ := S1.hide (own := own) (fun j hj => by rw [ln1]; exact hlt j hj)
  have T0 : Tmp K F G1 (upd H1 D (.lst [])) s0 (hideR e1 own) (wipe σ own) (.l []) (.ref D) := Tmps.list ⟨fph, [], List.nodup_nil, by simp only [TRL]; exact ⟨trivial, trivial⟩, by rw [addF_nil]; exact Sh⟩ hD
  refine ⟨fun i m H' => m = items.length - i ∧ i ≤ items.length ∧ ∃ G' e acc, e.length = σ.length ∧ Gle F G1 G' ∧ Tmp K F G' H' s0 e (wipe σ own) (.l acc) (.ref D) ∧ wLcG own g t w P (items.drop i) acc e (fun os e' => Qd (.o (.l os)) (restE e1 own e')),
    ⟨items.length, rfl, Nat.zero_le _, G1, _, [], by rw [hideR_length]; exact ln1, Gle.refl F G1, T0, by simpa using q⟩, ?_⟩
  rintro i m H2 ⟨rfl, hi, G2, e2, acc, ln2, gl2, ⟨fp2, f, nf, T2, S2⟩, q2⟩
  have own2 := T2.own (.l acc)
  rcases Nat.lt_or_ge i items.length with hl | hge
  · rw [List.drop_eq_getElem_cons hl] at q2
    simp only [wLcG] at q2
    obtain ⟨hP, q2⟩ := q2
    obtain ⟨k1, k2, k3⟩ := jok _ G2 H2 e2 _ fp2 S2 gl2.1 hP
    refine .inr ⟨k1 i hl, fun H' => ∃ G' e acc, e.length = σ.length ∧ Gle F G1 G' ∧ Tmp K F G' H' s0 e (wipe σ own) (.l acc) (.ref D) ∧ wLcG own g t w P (items.drop (i + 1)) acc e (fun os e' => Qd (.o (.l os)) (restE e1 own e')), fun H' ⟨G', e, acc, a0, a1, a2, a3⟩ => ⟨items.length - (i + 1), by omega, rfl, hl, G', e, acc, a0, a1, a2, a3⟩, fun x H' hy => ?_⟩
    obtain ⟨G3, R3, hh⟩ := k3 i _ x H' (List.getElem?_eq_getElem hl) hy
    have S3 : ∃ gl : Gle (addF F H2 f) G2 G3, Sim K (addF F H2 f) G3 H' s0 e2 (wipe σ own) fp2 := by
      rcases hh with ⟨rfl, rfl⟩ | ⟨p, o, hp, rfl, rfl⟩
      · exact ⟨Gle.refl _ _, S2⟩
      · exact ⟨Gle.data S2.fh S2.gh hp, S2.data hp⟩
    obtain ⟨gl3, S3⟩ := S3
    have hF : Same F (addF F H2 f) := addF_le fun a ha => (own2 a ha).2.2
    refine ⟨_, G3, s0, e2, fp2, _, _, S3, R3, q2, fun σ4 e4 ⟨fp4, S4⟩ hwp q4 => ⟨hwp.trans wipe_wipe, _, G3, s0, e4, fp4, _, S4, q4, fun c e5 G5 H5 gl5 ⟨fp5, S5⟩ q5 => ?_⟩⟩
    have hw4 : wipe σ4 own = wipe σ own := hwp.trans wipe_wipe
    have ln5 : e5.length = σ.length := by rw [S5.len, ← wipe_length σ4 own, hw4, wipe_length]
    have hidden : ∀ {G6 H6 : Hp} {F6 : Hp} {e6 : Env} {fp6 : Nat → List Addr}, Sim K F6 G6 H6 s0 e6 σ4 fp6 → e6.length = σ.length → SimE K F6 G6 H6 s0 (hideR e6 own) (wipe σ own) := fun S6 l6 => by
      have := S6.hide (own := own) (fun j hj => by rw [l6]; exact hlt j hj)
      rw [hw4] at this
      exact this
    cases c with
    | true =>
      replace q5 := q5.tt
      simp only [if_true]
      refine ⟨_, G5, s0, e5, fp5, _, S5, q5, fun o y e6 G6 H6 gl6 E6 q6 => ?_⟩
      have glx : Gle (addF F H2 f) G2 G6 := (gl3.trans gl5).trans gl6
      obtain ⟨fp6, f6, n6, T6, S6⟩ := E6
      have ln6 : e6.length = σ.length := by rw [S6.len, ← wipe_length σ4 own, hw4, wipe_length]
      obtain ⟨fp7, S7⟩ := hidden S6 ln6
      obtain ⟨vs, hDl, hln, TT⟩ := Tmp.snoc nf T2 glx ⟨fp7, f6, n6, T6, S7⟩
      refine ⟨vs, hDl, by rw [hln]; exact Nat.lt_of_lt_of_le q6.1 (mil (Nat.le_refl _)), G6, _, acc ++ [o], by rw [hideR_length]; exact ln6, gl2.trans (glx.anti hF), TT, q6.2⟩
    | false =>
      replace q5 := q5.ff
      simp only [Bool.false_eq_true, if_false]
      have glx : Gle (addF F H2 f) G2 G5 := gl3.trans gl5
      obtain ⟨fp7, S7⟩ := hidden S5 ln5
      have T5 := T2.held glx S5.fh
      have same5 := held_same (fun a ha => (own2 a ha).1) S5.fh
      refine ⟨G5, _, acc, by rw [hideR_length]; exact ln5, gl2.trans (glx.anti hF), ⟨fp7, f, nf, T5, ?_⟩, q5⟩
      have : addF F H5 f = addF F H2 f := by
        funext b
        by_cases hb : b ∈ f
        · rw [addF_in hb, addF_in hb, same5 b hb]
        · rw [addF_out hb, addF_out hb]
      rw [this]; exact S7
  · have e : i = items.length := by omega
    subst e
    rw [List.drop_length] at q2
    simp only [wLcG] at q2
    obtain ⟨hP, q2⟩ := q2
    obtain ⟨k1, k2, k3⟩ := jok _ G2 H2 e2 _ fp2 S2 gl2.1 hP
    refine .inl ⟨k2, ?_⟩
    obtain ⟨fp3, S3⟩ := S2.rest (σ := σ) (e0 := e1) nd (fun j hj => by rw [ln2]; exact hlt j hj) (fun j hj => S1.keep gl2.1 (by rw [ln1]; exact hlt j hj))
    exact k (.o (.l acc)) (.ref D) _ G2 H2 (gl1.trans gl2) ⟨fp3, f, nf, T2, S3⟩ q2
end
theorem own_lt {N : List Str} {sc scope : Scope} {own : List (Str × Nat)} (ok : BlkOk N sc scope own) : ∀ j ∈ own.map (·.2), j < N.length := fun j hj => by
  obtain ⟨p, hp, rfl⟩ := List.mem_map.mp hj
  exact (List.getElem?_eq_some_iff.mp (ok.ix p hp)).1
theorem d_lc {X : Cx} {elt tg iter : Expr} {ifs : List Expr} {scope : Scope} {own : List (Str × Nat)} {pos : Pos} {wi : WI} {g : WG} {t : WT} {w : WO} (nd : (own.map (·.2)).Nodup) (hc : X.calm = true) (hN : X.N.Nodup) (hi : PI X tg iter (rdI X.K wi)) (ok : BlkOk X.N X.env.scope scope own)
    (hg : ∀ (s : Shared) (H : Hp) (C : Addr) (cl : List (Str × Addr)) (fp : List Addr), PG (X.blk s H scope (compEnvC scope cl C X.env) fp) tg (rdGO X.K (own.map (·.2)) g)) (ht : ∀ (s : Shared) (H : Hp) (C : Addr) (cl : List (Str × Addr)) (fp : List Addr), PTs (X.blk s H scope (compEnvC scope cl C X.env) fp) ifs (rdT X.K t))
    (he : ∀ (s : Shared) (H : Hp) (C : Addr) (cl : List (Str × Addr)) (fp : List Addr), PE (X.blk s H scope (compEnvC scope cl C X.env) fp) elt (rdO X.K w)) (hs : ∀ x, foldedSetIterable iter X.env x = pure x) :
    PE X (.ListComp elt [⟨tg, iter, ifs, 0⟩] scope pos) (rdE X.K (wLc wi (own.map (·.2)) g t w)) :=
  ⟨fun pins s σ H Q I h => (pe_lc hc hN hi ok hg ht he hs).run pins s σ H Q I (lc_rd nd (fun j hj => by rw [I.len]; exact own_lt ok j hj) h)⟩
/-- name = [..] on one line -/
theorem s_setLc {X : Cx} {i : Nat} {y : Str} {py : Pos} {elt tg iter : Expr} {ifs : List Expr} {scope : Scope} {own : List (Str × Nat)} {pos spos : Pos} {wi : WI} {g : WG} {t : WT} {w : WO} (nd : (own.map (·.2)).Nodup) (hc : X.calm = true) (hN : X.N.Nodup) (hy : X.N[i]? = some y) (hyl : X.env.scope.names.lookup y = some .local)
    (hsw : swapsWith (.ListComp elt [⟨tg, iter, ifs, 0⟩] scope pos) (some (.Name y py)) spos.line X.env = pure true) (hi : PI X tg iter (rdI X.K wi)) (ok : BlkOk X.N X.env.scope scope own)
    (hg : ∀ (s : Shared) (H : Hp) (C : Addr) (cl : List (Str × Addr)) (fp : List Addr), PG (X.blk s H scope (compEnvC scope cl C X.env) fp) tg (rdGO X.K (own.map (·.2)) g)) (ht : ∀ (s : Shared) (H : Hp) (C : Addr) (cl : List (Str × Addr)) (fp : List Addr), PTs (X.blk s H scope (compEnvC scope cl C X.env) fp) ifs (rdT X.K t))
    (he : ∀ (s : Shared) (H : Hp) (C : Addr) (cl : List (Str × Addr)) (fp : List Addr), PE (X.blk s H scope (compEnvC scope cl C X.env) fp) elt (rdO X.K w)) (hs : ∀ x, foldedSetIterable iter X.env x = pure x) :
    PS X (.Assign [.Name y py] (.ListComp elt [⟨tg, iter, ifs, 0⟩] scope pos) spos) (tAsg (rdE X.K (wLc wi (own.map (·.2)) g t w)) (gName i)) :=
  ⟨fun pins s σ H D I h => (ps_setLc hc hN hy hyl hsw hi ok hg ht he hs).run pins s σ H D I (lc_rd nd (fun j hj => by rw [I.len]; exact own_lt ok j hj) h)⟩
end Bv
end SBvM
section SBvN
set_option linter.all false
set_option Elab.async false
open PySem PySem.Spec PyProof.Rows L2
namespace Bv
section
variable {K : PySem.W.Frag} {G G' H H' F F' : Hp} {s0 σ : L2.St} {env : Env} {fp : Nat → List Addr} {a : Addr}
/-! ### targets slot[e] -/
def gI (j : Nat) (wi : WD) : WG := fun x e Q => isLst (placeOf e j) = true ∧ wi e (setQ j x Q)
theorem g_sub {X : Cx} {tg : Expr} {j : Nat} {wi : WD} (h : PG X tg (gSub (tVar j) (rdD X.K wi) rSetL)) : PG X tg (rdG X.K (gI j wi)) := PGimp h fun v σ H Q ⟨F, G, s0, env, fp, x, Qd, S1, R, ⟨hl, q⟩, kk⟩ => by
  obtain ⟨a, vs, hv, ha⟩ := lst_at S1 hl
  refine ⟨.ref a, hv, F, G, s0, env, fp, setQ j x Qd, S1, q, fun y u e2 G2 H2 gl2 ⟨fp2, S2⟩ R2 q2 => ?_⟩
  unfold setQ at q2
  split at q2
  · rename_i r p os ep
    obtain ⟨a', vs', f, h1, h2, T, nf, na, mk⟩ := mutL S2 ep
    cases sig_same hv h1
    obtain ⟨n, k, o, z, f2, rfl, e4, hat, e5, e6, T2, q3⟩ := ixS_ok R2 T q2
    exact ⟨a, vs', n, k, rfl, rfl, h2, e5, kk _ _ G2 _ gl2 (mk _ _ (TRL.setD (R.mono gl2.1) k T nf)) q3⟩
  · exact q2.elim
/-! ### simple indices: a slot's int, a constant -/
inductive Sx where
  | v (i : Nat) | c (n : Int)
def sxV (e : Env) : Sx → Option Int
  | .c n => some n
  | .v i => match sget e i with
    | .t (.d (.int n)) => some n
    | .a (.d (.int n)) => some n
    | _ => none
def tSx : Sx → TE
  | .v i => tVar i
  | .c n => tC (.int n)
theorem sx_ok {sx : Sx} {n : Int} {Q : VK} (S : Sim K F G H s0 env σ fp) (h : sxV env sx = some n) (q : Q (.int n) H) : tSx sx σ H Q := by
  cases sx with
  | c m => cases h; exact q
  | v i =>
    have sl := S.sl i
    simp only [sxV] at h
    split at h
    · rename_i m e
      cases h
      rw [e] at sl
      obtain ⟨v, h1, T⟩ := sl
      simp only [TR, Rep] at T
      obtain ⟨rfl, _⟩ := T
      exact ⟨_, h1, q⟩
    · rename_i m e
      cases h
      rw [e] at sl
      obtain ⟨v, h1, _, T⟩ := sl
      simp only [TR, Rep] at T
      obtain ⟨rfl, _⟩ := T
      exact ⟨_, h1, q⟩
    · cases h
def ixPQ (sx : Sx) (Q : EV → Env → Prop) (ev : EV) (e : Env) : Prop := match ev with
  | .o _ => False
  | ev => match sxV e sx with
    | some n => (match view e ev with
      | some (_, os) => ixS e (.int n) os (ixQ e Q)
      | none => False)
    | none => False
def wIxP (w : WE) (sx : Sx) : WE := fun env Q => wP w env (ixPQ sx Q)
theorem d_ixP {X : Cx} {a b : Expr} {w : WE} {sx : Sx} {pos : Pos} (ha : PE X a (rdE X.K w)) (hb : PE X b (tSx sx)) (hs : PlainIx b) : PE X (.Subscript a b pos) (rdE X.K (wIxP w sx)) :=
  PEimp (pe_ix ix_A (d_peek ha) hb hs) fun σ H Q ⟨F, G, s0, env, fp, Qd, S, hw, k⟩ => ⟨F, G, s0, env, fp, ixPQ sx Qd, S, hw, fun ev v e1 G1 H1 gl1 evs q => by
    have hno : ∀ t, ev ≠ .o t := fun t z => by subst z; exact q
    obtain ⟨fp1, S1⟩ := evs.sim hno
    have q' : match sxV e1 sx with
        | some n => (match view e1 ev with
          | some (_, os) => ixS e1 (.int n) os (ixQ e1 Qd)
          | none => False)
        | none => False := by
      cases ev with
      | o t => exact absurd rfl (hno t)
      | _ => exact q
    cases es : sxV e1 sx with
    | none => rw [es] at q'; exact q'.elim
    | some n =>
      rw [es] at q'
      simp only at q'
      cases ev2 : view e1 ev with
      | none => rw [ev2] at q'; exact q'.elim
      | some bo =>
        obtain ⟨bb, os⟩ := bo
        rw [ev2] at q'
        obtain ⟨g, a', vs, F', f', rfl, ht, hl, T⟩ := view_ok evs ev2
        obtain ⟨n', kk, o, z, f2, en, e4, hat, _, _, T2, q3⟩ := ixS_ok (u := .int n) (K := X.K) (G := G1) (y := .int n) (by simp only [Rep]) T q'
        cases en
        refine sx_ok S1 es ?_
        cases o with
        | d x =>
          simp only [TR] at T2
          have fin : Q z H1 := k (.d x) z e1 G1 H1 gl1 ⟨⟨fp1, S1⟩, T2.1⟩ q3
          cases bb with
          | true => exact .inr ⟨a', vs, n, z, rfl, rfl, same_t g (ht rfl), hat, fin⟩
          | false => exact .inl ⟨a', vs, n, z, rfl, rfl, hl rfl, hat, fin⟩
        | _ => exact q3.elim⟩
/-! ### name[e][i] = e, by the way -/
theorem mutP {r : Nat} {p : List Nat} {os : List OT} {o : OT} {v0 v : V} (S : Sim K F G H s0 env σ fp) (h1 : treeOf env r = some o) (h2 : nodeAt p o = some (.l os)) (h3 : σ[r]? = some (some v0)) (h4 : walk H v0 p = some v) :
    ∃ a vs f, v = .ref a ∧ H a = some (.lst vs) ∧ TRL K G F H os vs f ∧ f.Nodup ∧ a ∉ f ∧
      ∀ os' vs', (∃ f', (∀ b ∈ f', b ∈ f) ∧ f'.Nodup ∧ TRL K G F H os' vs' f') → SimE K F G (upd H a (.lst vs')) s0 (mutE env r p (.l os')) σ := by
  obtain ⟨v0', e0, T0⟩ := S.tree h1
  rw [h3] at e0; cases e0
  obtain ⟨w, f, ew, T, _, nf⟩ := T0.at h2
  rw [h4] at ew; cases ew
  have nf := nf (S.nd _)
  simp only [TR] at T
  obtain ⟨a, vs, f1, rfl, rfl, e1, e2, e3, e4⟩ := T
  obtain ⟨n1, n2⟩ := List.nodup_cons.mp nf
  refine ⟨a, vs, f1, rfl, e1, e4, n2, n1, fun os' vs' ⟨f', k1, k2, k3⟩ => ?_⟩
  have k4 : TRL K G F (upd H a (.lst vs')) os' vs' f' := k3.frame os' (Same.refl G) fun b hb => by
    obtain ⟨_, q2, q3⟩ := k3.own os' b hb
    exact ⟨upd_ne fun z => n1 (z ▸ k1 b hb), q2, q3⟩
  obtain ⟨f2, S2⟩ := S.mutate (u := .lst vs') (o2 := .l os') h1 h2 h3 h4 (fun g hg => by
      simp only [TR] at hg
      obtain ⟨a', _, _, ea, rfl, _⟩ := hg
      cases ea
      exact List.mem_cons_self) (fun g hg ng => by
      simp only [TR] at hg
      obtain ⟨a', vs2, g1, ea, rfl, q1, q2, q3, q4⟩ := hg
      cases ea
      rw [e1] at q1; cases q1
      rw [TRL_uniq os q4 e4] at ng ⊢
      refine ⟨a :: f', fun b hb => ?_, List.nodup_cons.mpr ⟨fun z => n1 (k1 a z), k2⟩, ?_⟩
      · rcases List.mem_cons.mp hb with z | z
        · rw [z]; exact List.mem_cons_self
        · exact List.mem_cons_of_mem _ (k1 b z)
      · simp only [TR]
        exact ⟨a, vs', f', rfl, rfl, upd_same, e2, e3, k4⟩)
  exact ⟨fpSet fp r f2, by unfold mutE; rw [h1]; exact S2⟩
def placeP (e : Env) (j : Nat) (p : List Nat) : Option (List OT) := match treeOf e j with
  | some o => match nodeAt p o with
    | some (.l os) => some os
    | _ => none
  | none => none
def setPQ (sx : Sx) (x : D) (Q : Env → Prop) (ev : EV) (e : Env) : Prop := match ev with
  | .p j p => (match sxV e sx with
    | some n => (match placeP e j p with
      | some os => ixS e (.int n) os fun _ k => Q (mutE e j p (.l (os.set k (.d x))))
      | none => False)
    | none => False)
  | _ => False
def wSetP (wp : WE) (sx : Sx) (w : WD) : WS := fun env P => w env fun x e1 => wp e1 (setPQ sx x P.nx)
theorem s_setP {X : Cx} {st : Stmt} {wp : WE} {sx : Sx} {w : WD} (h : PS X st (tAsg (rdD X.K w) (gSub (rdE X.K wp) (tSx sx) rSetL))) : PS X st (rdS X.K (wSetP wp sx w)) :=
  PSimp h fun D σ H ⟨F, G, s0, env, fp, P, S, hw, sat⟩ => ⟨F, G, s0, env, fp, _, S, hw, fun x v e1 G1 H1 gl1 ⟨fp1, S1⟩ R q =>
    ⟨F, G1, s0, e1, fp1, setPQ sx x P.nx, S1, q, fun ev u e2 G2 H2 gl2 evs q2 => by
      cases ev with
      | p j p =>
        simp only [setPQ] at q2
        obtain ⟨⟨fp2, S2⟩, v0, hv0, hw2⟩ := evs
        cases es : sxV e2 sx with
        | none => rw [es] at q2; exact q2.elim
        | some n =>
          rw [es] at q2
          simp only at q2
          unfold placeP at q2
          cases et : treeOf e2 j with
          | none => rw [et] at q2; exact q2.elim
          | some o =>
            rw [et] at q2
            simp only at q2
            cases en : nodeAt p o with
            | none => rw [en] at q2; exact q2.elim
            | some o1 =>
              rw [en] at q2
              cases o1 with
              | l os =>
                simp only at q2
                obtain ⟨a, vs, f, rfl, h2, T, nf, na, mk⟩ := mutP S2 et en hv0 hw2
                obtain ⟨n', kk, o', z, f2, eq, e4, hat, e5, e6, T2, q3⟩ := ixS_ok (u := .int n) (K := X.K) (G := G2) (y := .int n) (by simp only [Rep]) T q2
                cases eq
                refine sx_ok S2 es ?_
                exact ⟨a, vs, n, kk, rfl, rfl, h2, e5, sat.1 _ _ G2 _ (gl1.trans gl2) (mk _ _ (TRL.setD (R.mono gl2.1) kk T nf)) q3⟩
              | _ => exact q2.elim
      | _ => exact q2.elim⟩⟩
/-! ### sum -/
def intsD : List D → Option (List Int)
  | [] => some []
  | .int n :: r => match intsD r with
    | some ns => some (n :: ns)
    | none => none
  | _ :: _ => none
theorem ints_rep : ∀ {xs : List D} {vs : List V} {ns : List Int}, RepL K G xs vs → intsD xs = some ns → vs = ns.map V.int
  | [], vs, ns, R, e => by
    simp only [RepL] at R
    cases e
    exact R
  | x :: xs, vs, ns, R, e => by
    simp only [RepL] at R
    obtain ⟨v, r, rfl, h1, h2⟩ := R
    cases x with
    | int n =>
      simp only [intsD] at e
      cases e2 : intsD xs with
      | none => rw [e2] at e; cases e
      | some ms =>
        rw [e2] at e
        cases e
        simp only [Rep] at h1
        rw [h1, ints_rep h2 e2]; rfl
    | _ => cases e
theorem sumT_raw {prog : Program} {w : World} {A : Around} {E : Value → Shared → Prop} {s : Shared} {Q : Value → Shared → Prop} {l : Addr} {its : List Value} {ns : List Int} (hh : A.handled = none) (hl : s.heap.IsTuple l its.toArray) (hi : IntsAre its ns)
    (h : ∀ h' tk t', (∀ b o, s.heap.get? b = some o → h'.get? b = some o) → Q (.int ns.sum t') { s with heap := h', toks := tk }) : wpAny (model prog w) A (call (.builtin "sum") [.ref l]) Q E s := by
  obtain ⟨xs, e⟩ := hi.allInts.items
  have hn : numsOf (intItems xs).toList = ns := by rw [← e]; exact hi.numsOf
  rw [nums_intItems] at hn
  rw [e] at hl
  have hlt : l < s.heap.objs.size := by obtain ⟨_, e, _⟩ := hl; exact Heap.lt_size e
  have hlt2 : l < (s.heap.push { cls := .type "tuple_iterator", data := .fields #[.ref l, .int 0 0] }).objs.size := by rw [Heap.size_push]; exact Nat.lt_succ_of_lt hlt
  have hl2 : (s.heap.push { cls := .type "tuple_iterator", data := .fields #[.ref l, .int 0 0] }).IsTuple l (intItems xs) := by
    obtain ⟨o, e, c, m, d⟩ := hl
    exact ⟨o, Heap.get?_push_of_some _ e, c, m, d⟩
  refine PySem.call_sum_walkG (wpAny_pyIter_tuple hl ?_)
  refine ⟨_, _, _, _, _, _, numAt xs, rfl, Walks.tuple (A := A.in1) hh _ l (Nat.ne_of_lt hlt) (intItems xs), ⟨⟨_, Heap.get?_push_size _ rfl, rfl, rfl⟩, hl2⟩, fun b hb => ?_, (fun _ _ => intItems_at), fun h' tk t' hk => ?_⟩
  · show b < (s.heap.push _).objs.size
    rcases List.mem_cons.mp hb with rfl | hb
    · rw [Heap.size_push]; exact Nat.lt_succ_self _
    · rcases List.mem_cons.mp hb with rfl | hb
      · exact hlt2
      · cases hb
  · have hk2 : ∀ b o, s.heap.get? b = some o → h'.get? b = some o := fun b o e => hk b o (fun z => by
      have := List.mem_singleton.mp z
      exact absurd (Heap.lt_size e) (by rw [this]; exact Nat.lt_irrefl _)) (Heap.get?_push_of_some _ e)
    have := h h' tk t' hk2
    rw [preSum_eq, List.take_of_length_le (by simp [intItems]), hn]
    exact this
def rSumA (K : PySem.W.Frag) : List V → Hp → VK → Prop := fun vs H Q => ∃ (a : Addr) (ns : List Int) (t : Bool), vs = [V.ref a] ∧ SQ K t H a (ns.map V.int) ∧ Q (.int ns.sum) H
theorem cr_sumA {X : Cx} (hc : X.calm = true) : CallR X (.builtin "sum") (rSumA X.K) := by
  intro pins s σ H vs us Q I r h
  obtain ⟨a, ns, t, rfl, hs, q⟩ := h
  cases t with
  | false => exact cr_sum hc pins s σ H [.ref a] us Q I r ⟨a, ns, rfl, hs, q⟩
  | true =>
    obtain ⟨its, rv, hl, _⟩ := I.tuple (show SqT X.K H a _ from hs)
    rw [Vals.ref1 r]
    exact sumT_raw (I.ok.hd hc) hl rv.ints fun h' tk t' hk => ⟨.int _, H, I.kept hk, ⟨_, rfl⟩, q⟩
def bSum (xs : List D) (Q : EV → Prop) : Prop := match xs with
  | [x] => (match seqD x with
    | some ys => (match intsD ys with
      | some ns => Q (.d (.int ns.sum))
      | none => False)
    | none => False)
  | _ => False
theorem cs_sum : CS K (rSumA K) bSum := by
  intro F G H s0 env σ xs vs Q Qd ⟨fp, S⟩ R q k
  unfold bSum at q
  split at q
  · rename_i x
    simp only [RepL] at R
    obtain ⟨v, r, rfl, r1, rfl⟩ := R
    split at q
    · rename_i ys ey
      split at q
      · rename_i ns en
        obtain ⟨a, us, t, rfl, sq, R1⟩ := seqD_ok r1 ey
        have := ints_rep R1 en
        subst this
        exact ⟨a, ns, t, rfl, sq G H (Same.refl G) S.gh, k (.d (.int ns.sum)) _ G H (Gle.refl F G) ⟨⟨fp, S⟩, by simp only [Rep]⟩ q⟩
      · exact q.elim
    · exact q.elim
  · exact q.elim
/-! ### slot.f = e -/
def setAQ (ao : Addr → Nat → Prop) (j k : Nat) (Q : Env → Prop) (x : D) (e : Env) : Prop := match treeOf e j with
  | some (.o C fs) => ao C k ∧ fs.length < 100 ∧ Q (mutE e j [] (.o C (setF k x fs)))
  | _ => False
def wSetA (ao : Addr → Nat → Prop) (j k : Nat) (w : WD) : WS := fun env P => w env (setAQ ao j k P.nx)
theorem s_setA {X : Cx} {ao : Addr → Nat → Prop} {st : Stmt} {j k : Nat} {w : WD} (hao : AO X.K ao) (h : PS X st (sFld X.K (tVar j) (rdD X.K w) (nm k))) : PS X st (rdS X.K (wSetA ao j k w)) :=
  PSimp h fun D σ H ⟨F, G, s0, env, fp, P, S, hw, sat⟩ => ⟨F, G, s0, env, fp, setAQ ao j k P.nx, S, hw, fun x v e1 G1 H1 gl1 ⟨fp1, S1⟩ R q => by
    unfold setAQ at q
    split at q
    · rename_i C fs et
      obtain ⟨hc, hl, q⟩ := q
      obtain ⟨hk, c, n⟩ := hao C k hc
      obtain ⟨v0, hv0, T⟩ := S1.tree et
      have T' := T
      simp only [TR] at T
      obtain ⟨a, dx, ws, rfl, ef, h1, h2, h3, h4⟩ := T
      refine ⟨.ref a, hv0, a, C, dx, ws, rfl, h1, c, n, by rw [← h4.length]; omega, ?_⟩
      obtain ⟨f2, S2⟩ := S1.mutate (p := []) (o1 := .o C fs) (u := .ins C dx (putF (nm k) v ws)) (o2 := .o C (setF k x fs)) et rfl hv0 rfl (fun g hg => by
          simp only [TR] at hg
          obtain ⟨a', _, _, ea, rfl, _⟩ := hg
          cases ea
          exact List.mem_cons_self) (fun g hg ng => by
          simp only [TR] at hg
          obtain ⟨a', dx', ws', ea, rfl, q1, q2, q3, q4⟩ := hg
          cases ea
          rw [h1] at q1; cases q1
          refine ⟨[a], fun b hb => hb, by simp, ?_⟩
          simp only [TR]
          exact ⟨a, dx, _, rfl, rfl, upd_same, h2, h3, q4.put hk R⟩)
      refine sat.1 σ _ G1 _ gl1 ⟨_, S2⟩ ?_
      have : mutE e1 j [] (.o C (setF k x fs)) = sset (clrx j [] e1) j ((sget e1 j).put (nodeSet [] (.o C fs) (.o C (setF k x fs)))) := by unfold mutE; rw [et]
      rw [← this]; exact q
    · exact q.elim⟩
/-! ### defs -/
def argF : SV → SV
  | .t (.d x) => .t (.d x)
  | .t o => .a o
  | s => s
def frameE (nN : Nat) (as : List SV) : Env := as.map argF ++ List.replicate (nN - as.length) .no
def outF : SV → SV
  | .a o => .t o
  | _ => .no
def outsE : Nat → Env → List SV
  | 0, _ => []
  | n + 1, [] => .no :: outsE n []
  | n + 1, x :: r => outF x :: outsE n r
def retQ (n : Nat) (Q : EV → Env → Prop) (ev : EV) (e : Env) : Prop := match ev with
  | .d x => Q (.d x) (outsE n e)
  | .o t => Q (.o t) (outsE n e)
  | .s j => (match sget e j with
    | .a _ => j < n ∧ Q (.s j) (outsE n e)
    | .t o => Q (.o o) (outsE n e)
    | _ => False)
  | .p _ _ => False
def fnP (n : Nat) (Q : EV → Env → Prop) : PP := ⟨fun e => Q (.d .non) (outsE n e), retQ n Q, fun _ => False, fun _ => False⟩
def bodyW (n nN : Nat) (w : WS) : WE := fun as Q => w (frameE nN as) (fnP n Q)
theorem sget_append_l : ∀ {e r : Env} {i : Nat}, i < e.length → sget (e ++ r) i = sget e i
  | [], _, _, h => absurd h (by simp)
  | x :: e, r, 0, _ => rfl
  | x :: e, r, i + 1, h => sget_append_l (e := e) (by simpa using h)
theorem sget_append_r : ∀ {e r : Env} {i : Nat}, e.length ≤ i → sget (e ++ r) i = sget r (i - e.length)
  | [], _, _, _ => rfl
  | x :: e, r, 0, h => absurd h (by simp)
  | x :: e, r, i + 1, h => by
    have := sget_append_r (e := e) (r := r) (i := i) (by simpa using h)
    show sget (e ++ r) i = _
    rw [this]; congr 1; simp
theorem sget_no : ∀ {n i : Nat}, sget (List.replicate n .no) i = .no
  | 0, i => by cases i <;> rfl
  | n + 1, 0 => rfl
  | n + 1, i + 1 => sget_no (n := n)
theorem sget_frame {nN : Nat} {as : List SV} {i : Nat} : sget (frameE nN as) i = argF (sget as i) := by
  unfold frameE
  rcases Nat.lt_or_ge i as.length with h | h
  · rw [sget_append_l (by simpa using h), sget_map rfl]
  · rw [sget_append_r (by simpa using h), sget_no, sget_of_le h]; rfl
theorem sget_outs : ∀ {n : Nat} {e : Env} {i : Nat}, sget (outsE n e) i = if i < n then outF (sget e i) else .no
  | 0, e, i => by cases e <;> cases i <;> rfl
  | n + 1, [], 0 => rfl
  | n + 1, x :: r, 0 => rfl
  | n + 1, [], i + 1 => by
    show sget (outsE n []) i = _
    rw [sget_outs]
    by_cases h : i < n
    · rw [if_pos h, if_pos (by omega)]; rfl
    · rw [if_neg h, if_neg (by omega)]
  | n + 1, x :: r, i + 1 => by
    show sget (outsE n r) i = if _ then outF (sget r i) else _
    rw [sget_outs]
    by_cases h : i < n
    · rw [if_pos h, if_pos (by omega)]
    · rw [if_neg h, if_neg (by omega)]
theorem outs_length : ∀ {n : Nat} {e : Env}, (outsE n e).length = n
  | 0, e => by cases e <;> rfl
  | n + 1, [] => by simp [outsE, outs_length]
  | n + 1, x :: r => by simp [outsE, outs_length]
theorem start_get {N : List Str} {vs : List V} {i : Nat} {v : V} (h : (vs.map some)[i]? = some (some v)) : (L2.start N vs)[i]? = some (some v) := by
  unfold L2.start
  have hi : i < (vs.map some).length := (List.getElem?_eq_some_iff.mp h).1
  rw [List.getElem?_append_left hi]
  exact h
theorem start_get' {N : List Str} {vs : List V} {i : Nat} (hi : i < vs.length) : (L2.start N vs)[i]? = (vs.map some)[i]? := by
  unfold L2.start
  rw [List.getElem?_append_left (by simpa using hi)]
/-- the def's own frame -/
theorem frame_ok {N : List Str} {vs : List V} {as : List SV} (hl : vs.length ≤ N.length) (ht : ∀ sv ∈ as, ∃ o, sv = SV.t o) (S : Sim K F G H [] as (vs.map some) fp) : Sim K F G H (L2.start N vs) (frameE N.length as) (L2.start N vs) fp := by
  have ln : as.length = vs.length := by rw [S.len, List.length_map]
  refine ⟨S.gh, S.fh, S.nd, S.dj, fun i => ?_, by simp [frameE, L2.start, ln]⟩
  have q := S.sl i
  rw [sget_frame]
  cases e : sget as i with
  | no => rw [e] at q; exact q
  | t o =>
    rw [e] at q
    obtain ⟨v, h1, T⟩ := q
    cases o with
    | d x => exact ⟨v, start_get h1, T⟩
    | l _ => exact ⟨v, start_get h1, start_get h1, T⟩
    | k _ => exact ⟨v, start_get h1, start_get h1, T⟩
    | o _ _ => exact ⟨v, start_get h1, start_get h1, T⟩
  | a o =>
    exfalso
    have : sget as i ∈ as := by
      rcases Nat.lt_or_ge i as.length with h | h
      · have : ∀ {e : Env} {i : Nat}, i < e.length → sget e i ∈ e := by
          intro e
          induction e with
          | nil => intro i h; exact absurd h (by simp)
          | cons x r ih => intro i h; cases i with
            | zero => exact List.mem_cons_self
            | succ i => exact List.mem_cons_of_mem _ (ih (by simpa using h))
        exact this h
      · rw [sget_of_le h] at e; cases e
    obtain ⟨o', ho⟩ := ht _ this
    rw [e] at ho; cases ho
  | al k p =>
    exfalso
    have : sget as i ∈ as := by
      rcases Nat.lt_or_ge i as.length with h | h
      · have : ∀ {e : Env} {i : Nat}, i < e.length → sget e i ∈ e := by
          intro e
          induction e with
          | nil => intro i h; exact absurd h (by simp)
          | cons x r ih => intro i h; cases i with
            | zero => exact List.mem_cons_self
            | succ i => exact List.mem_cons_of_mem _ (ih (by simpa using h))
        exact this h
      · rw [sget_of_le h] at e; cases e
    obtain ⟨o', ho⟩ := ht _ this
    rw [e] at ho; cases ho
/-- what is left of it for the caller -/
def fpO (n : Nat) (e : Env) (fp : Nat → List Addr) (i : Nat) : List Addr := if (isA (sget e i) && decide (i < n)) = true then fp i else []
theorem outs_ok {N : List Str} {vs : List V} {e : Env} {n : Nat} (hn : vs.length = n) (S : Sim K F G H (L2.start N vs) e σ fp) : Sim K F G H [] (outsE n e) (vs.map some) (fpO n e fp) := by
  have sub : ∀ {i b}, b ∈ fpO n e fp i → b ∈ fp i := fun {i b} h => by
    unfold fpO at h
    split at h
    · exact h
    · cases h
  refine ⟨S.gh, S.fh, fun i => ?_, fun i j a h1 h2 => S.dj i j a (sub h1) (sub h2), fun i => ?_, by rw [outs_length, List.length_map, hn]⟩
  · unfold fpO
    split
    · exact S.nd i
    · exact List.nodup_nil
  · rw [sget_outs]
    have q := S.sl i
    by_cases h : i < n
    · rw [if_pos h]
      cases es : sget e i with
      | a o =>
        rw [es] at q
        obtain ⟨v, h1, h0, T⟩ := q
        rw [start_get' (by omega)] at h0
        have ef : fpO n e fp i = fp i := by unfold fpO; rw [es]; simp [isA, h]
        rw [ef]
        exact ⟨v, h0, T⟩
      | no => show fpO n e fp i = []; unfold fpO; rw [es]; rfl
      | t o => show fpO n e fp i = []; unfold fpO; rw [es]; rfl
      | al k p => show fpO n e fp i = []; unfold fpO; rw [es]; rfl
    · rw [if_neg h]
      show fpO n e fp i = []
      unfold fpO
      rw [if_neg (by simp [h])]
theorem fn_sat {N : List Str} {vs : List V} {n : Nat} {Qd : EV → Env → Prop} {Q : VK} (hn : vs.length = n)
    (k : ∀ ev v outs G' H', Gle F G G' → EVS K F G' H' [] outs (vs.map some) ev v → Qd ev outs → Q v H') : Sat K F G (L2.start N vs) (fnP n Qd) { nx := fun _ H' => Q .non H', rt := Q } := by
  refine ⟨fun σ' e G' H' gl ⟨fp', S'⟩ q => ?_, fun ev v σ' e G' H' gl evs q => ?_, fun _ _ _ _ _ _ z => z.elim, fun _ _ _ _ _ _ z => z.elim⟩
  · exact k (.d .non) .non _ G' H' gl ⟨⟨_, outs_ok hn S'⟩, by simp only [Rep]⟩ q
  · cases ev with
    | d x =>
      obtain ⟨⟨fp', S'⟩, R⟩ := evs
      exact k (.d x) v _ G' H' gl ⟨⟨_, outs_ok hn S'⟩, R⟩ q
    | o t =>
      obtain ⟨fp', f, nf, T, S'⟩ := evs
      exact k (.o t) v _ G' H' gl ⟨_, f, nf, T, outs_ok hn S'⟩ q
    | s j =>
      obtain ⟨⟨fp', S'⟩, hv⟩ := evs
      have q : (match sget e j with
        | .a _ => j < n ∧ Qd (.s j) (outsE n e)
        | .t o => Qd (.o o) (outsE n e)
        | _ => False) := q
      have sl := S'.sl j
      cases es : sget e j with
      | a o =>
        rw [es] at q sl
        obtain ⟨v', h1, h0, T⟩ := sl
        rw [hv] at h1; cases h1
        rw [start_get' (by have := q.1; omega)] at h0
        exact k (.s j) v _ G' H' gl ⟨⟨_, outs_ok hn S'⟩, h0⟩ q.2
      | t o =>
        rw [es] at q sl
        obtain ⟨v', h1, T⟩ := sl
        rw [hv] at h1; cases h1
        have So := outs_ok hn S'
        refine k (.o o) v _ G' H' gl ⟨_, fp' j, S'.nd j, T, So.grow (Same.refl G') So.gh (addF_same So.fh) fun i a ha => ?_⟩ q
        obtain ⟨_, q2, q3⟩ := So.own ha
        refine ⟨rfl, q2, (addF_out fun z => ?_).trans q3⟩
        unfold fpO at ha
        split at ha
        · rename_i hc
          have := S'.dj i j a ha z
          subst this
          rw [es] at hc
          cases hc
        · cases ha
      | no => rw [es] at q; exact q.elim
      | al _ _ => rw [es] at q; exact q.elim
    | p _ _ => exact q.elim
end
/-- A DEF KEEPS ITS PROMISE -/
theorem fn_okW {P : Program} {w : World} {K : PySem.W.Frag} {mg : Str → Option Value} {base : Heap} {x qual : Str} {params : Arguments} {body : List Stmt} {scope : Scope} {dvs : List V} {kws : List (Str × V)} {f : Addr} {fd : FuncData} {N ps : List Str} {k : Nat} {ws : WS}
    (F : FunD K x qual params body scope dvs kws f fd) (S : FnScope N ps scope) (hN : ps.length ≤ N.length)
    (hbody : ∀ (cdv : Value) (A : Around) (outer : List PySem.Env) (s : Shared) (H : Hp) (E : XK), Room k (A.deeper (envOfC qual scope s.heap.objs.size f cdv)) → PSs (cxOf CX0 P w K mg base N qual scope f cdv A outer s H E).nox body (rdS K ws)) :
    FnOk P w K mg base CX0 (k + 1) f fd ps (spW K ps.length (bodyW ps.length N.length ws)) := by
  refine F.ok S (fun vs H Q E h => h.1) fun cdv A outer s H vs Q E hr h => ⟨rdS K ws, PSs.nox (hbody cdv A outer s H E hr), ?_⟩
  obtain ⟨hn, F0, G, as, fp, Qd, ht, S0, hw, kk⟩ := h
  exact ⟨F0, G, L2.start N vs, frameE N.length as, fp, fnP ps.length Qd, frame_ok (N := N) (by omega) ht S0, hw, fn_sat hn kk⟩
/-! ### a local name that holds a def -/
def wCallA (j n : Nat) (L : List (Addr × WE)) (w : WR) : WE := fun env Q => ∃ f fs, (f, fs) ∈ L ∧ (sget env j = .t (.d (.adr f)) ∨ sget env j = .a (.d (.adr f))) ∧ w env (callQ n fs Q)
theorem d_callA {X : Cx} {k n i : Nat} {L : List (Addr × WE)} {x : Str} {p pos : Pos} {e : Expr} {es : List Expr} {w : WR} (FO : ∀ f fs, (f, fs) ∈ L → ∃ fd ps, FnOk X.prog X.w X.K X.mg X.base CX0 k f fd ps (spW X.K n fs) ∧ PySem.W.keepIn X.K (.ref f) = true ∧ Binds X.K fd ps []) (hr : Room k X.A)
    (hN : X.N[i]? = some x) (hv : Vis X.env.scope x) (ha : PA X (e :: es) (rdR X.K w)) (hdb : (x == ("__debug__" : Str)) = false) (hcd : (x == ("__classdict__" : Str)) = false)
    (he : starEach (e :: es) X.env = (false, eval e X.env) :: starEach es X.env) (hpl : (backTo pos (starEach es X.env)).any (·.1) = false) : PE X (.Call (.Name x p) (e :: es) [] pos) (rdE X.K (wCallA i n L w)) :=
  ⟨fun pins s σ H Q I ⟨F, G, s0, env, fp, Qd, S, ⟨f, fs, hm, hsl, hw⟩, kk⟩ => by
    obtain ⟨fd, ps, FO, hk, hb⟩ := FO f fs hm
    refine (pe_callL (CX := CX0) (i := i) (f := f) (sp := spW X.K n fs) (dvs := []) (E := E0) FO hr hN hv hk hb .nil (fun _ _ _ _ _ _ _ z => z.elim) ha hdb hcd he hpl).run pins s σ H Q I ⟨?_, F, G, s0, env, fp, callQ n fs Qd, S, hw, fun ars vs e1 G1 H1 gl1 ⟨fp1, S1⟩ R1 q => ?_⟩
    · have sl := S.sl i
      rcases hsl with e | e
      · rw [e] at sl
        obtain ⟨v, h1, T⟩ := sl
        simp only [TR, Rep] at T
        rw [h1, T.1]
      · rw [e] at sl
        obtain ⟨v, h1, _, T⟩ := sl
        simp only [TR, Rep] at T
        rw [h1, T.1]
    · show spW X.K n fs (vs ++ []) H1 Q E0
      rw [List.append_nil]
      exact call_ok S1 R1 q fun ev v e2 G2 H2 gl2 evs q2 => kk ev v e2 G2 H2 (gl1.trans gl2) evs q2⟩
/-! ### C(k = e, ..) -/
def mkQ (C : Addr) (m : Nat) (fs : WE) (Q : EV → Env → Prop) (zs : List D) (e : Env) : Prop := zs.length = m ∧ Gc (fs (.t (.o C []) :: zs.map fun x => .t (.d x)) fun ev outs => ev = .d .non ∧ match sget outs 0 with
  | .t t => Q (.o t) e
  | _ => False)
def wMake (C : Addr) (m : Nat) (fs : WE) (w : WL) : WE := fun env Q => w env (mkQ C m fs Q)
theorem PKimp {X : Cx} {kws : List Keyword} {t t' : TA} (h : PK X kws t) (k : ∀ σ H Q, t' σ H Q → t σ H Q) : PK X kws t' := ⟨fun pos pins s σ H Q I q => h.run pos pins s σ H Q I (k σ H Q q)⟩
theorem k_nil {X : Cx} : PK X [] (rdL X.K wNil) := PKimp pk_nil fun σ H Q ⟨F, G, s0, env, fp, Qd, S, hw, k⟩ => k [] [] env G H (Gle.refl F G) ⟨fp, S⟩ RepL.nil hw
theorem k_cons {X : Cx} {nm : Option Str} {e : Expr} {kpos : Pos} {kws : List Keyword} {w : WD} {r : WL} (h : PE X e (rdD X.K w)) (hr : PK X kws (rdL X.K r)) : PK X (⟨nm, e, kpos⟩ :: kws) (rdL X.K (wCons w r)) :=
  PKimp (pk_cons h hr) fun σ H Q ⟨F, G, s0, env, fp, Qd, S, hw, k⟩ => ⟨F, G, s0, env, fp, _, S, hw, fun x v e1 G1 H1 gl1 ⟨fp1, S1⟩ R1 q1 =>
    ⟨F, G1, s0, e1, fp1, _, S1, q1, fun xs vs e2 G2 H2 gl2 S2 R2 q2 => k (x :: xs) (v :: vs) e2 G2 H2 (gl1.trans gl2) S2 (RepL.cons (R1.mono gl2.1) R2) q2⟩⟩
section
variable {K : PySem.W.Frag} {G G' H H' F F' : Hp} {s0 σ : L2.St} {env : Env} {fp : Nat → List Addr} {a : Addr}
theorem make_ok {C x dx : Addr} {m : Nat} {fs : WE} {zs : List D} {vs : List V} {Q : VK} {Qd : EV → Env → Prop} (S : Sim K F G H s0 env σ fp) (R : RepL K G zs vs) (hx : H x = none) (hdx : H dx = none) (hne : dx ≠ x) (q : mkQ C m fs Qd zs env)
    (k : ∀ ev v env' G' H', Gle F G G' → EVS K F G' H' s0 env' σ ev v → Qd ev env' → Q v H') : spW K (m + 1) fs (.ref x :: vs) (upd (upd H dx (.own x)) x (.ins C dx [])) (fun v H3 => v = .non ∧ Q (.ref x) H3) E0 := by
  obtain ⟨hm, hfs⟩ := q
  replace hfs := hfs.go
  have hl := R.length
  have hx2 : (upd H dx (.own x)) x = none := by rw [upd_ne (Ne.symm hne)]; exact hx
  have S1 : Sim K F G (upd (upd H dx (.own x)) x (.ins C dx [])) s0 env σ fp := by
    refine S.grow (Same.refl G) (Same.upd_new (Same.upd_new S.gh hdx) hx2) (Same.upd_new (Same.upd_new S.fh hdx) hx2) fun i b hb => ?_
    obtain ⟨_, q2, q3⟩ := S.own hb
    exact ⟨by rw [upd_ne (S.ne_new hx i b hb), upd_ne (S.ne_new hdx i b hb)], q2, q3⟩
  generalize hH2 : upd (upd H dx (.own x)) x (.ins C dx []) = H2 at S1
  have own := fun (i : Nat) (b : Addr) (h : b ∈ fp i) => S1.own h
  let P : Addr → Prop := fun b => ∃ i, b ∈ fp i
  have hPF : ∀ b, P b → F b = none := fun b ⟨i, h⟩ => (own i b h).2.2
  have fle : Same F (addP F H2 P) := addP_le hPF
  have nP : ¬ P x := fun ⟨i, hi⟩ => S.ne_new hx i x hi rfl
  have hxG : G x = none := Same.fresh S.gh hx
  have hxF : addP F H2 P x = none := by rw [addP_out nP]; exact Same.fresh S.fh hx
  have h2x : H2 x = some (.ins C dx []) := by rw [← hH2]; exact upd_same
  have Sa : Sim K (addP F H2 P) G H2 [] (.t (.o C []) :: zs.map fun x => .t (.d x)) ((V.ref x :: vs).map some) (fun i => if i = 0 then [x] else []) := by
    refine ⟨S1.gh, addP_same S1.fh, fun i => ?_, fun i j b h1 h2 => ?_, fun i => ?_, by simp [hl]⟩
    · by_cases h : i = 0
      · rw [if_pos h]; simp
      · rw [if_neg h]; exact List.nodup_nil
    · by_cases h : i = 0
      · by_cases h' : j = 0
        · rw [h, h']
        · rw [if_neg h'] at h2; cases h2
      · rw [if_neg h] at h1; cases h1
    · cases i with
      | zero =>
        refine ⟨.ref x, rfl, ?_⟩
        simp only [TR]
        exact ⟨x, dx, [], rfl, rfl, h2x, hxG, hxF, by simp only [RepF]⟩
      | succ i =>
        show SlotOk K G _ H2 [] _ _ [] _ (sget (zs.map fun x => SV.t (.d x)) i)
        have : ∀ {zs : List D} {vs : List V} {i : Nat}, RepL K G zs vs → SlotOk K G (addP F H2 P) H2 [] [] (V.ref x :: vs |>.map some) [] (i + 1) (sget (zs.map fun x => SV.t (.d x)) i) ∨ True := fun _ => .inr trivial
        rcases Nat.lt_or_ge i zs.length with h | h
        · have e : sget (zs.map fun x => SV.t (.d x)) i = .t (.d zs[i]) := by
            have : ∀ {zs : List D} {i : Nat} (h : i < zs.length), sget (zs.map fun x => SV.t (.d x)) i = .t (.d zs[i]) := by
              intro zs
              induction zs with
              | nil => intro i h; exact absurd h (by simp)
              | cons z r ih => intro i h; cases i with
                | zero => rfl
                | succ i => exact ih (by simpa using h)
            exact this h
          rw [e]
          obtain ⟨v, hv, r⟩ := R.get (List.getElem?_eq_getElem h)
          refine ⟨v, by simp [hv], ?_⟩
          simp only [TR]
          exact ⟨r, trivial⟩
        · rw [sget_of_le (by simpa using h)]
          exact rfl
  refine ⟨by simp [← hl, hm], addP F H2 P, G, _, _, _, ?_, Sa, hfs, fun ev v outs G' H' gl evs ⟨hev, hq⟩ => ?_⟩
  · intro sv hsv
    rcases List.mem_cons.mp hsv with z | z
    · exact ⟨_, z⟩
    · obtain ⟨d, _, z⟩ := List.mem_map.mp z
      exact ⟨_, z.symm⟩
  · subst hev
    obtain ⟨⟨fpo, So⟩, Rv⟩ := evs
    simp only [Rep] at Rv
    refine ⟨Rv, ?_⟩
    have sl := So.sl 0
    cases e0 : sget outs 0 with
    | t t =>
      rw [e0] at sl hq
      obtain ⟨v', hv', T⟩ := sl
      have : v' = .ref x := by
        have : ((V.ref x :: vs).map some)[0]? = some (some (V.ref x)) := rfl
        rw [this] at hv'; cases hv'; rfl
      subst this
      have ow := T.own t
      have fF : ∀ b ∈ fpo 0, F b = none := fun b hb => by
        cases qf : F b with
        | none => rfl
        | some u => have q3 := (ow b hb).2.2; rw [fle b u qf] at q3; cases q3
      have T' : TR K G' F H' t (.ref x) (fpo 0) := T.frame t (Same.refl G') fun b hb => ⟨rfl, (ow b hb).2.1, fF b hb⟩
      have fh' : Same F H' := fun b u e => So.fh b u (fle b u e)
      refine k (.o t) (.ref x) env G' H' (gl.anti fle) ⟨fp, fpo 0, So.nd 0, T', S1.grow gl.1 So.gh (addF_same fh') fun i b hb => ?_⟩ hq
      obtain ⟨⟨u, hu⟩, q2, q3⟩ := own i b hb
      have e : addP F H2 P b = some u := (addP_in (P := P) ⟨i, hb⟩).trans hu
      refine ⟨(So.fh b u e).trans hu.symm, (gl.2 b (by rw [e]; simp)).trans q2, ?_⟩
      rw [addF_out (fun z => by have q3 := (ow b z).2.2; rw [e] at q3; cases q3)]
      exact q3
    | no => rw [e0] at hq; exact hq.elim
    | a _ => rw [e0] at hq; exact hq.elim
    | al _ _ => rw [e0] at hq; exact hq.elim
end
theorem d_make {X : Cx} {k m : Nat} {f C : Addr} {fd : FuncData} {ps ks : List Str} {fs : WE} {x : Str} {p pos : Pos} {kws : List Keyword} {w : WL} {g : List Value → List Value → List Value} {gV : List V → List V → List V} (hm' : ks.length = m) (hgV : ∀ v zs, gV [v] zs = v :: zs)
    (M : Mk X.K C f) (FO : FnOk X.prog X.w X.K X.mg X.base CX0 k f fd ps (spW X.K (m + 1) fs)) (hr : Room (k + 1) X.A) (hg : Gl X x) (hm : X.mg x = some (.ref C)) (hb : KBn X.K fd ps 1 ks g gV) (hkw : PK X kws (rdL X.K w))
    (hall : (backToKw pos (keywordEach kws X.env)).all (·.1.isSome) = true) (hks : (backToKw pos (keywordEach kws X.env)).filterMap (·.1) = ks) (hdb : (x == ("__debug__" : Str)) = false)
    (hpl : ((backTo pos (starEach [] X.env)).any (·.1) || (backToKw pos (keywordEach kws X.env)).any (·.1.isNone)) = false) : PE X (.Call (.Name x p) [] kws pos) (rdE X.K (wMake C m fs w)) :=
  PEimp (pe_makeK0 (CX := CX0) (E := E0) M FO hr hg hm hb (fun _ _ _ _ _ _ _ z => z.elim) hkw hall hks hdb hpl) fun σ H Q ⟨F, G, s0, env, fp, Qd, S, hw, kk⟩ => by
    refine ⟨F, G, s0, env, fp, mkQ C m fs Qd, S, hw, fun zs vs e1 G1 H1 gl1 ⟨fp1, S1⟩ R q => ⟨rfl, ?_, fun x dx hx hdx hne => ?_⟩⟩
    · rw [← R.length, q.1, hm']
    · rw [hgV]
      exact make_ok S1 R hx hdx hne q fun ev v e2 G2 H2 gl2 evs q2 => kk ev v e2 G2 H2 (gl1.trans gl2) evs q2
end Bv
end SBvN
section SBvO
set_option linter.all false
set_option Elab.async false
open PySem PySem.Spec PyProof.Rows L2
namespace Bv
/-! ### name[e] -/
def subNO (j : Nat) (e : Env) (Q : EV → Env → Prop) (o : OT) (k : Nat) : Prop := match o with
  | .d x => Q (.d x) e
  | _ => match sget e j with
    | .t _ => Q (.p j [k]) e
    | .a _ => Q (.p j [k]) e
    | _ => False
def subNQ (j : Nat) (Q : EV → Env → Prop) (y : D) (e : Env) : Prop := match nodeOf e (.s j) with
  | some (.l os) => ixS e y os (subNO j e Q)
  | some (.d d) => (match viewO (.d d) with
    | some (_, os) => ixS e y os (ixQ e Q)
    | none => False)
  | _ => False
def isNo : SV → Bool
  | .no => true
  | _ => false
def wSubN (j : Nat) (wi : WD) : WE := fun env Q => isNo (sget env j) = false ∧ wi env (subNQ j Q)
section
variable {K : PySem.W.Frag} {G G' H H' F F' : Hp} {s0 σ : L2.St} {env : Env} {fp : Nat → List Addr} {a : Addr}
theorem has_val {j : Nat} (S : Sim K F G H s0 env σ fp) (h : isNo (sget env j) = false) : ∃ v, σ[j]? = some (some v) := by
  have q := S.sl j
  cases e : sget env j with
  | no => rw [e] at h; cases h
  | t o => rw [e] at q; obtain ⟨v, h1, _⟩ := q; exact ⟨v, h1⟩
  | a o => rw [e] at q; obtain ⟨v, h1, _⟩ := q; exact ⟨v, h1⟩
  | al k p => rw [e] at q; obtain ⟨_, _, _, _, v, _, _, _, _, h1⟩ := q; exact ⟨v, h1⟩
theorem d_subN {X : Cx} {x : Str} {p : Pos} {b : Expr} {j : Nat} {wi : WD} {pos : Pos} (ha : PE X (.Name x p) (tVar j)) (hb : PE X b (rdD X.K wi)) (hs : PlainIx b) : PE X (.Subscript (.Name x p) b pos) (rdE X.K (wSubN j wi)) :=
  PEimp (pe_ix ix_A ha hb hs) fun σ H Q ⟨F, G, s0, env, fp, Qd, S, ⟨hno, hw⟩, k⟩ => by
    obtain ⟨v, hv⟩ := has_val S hno
    refine ⟨v, hv, F, G, s0, env, fp, subNQ j Qd, S, hw, fun y u e2 G2 H2 gl2 ⟨fp2, S2⟩ R2 q2 => ?_⟩
    have evs : EVS X.K F G2 H2 s0 e2 σ (.s j) v := ⟨⟨fp2, S2⟩, hv⟩
    unfold subNQ at q2
    split at q2
    · rename_i os en
      obtain ⟨g, F', f, T⟩ := node_ok evs en
      simp only [TR] at T
      obtain ⟨a, vs, f1, rfl, _, h1, _, _, h4⟩ := T
      obtain ⟨n, kk, o, z, f2, rfl, e4, hat, e5, e6, T2, q3⟩ := ixS_ok R2 h4 q2
      refine .inl ⟨a, vs, n, z, rfl, rfl, .inl (.inl h1), hat, ?_⟩
      have hw2 : walk H2 (.ref a) [kk] = some z := by simp only [walk, h1, e6]
      have place : (match sget e2 j with
          | .t _ => Qd (.p j [kk]) e2
          | .a _ => Qd (.p j [kk]) e2
          | _ => False) → Q z H2 := fun q => by
        split at q
        · exact k (.p j [kk]) z e2 G2 H2 gl2 ⟨⟨fp2, S2⟩, .ref a, hv, hw2⟩ q
        · exact k (.p j [kk]) z e2 G2 H2 gl2 ⟨⟨fp2, S2⟩, .ref a, hv, hw2⟩ q
        · exact q.elim
      cases o with
      | d x =>
        simp only [TR] at T2
        exact k (.d x) z e2 G2 H2 gl2 ⟨⟨fp2, S2⟩, T2.1⟩ q3
      | l _ => exact place q3
      | k _ => exact place q3
      | o _ _ => exact place q3
    · rename_i d en
      obtain ⟨g, F', f, T⟩ := node_ok evs en
      split at q2
      · rename_i bb os ev
        obtain ⟨a, vs, f', rfl, ht, hl, T⟩ := viewO_ok g T ev
        obtain ⟨n, kk, o, z, f2, rfl, e4, hat, e5, e6, T2, q3⟩ := ixS_ok R2 T q2
        cases o with
        | d x =>
          simp only [TR] at T2
          have fin : Q z H2 := k (.d x) z e2 G2 H2 gl2 ⟨⟨fp2, S2⟩, T2.1⟩ q3
          cases bb with
          | true => exact .inr ⟨a, vs, n, z, rfl, rfl, same_t g (ht rfl), hat, fin⟩
          | false => exact .inl ⟨a, vs, n, z, rfl, rfl, hl rfl, hat, fin⟩
        | _ => exact q3.elim
      · exact q2.elim
    · exact q2.elim
end
end Bv
end SBvO
section SBvP
set_option linter.all false
set_option Elab.async false
open PySem PySem.Spec PyProof.Rows L2
namespace Bv
/-! helpers for the plain part -/
section
variable {e : Env}
theorem ixN_at {n : Nat} {i : Int} (h0 : 0 ≤ i) (h1 : i < n) : ixN n i = some i.toNat := by
  unfold ixN
  rw [if_pos h0, if_pos h1]
theorem ixS_at {os : List OT} {n : Int} {o : OT} {Q : OT → Nat → Prop} (h0 : 0 ≤ n) (h : os[n.toNat]? = some o) (q : Q o n.toNat) : ixS [] (.int n) os Q := by
  have hl := (List.getElem?_eq_some_iff.mp h).1
  have e1 : ixN os.length n = some n.toNat := ixN_at h0 (by omega)
  show (match ixN os.length n with | some k => (match os[k]? with | some o => Q o k | none => False) | none => False)
  rw [e1]
  show (match os[n.toNat]? with | some o => Q o n.toNat | none => False)
  rw [h]
  exact q
def forgetL : List Nat → Env → Env
  | [], e => e
  | i :: r, e => forgetL r (forget i e)
theorem forget_length {i : Nat} {e : Env} : (forget i e).length = e.length := by simp [forget, sset_length, clr_length]
theorem Gf.L {Q : Env → Prop} : ∀ (L : List Nat) {e : Env}, L.all (fun i => decide (i < e.length)) = true → Q (forgetL L e) → Gf Q e
  | [], e, _, q => .mk q
  | i :: r, e, h, q => by
    simp only [List.all_cons, Bool.and_eq_true, decide_eq_true_eq] at h
    refine .drop i h.1 (Gf.L r (e := forget i e) ?_ q)
    rw [forget_length]; exact h.2
theorem Gf.LL {Q : Env → Prop} : ∀ (L : List Nat) {e : Env}, L.all (fun i => decide (i < e.length)) = true → Gf Q (forgetL L e) → Gf Q e
  | [], e, _, q => q
  | i :: r, e, h, q => by
    simp only [List.all_cons, Bool.and_eq_true, decide_eq_true_eq] at h
    refine .drop i h.1 (Gf.LL r (e := forget i e) ?_ q)
    rw [forget_length]; exact h.2
/-- slots may be forgotten ahead of P -/
def Fg (P : Env → Prop) : Prop := ∀ (L : List Nat) (e : Env), L.all (fun i => decide (i < e.length)) = true → P (forgetL L e) → P e
theorem Fg.gf {Q : Env → Prop} : Fg (Gf Q) := fun L _ h q => Gf.LL L h q
theorem for_ind2 {g : WG} {b : WS} {P : Env → Prop} {C : PP} (I : List D → Env → Prop)
    (step : ∀ x r e (C' : PP), I (x :: r) e → C'.rt = C.rt → C'.bk = C.nx → (∀ e', I r e' → C'.nx e') → (∀ e', I r e' → C'.ct e') → Fg C'.nx → Fg C'.ct → P e ∧ g x e (Gf fun e1 => b e1 C')) (done : ∀ e, I [] e → P e ∧ C.nx e) :
    ∀ {items : List D} {e : Env}, I items e → wFor g b P items e C
  | [], e, h => done e h
  | x :: r, e, h => step x r e { C with nx := Gf fun e => wFor g b P r e C, ct := Gf fun e => wFor g b P r e C, bk := C.nx } h rfl rfl (fun e' h' => .mk (for_ind2 I step done h')) (fun e' h' => .mk (for_ind2 I step done h')) Fg.gf Fg.gf
/-- the loop over typed items, a typed state -/
theorem for_st {α σ : Type} {g : WG} {b : WS} {P : Env → Prop} {C : PP} (enc : α → D) (E : σ → Env) (I : List α → σ → Prop)
    (step : ∀ x r s (C' : PP), I (x :: r) s → C'.rt = C.rt → C'.bk = C.nx → (∀ s', I r s' → C'.nx (E s')) → (∀ s', I r s' → C'.ct (E s')) → Fg C'.nx → Fg C'.ct → P (E s) ∧ g (enc x) (E s) (Gf fun e1 => b e1 C')) (done : ∀ s, I [] s → P (E s) ∧ C.nx (E s)) :
    ∀ (xs : List α) (s : σ), I xs s → wFor g b P (xs.map enc) (E s) C
  | [], s, h => done s h
  | x :: r, s, h => step x r s { C with nx := Gf fun e => wFor g b P (r.map enc) e C, ct := Gf fun e => wFor g b P (r.map enc) e C, bk := C.nx } h rfl rfl (fun s' h' => .mk (for_st enc E I step done r s' h')) (fun s' h' => .mk (for_st enc E I step done r s' h')) Fg.gf Fg.gf
/-- the ways of a statement meet -/
theorem meet {w : WS} {e : Env} {C : PP} (J : Env → Prop) (h : ∀ C' : PP, C'.rt = C.rt → C'.bk = C.bk → C'.ct = C.ct → (∀ e, J e → C'.nx e) → Fg C'.nx → w e C') (hf : Fg C.nx) (hJ : ∀ e, J e → C.nx e) : w e C := h C rfl rfl rfl hJ hf
theorem for_gen {g : WG} {b : WS} {P : Env → Prop} {C : PP} {items : List D} {e : Env} (J : Env → Prop) (h : ∀ C' : PP, C'.rt = C.rt → (∀ e, J e → C'.nx e) → wFor g b P items e C') (hJ : ∀ e, J e → C.nx e) : wFor g b P items e C := h C rfl hJ
theorem lc_ind {own : List Nat} {g : WG} {t : WT} {w : WO} {P : Env → Prop} {Q : List OT → Env → Prop} (I : List D → List OT → Env → Prop)
    (step : ∀ x r acc e, I (x :: r) acc e → (∀ acc' e', I r acc' e' → wLcG own g t w P r acc' e' Q) → wLcG own g t w P (x :: r) acc e Q) (done : ∀ acc e, I [] acc e → wLcG own g t w P [] acc e Q) :
    ∀ {items : List D} {acc : List OT} {e : Env}, I items acc e → wLcG own g t w P items acc e Q
  | [], acc, e, h => done acc e h
  | x :: r, acc, e, h => step x r acc e h fun acc' e' h' => lc_ind I step done h'
theorem nd0 : ([] : List Nat).Nodup := List.nodup_nil
theorem nd1 {j : Nat} : [j].Nodup := by simp
theorem Brn.of {c A B} (ht : c = true → A) (hf : c = false → B) : Brn c A B := by
  cases c with
  | true => exact .t rfl (ht rfl)
  | false => exact .f rfl (hf rfl)
theorem Brn.dec {p : Prop} [Decidable p] {A B : Prop} (ht : p → A) (hf : ¬ p → B) : Brn (decide p) A B := by
  by_cases h : p
  · exact .t (decide_eq_true h) (ht h)
  · exact .f (decide_eq_false h) (hf h)
theorem Brn.ndec {p : Prop} [Decidable p] {A B : Prop} (ht : ¬ p → A) (hf : p → B) : Brn (!decide p) A B := by
  by_cases h : p
  · exact .f (by simp [h]) (hf h)
  · exact .t (by simp [h]) (ht h)
/-- the ints of a list, the ints as trees -/
def li (ns : List Int) : List D := ns.map .int
def ti (ns : List Int) : List OT := ns.map fun n => .d (.int n)
theorem li_len {ns : List Int} : (li ns).length = ns.length := by simp [li]
theorem ti_len {ns : List Int} : (ti ns).length = ns.length := by simp [ti]
theorem ti_map {ns : List Int} : (li ns).map .d = ti ns := by simp [li, ti]
theorem resL_ti : ∀ {ns : List Int}, resL (ti ns) = li ns
  | [] => rfl
  | n :: ns => by show D.int n :: resL (ti ns) = _; rw [resL_ti]; rfl
theorem ti_snoc {ns : List Int} {n : Int} : ti ns ++ [.d (.int n)] = ti (ns ++ [n]) := by simp [ti]
theorem ti_set {l : List Int} {k : Nat} {v : Int} : (ti l).set k (.d (.int v)) = ti (l.set k v) := by simp [ti, List.map_set]
theorem resL_d : ∀ {xs : List D}, resL (xs.map .d) = xs
  | [] => rfl
  | n :: ns => by show n :: resL (ns.map .d) = _; rw [resL_d]
theorem ti_get {ns : List Int} {k : Nat} {n : Int} (h : ns[k]? = some n) : (ti ns)[k]? = some (.d (.int n)) := by simp [ti, h]
theorem li_get {ns : List Int} {k : Nat} {n : Int} (h : ns[k]? = some n) : (li ns)[k]? = some (.int n) := by simp [li, h]
theorem map_get {α β : Type} {f : α → β} {xs : List α} {k : Nat} {x : α} (h : xs[k]? = some x) : (xs.map f)[k]? = some (f x) := by simp [h]
theorem int_get {α : Type} {xs : List α} {n : Int} (h0 : 0 ≤ n) (h : n < xs.length) : ∃ x, xs[n.toNat]? = some x := by
  have : n.toNat < xs.length := by omega
  exact ⟨_, List.getElem?_eq_getElem this⟩
theorem allD_ti {ns : List Int} : allD (ti ns) = some (li ns) := by rw [← ti_map]; exact allD_map _
theorem mod_ {i j : Int} {R : Int → Prop} (hj : 0 < j) (h : ∀ r, 0 ≤ r → r < j → R r) : Lp (0 < j ∧ ∀ r, r = i % j → R r) := ⟨hj, fun r hr => h r (by rw [hr]; exact Int.emod_nonneg _ (by omega)) (by rw [hr]; exact Int.emod_lt_of_pos _ hj)⟩
theorem modI {i j : Int} {R : Int → Prop} (hj : 0 < j) (h : ∀ r, 0 ≤ r → r < j → R r) : ∀ r, r = i % j → R r := fun r hr => h r (by rw [hr]; exact Int.emod_nonneg _ (by omega)) (by rw [hr]; exact Int.emod_lt_of_pos _ hj)
theorem mulS {i j : Int} (h : 0 ≤ i) (h2 : i < 2147483647) : mulOk i j := .inl ⟨by omega, by omega⟩
theorem mulL {i j : Int} (h : -(2 ^ 64) < i) (h2 : i < 2 ^ 64) : mulOk i j := .inl ⟨h, h2⟩
theorem mulR {i j : Int} (h : -(2 ^ 64) < j) (h2 : j < 2 ^ 64) : mulOk i j := .inr ⟨h, h2⟩
end
end Bv
end SBvP
section SBvQ
set_option linter.all false
set_option Elab.async false
open PySem PySem.Spec PyProof.Rows L2
namespace Bv
/-! tests with a value -/
section
variable {e : Env}
theorem orT {a b : WT} {Q : Bool → Env → Prop} {c1 c2 : Bool} (ha : ∀ R : Bool → Env → Prop, R c1 e → a e R) (hb : c1 = false → ∀ R : Bool → Env → Prop, R c2 e → b e R) (h : Q (c1 || c2) e) : wOrT a b e Q :=
  ha _ (match c1, hb, h with
  | true, _, h => .t rfl h
  | false, hb, h => .f rfl (hb rfl _ h))
theorem andT {a b : WT} {Q : Bool → Env → Prop} {c1 c2 : Bool} (ha : ∀ R : Bool → Env → Prop, R c1 e → a e R) (hb : c1 = true → ∀ R : Bool → Env → Prop, R c2 e → b e R) (h : Q (c1 && c2) e) : wAndT a b e Q :=
  ha _ (match c1, hb, h with
  | false, _, h => .f rfl h
  | true, hb, h => .t rfl (hb rfl _ h))
theorem notT {a : WT} {Q : Bool → Env → Prop} {c1 : Bool} (ha : ∀ R : Bool → Env → Prop, R c1 e → a e R) (h : Q (!c1) e) : wNotT a e Q := ha _ h
theorem orV {a b : WE} {Q : EV → Env → Prop} {c1 c2 : Bool} (ha : ∀ R : EV → Env → Prop, R (.d (.bl c1)) e → a e R) (hb : c1 = false → ∀ R : EV → Env → Prop, R (.d (.bl c2)) e → b e R) (h : Q (.d (.bl (c1 || c2))) e) : wOrV a b e Q :=
  ha _ (match c1, hb, h with
  | true, _, h => ⟨_, rfl, .t rfl h⟩
  | false, hb, h => ⟨_, rfl, .f rfl (hb rfl _ h)⟩)
theorem andV {a b : WE} {Q : EV → Env → Prop} {c1 c2 : Bool} (ha : ∀ R : EV → Env → Prop, R (.d (.bl c1)) e → a e R) (hb : c1 = true → ∀ R : EV → Env → Prop, R (.d (.bl c2)) e → b e R) (h : Q (.d (.bl (c1 && c2))) e) : wAndV a b e Q :=
  ha _ (match c1, hb, h with
  | false, _, h => ⟨_, rfl, .f rfl h⟩
  | true, hb, h => ⟨_, rfl, .t rfl (hb rfl _ h)⟩)
theorem chainV {b1 b2 : D → D → (EV → Prop) → Prop} {wa wb wc : WD} {Q : EV → Env → Prop} {x y z : D} {c1 c2 : Bool} (ha : ∀ R : D → Env → Prop, R x e → wa e R) (hb : ∀ R : D → Env → Prop, R y e → wb e R) (h1 : ∀ R : EV → Prop, R (.d (.bl c1)) → b1 x y R)
    (hc : c1 = true → ∀ R : D → Env → Prop, R z e → wc e R) (h2 : c1 = true → ∀ R : EV → Prop, R (.d (.bl c2)) → b2 y z R) (h : Q (.d (.bl (c1 && c2))) e) : wChain b1 b2 wa wb wc e Q :=
  ha _ (hb _ (h1 _ ⟨c1, rfl, match c1, hc, h2, h with
  | false, _, _, h => .f rfl h
  | true, hc, h2, h => .t rfl (hc rfl _ (h2 rfl _ h))⟩))
/-- an if with its test's value -/
theorem seqIf {t : WT} {a b r : WS} {P : PP} {c : Bool} (ht : ∀ R : Bool → Env → Prop, R c e → t e R) (h : Brn c (a e { P with nx := Gf fun e => r e P }) (b e { P with nx := Gf fun e => r e P })) : wSeq (wIfS t a b) r e P := ht _ h
theorem ifE {t : WT} {a b : WE} {Q : EV → Env → Prop} {c : Bool} (ht : ∀ R : Bool → Env → Prop, R c e → t e R) (h : Brn c (a e Q) (b e Q)) : wIf t a b e Q := ht _ h
theorem Brn.by {c : Bool} {A B : Prop} {p : Prop} (hp : c = true ↔ p) (ht : p → A) (hf : ¬ p → B) : Brn c A B := by
  cases c with
  | true => exact .t rfl (ht (hp.mp rfl))
  | false => exact .f rfl (hf fun q => by cases hp.mpr q)
/-! loops over ups -/
theorem ups_nil {lo : Int} : ups lo 0 = [] := rfl
theorem ups_cons {lo : Int} {n : Nat} : ups lo (n + 1) = .int lo :: ups (lo + 1) n := by
  unfold ups
  rw [List.range_succ_eq_map, List.map_cons, List.map_map]
  have h0 : lo + ((0 : Nat) : Int) = lo := by omega
  rw [h0]
  congr 1
  refine List.map_congr_left fun i _ => ?_
  show D.int (lo + ((i + 1 : Nat) : Int)) = D.int (lo + 1 + (i : Int))
  congr 1
  omega
theorem for_upA {σ : Type} {g : WG} {b : WS} {P : Env → Prop} {C : PP} (n : Nat) (E : σ → Env) (I : Nat → σ → Prop)
    (step : ∀ (k : Nat) s (C' : PP), k < n → I k s → C'.rt = C.rt → C'.bk = C.nx → (∀ s', I (k + 1) s' → C'.nx (E s')) → (∀ s', I (k + 1) s' → C'.ct (E s')) → Fg C'.nx → Fg C'.ct → P (E s) ∧ g (.int (k : Int)) (E s) (Gf fun e1 => b e1 C')) (done : ∀ s, I n s → P (E s) ∧ C.nx (E s)) :
    ∀ (m k : Nat) (s : σ), k + m = n → I k s → wFor g b P (ups (k : Int) m) (E s) C
  | 0, k, s, hk, h => by
    have : k = n := by omega
    subst this
    exact done s h
  | m + 1, k, s, hk, h => by
    rw [ups_cons]
    have e : (k : Int) + 1 = ((k + 1 : Nat) : Int) := by omega
    rw [e]
    exact step k s { C with nx := Gf fun e => wFor g b P (ups ((k + 1 : Nat) : Int) m) e C, ct := Gf fun e => wFor g b P (ups ((k + 1 : Nat) : Int) m) e C, bk := C.nx } (by omega) h rfl rfl
      (fun s' h' => .mk (for_upA n E I step done m (k + 1) s' (by omega) h')) (fun s' h' => .mk (for_upA n E I step done m (k + 1) s' (by omega) h')) Fg.gf Fg.gf
theorem for_up {σ : Type} {g : WG} {b : WS} {P : Env → Prop} {C : PP} {n : Nat} (E : σ → Env) (I : Nat → σ → Prop) {s : σ} (h0 : I 0 s)
    (step : ∀ (k : Nat) s (C' : PP), k < n → I k s → C'.rt = C.rt → C'.bk = C.nx → (∀ s', I (k + 1) s' → C'.nx (E s')) → (∀ s', I (k + 1) s' → C'.ct (E s')) → Fg C'.nx → Fg C'.ct → P (E s) ∧ g (.int (k : Int)) (E s) (Gf fun e1 => b e1 C')) (done : ∀ s, I n s → P (E s) ∧ C.nx (E s)) :
    wFor g b P (ups 0 n) (E s) C := for_upA n E I step done n 0 s (by omega) h0
/-- comprehensions over typed items: the slots stay as they are -/
theorem lc_pure {α : Type} {own : List Nat} {g : WG} {t : WT} {w : WO} {P : Env → Prop} {Q : List OT → Env → Prop} {e : Env} {enc : α → D} {E : α → Env} {c : α → Bool} {f : α → OT} (hP : P e) :
    ∀ {xs : List α} {acc : List OT}, (∀ x ∈ xs, ∀ R : Env → Prop, R (E x) → g (enc x) e R) → (∀ x ∈ xs, ∀ R : Bool → Env → Prop, R (c x) (E x) → t (E x) R) → (∀ x ∈ xs, c x = true → ∀ R : OT → Env → Prop, R (f x) (E x) → w (E x) R) → (∀ x ∈ xs, hideR (E x) own = e) →
      acc.length + xs.length < 1000000 → Q (acc ++ (xs.filter c).map f) e → wLcG own g t w P (xs.map enc) acc e Q
  | [], acc, _, _, _, _, _, q => ⟨hP, by simpa using q⟩
  | x :: xs, acc, hg, ht, hw, hh, hl, q => by
    simp only [List.length_cons] at hl
    refine ⟨hP, hg x List.mem_cons_self _ (ht x List.mem_cons_self _ ?_)⟩
    have hx := hh x List.mem_cons_self
    have hg' : ∀ y ∈ xs, ∀ R : Env → Prop, R (E y) → g (enc y) e R := fun y hy => hg y (List.mem_cons_of_mem _ hy)
    have ht' : ∀ y ∈ xs, ∀ R : Bool → Env → Prop, R (c y) (E y) → t (E y) R := fun y hy => ht y (List.mem_cons_of_mem _ hy)
    have hw' : ∀ y ∈ xs, c y = true → ∀ R : OT → Env → Prop, R (f y) (E y) → w (E y) R := fun y hy => hw y (List.mem_cons_of_mem _ hy)
    have hh' : ∀ y ∈ xs, hideR (E y) own = e := fun y hy => hh y (List.mem_cons_of_mem _ hy)
    cases hc : c x with
    | true =>
      refine .t rfl (hw x List.mem_cons_self hc _ ⟨by omega, ?_⟩)
      rw [hx]
      exact lc_pure hP hg' ht' hw' hh' (by simp; omega) (by simpa [List.filter_cons, hc] using q)
    | false =>
      refine .f rfl ?_
      rw [hx]
      exact lc_pure hP hg' ht' hw' hh' (by omega) (by simpa [List.filter_cons, hc] using q)
theorem lc_map {α : Type} {own : List Nat} {g : WG} {w : WO} {P : Env → Prop} {Q : List OT → Env → Prop} {e : Env} {enc : α → D} {E : α → Env} {f : α → OT} (hP : P e)
    {xs : List α} (hg : ∀ x ∈ xs, ∀ R : Env → Prop, R (E x) → g (enc x) e R) (hw : ∀ x ∈ xs, ∀ R : OT → Env → Prop, R (f x) (E x) → w (E x) R) (hh : ∀ x ∈ xs, hideR (E x) own = e)
      (hl : xs.length < 1000000) (q : Q (xs.map f) e) : wLcG own g wYes w P (xs.map enc) [] e Q :=
  lc_pure (c := fun _ => true) (E := E) (f := f) hP hg (fun x _ R h => h) (fun x hx _ => hw x hx) hh (by simpa using hl) (by rw [List.filter_eq_self.mpr fun _ _ => rfl]; exact q)
theorem ups0 {n : Nat} : ups 0 n = (List.range n).map fun (i : Nat) => D.int (i : Int) := by
  unfold ups
  refine List.map_congr_left fun i _ => ?_
  show D.int (0 + (i : Int)) = _
  congr 1
  omega
end
end Bv
end SBvQ
section SBvR
set_option linter.all false
set_option Elab.async false
open PySem PySem.Spec PyProof.Rows L2
namespace Bv
section
variable {e : Env}
/-- [elt for k in range(len(xs))] -/
theorem lc_ix {α : Type} {own : List Nat} {g : WG} {w : WO} {P : Env → Prop} {Q : List OT → Env → Prop} {E : Nat → Env} {xs : List α} {n : Nat} {f : α → OT} (hn : n = xs.length) (hP : P e)
    (hg : ∀ k t, xs[k]? = some t → ∀ R : Env → Prop, R (E k) → g (.int (k : Int)) e R) (hw : ∀ k t, xs[k]? = some t → ∀ R : OT → Env → Prop, R (f t) (E k) → w (E k) R) (hh : ∀ k, hideR (E k) own = e) (hl : xs.length < 1000000) (q : Q (xs.map f) e) :
    wLcG own g wYes w P (ups 0 n) [] e Q := by
  subst hn
  rw [ups0]
  refine lc_map (E := E) (f := fun k => match xs[k]? with | some t => f t | none => .d .non) hP (fun k hk => ?_) (fun k hk R h => ?_) (fun k _ => hh k) (by simpa using hl) ?_
  · have := List.mem_range.mp hk
    exact hg k _ (List.getElem?_eq_getElem this)
  · have := List.mem_range.mp hk
    have e := List.getElem?_eq_getElem this
    rw [e] at h
    exact hw k _ e R h
  · have : (List.range xs.length).map (fun k => match xs[k]? with | some t => f t | none => OT.d .non) = xs.map f := by
      refine List.ext_getElem? fun i => ?_
      by_cases hi : i < xs.length
      · simp [List.getElem?_eq_getElem hi, List.getElem?_range, hi]
      · rw [List.getElem?_eq_none (by simp; omega), List.getElem?_eq_none (by simp; omega)]
    rw [this]
    exact q
/-- [elt for k in range(n) if ..] -/
theorem lc_upF {own : List Nat} {g : WG} {t : WT} {w : WO} {P : Env → Prop} {Q : List OT → Env → Prop} {E : Nat → Env} {n : Nat} {c : Nat → Bool} {f : Nat → OT} (hP : P e)
    (hg : ∀ k, k < n → ∀ R : Env → Prop, R (E k) → g (.int (k : Int)) e R) (ht : ∀ k, k < n → ∀ R : Bool → Env → Prop, R (c k) (E k) → t (E k) R) (hw : ∀ k, k < n → c k = true → ∀ R : OT → Env → Prop, R (f k) (E k) → w (E k) R) (hh : ∀ k, hideR (E k) own = e) (hl : n < 1000000) (q : Q (((List.range n).filter c).map f) e) :
    wLcG own g t w P (ups 0 n) [] e Q := by
  rw [ups0]
  exact lc_pure (E := E) (c := c) (f := f) hP (fun k hk => hg k (List.mem_range.mp hk)) (fun k hk => ht k (List.mem_range.mp hk)) (fun k hk => hw k (List.mem_range.mp hk)) (fun k _ => hh k) (by simpa using hl) (by simpa using q)
theorem filter_range_nil {n : Nat} {c : Nat → Bool} : (List.range n).filter c = [] ↔ ∀ k, k < n → c k = false := by
  rw [List.filter_eq_nil_iff]
  constructor
  · intro h k hk
    simpa using h k (List.mem_range.mpr hk)
  · intro h k hk
    simp [h k (List.mem_range.mp hk)]
theorem resL_f {α : Type} {f : α → D} : ∀ {ts : List α}, resL (ts.map fun t => .d (f t)) = ts.map f
  | [] => rfl
  | t :: ts => by show f t :: resL (ts.map fun t => .d (f t)) = _; rw [resL_f]; rfl
theorem zip2_map {α : Type} {f g : α → D} : ∀ {ts : List α}, zip2D (ts.map f) (ts.map g) = ts.map fun t => .tup [f t, g t]
  | [] => rfl
  | t :: ts => by simp only [List.map_cons, zip2D]; rw [zip2_map]
theorem dmap {α : Type} {f : α → D} {ts : List α} : (ts.map fun t => OT.d (f t)) = (ts.map f).map OT.d := by rw [List.map_map]; rfl
theorem flat1 {x : D} : ∀ {n : Nat}, (List.replicate n [x]).flatten = List.replicate n x
  | 0 => rfl
  | n + 1 => by rw [List.replicate_succ, List.flatten_cons, flat1, List.replicate_succ]; rfl
theorem zeros {n : Nat} {i : Int} : (List.replicate n [D.int i]).flatten.map OT.d = ti (List.replicate n i) := by rw [flat1]; simp [ti]
theorem testC {w : WE} {Q : Bool → Env → Prop} {c : Bool} (hw : ∀ R : EV → Env → Prop, R (.d (.bl c)) e → w e R) (h : Q c e) : wTest w e Q := hw _ ⟨c, rfl, h⟩
theorem truC {w : WE} {Q : Bool → Env → Prop} {c : Bool} (hw : ∀ R : EV → Env → Prop, R (.d (.bl c)) e → w e R) (h : Q c e) : wTru w e Q := hw _ h
end
/-! the pool of the laws -/
end Bv
end SBvR
section SBvT
set_option linter.all false
set_option Elab.async false
open PySem PySem.Spec PyProof.Rows L2
namespace Bv
/-! == over data without bools -/
def pcD : Nat → D → Bool
  | 0, _ => false
  | d + 1, x => match x with
    | .tup xs => xs.all (pcD d)
    | .lst xs => xs.all (pcD d)
    | .int _ => true
    | .str x => PyData.strOk x
    | .non => true
    | _ => false
theorem toPyL_pc {d : Nat} (ih : ∀ x, pcD d x = true → ∃ p, toPy x = some p ∧ p.canLay0 = true ∧ p.depth ≤ d) : ∀ xs : List D, xs.all (pcD d) = true → ∃ ps, toPyL xs = some ps ∧ PyData.canLayAll0 ps = true ∧ PyData.depthAll ps ≤ d
  | [], _ => ⟨[], rfl, by simp [PyData.canLayAll0], by simp [PyData.depthAll]⟩
  | x :: xs, h => by
    simp only [List.all_cons, Bool.and_eq_true] at h
    obtain ⟨p, h1, h2, h3⟩ := ih x h.1
    obtain ⟨ps, g1, g2, g3⟩ := toPyL_pc ih xs h.2
    exact ⟨p :: ps, by simp [toPyL, h1, g1], by simp [PyData.canLayAll0, h2, g2], by simp only [PyData.depthAll]; omega⟩
theorem toPy_pc : ∀ (d : Nat) (x : D), pcD d x = true → ∃ p, toPy x = some p ∧ p.canLay0 = true ∧ p.depth ≤ d
  | 0, _, h => nomatch h
  | d + 1, x, h => by
    cases x with
    | int i => exact ⟨.int i, by simp only [toPy], by simp only [PyData.canLay0], by simp only [PyData.depth]; omega⟩
    | non => exact ⟨.none, by simp only [toPy], by simp only [PyData.canLay0], by simp only [PyData.depth]; omega⟩
    | str s =>
      have hs : PyData.strOk s = true := h
      exact ⟨.str s, by simp only [toPy], by simp only [PyData.canLay0, hs], by simp only [PyData.depth]; omega⟩
    | tup xs =>
      obtain ⟨ps, g1, g2, g3⟩ := toPyL_pc (toPy_pc d) xs h
      exact ⟨.tuple ps, by simp [toPy, g1], by simp only [PyData.canLay0, g2], by simp only [PyData.depth]; omega⟩
    | lst xs =>
      obtain ⟨ps, g1, g2, g3⟩ := toPyL_pc (toPy_pc d) xs h
      exact ⟨.list ps, by simp [toPy, g1], by simp only [PyData.canLay0, g2], by simp only [PyData.depth]; omega⟩
    | _ => exact nomatch h
theorem eqvL_pc {d : Nat} (ih : ∀ x y p q, pcD d x = true → pcD d y = true → toPy x = some p → toPy y = some q → (PyData.eqv p q = true ↔ x = y)) :
    ∀ (xs ys : List D) (ps qs : List PyData), xs.all (pcD d) = true → ys.all (pcD d) = true → toPyL xs = some ps → toPyL ys = some qs → (PyData.eqvAll ps qs = true ↔ xs = ys)
  | [], [], ps, qs, _, _, e1, e2 => by
    simp only [toPyL, Option.some.injEq] at e1 e2
    subst e1 e2
    simp [PyData.eqvAll]
  | [], y :: ys, ps, qs, _, h2, e1, e2 => by
    simp only [toPyL, Option.some.injEq] at e1
    subst e1
    simp only [toPyL] at e2
    split at e2
    · simp only [Option.some.injEq] at e2
      subst e2
      simp [PyData.eqvAll]
    · cases e2
  | x :: xs, [], ps, qs, _, _, e1, e2 => by
    simp only [toPyL, Option.some.injEq] at e2
    subst e2
    simp only [toPyL] at e1
    split at e1
    · simp only [Option.some.injEq] at e1
      subst e1
      simp [PyData.eqvAll]
    · cases e1
  | x :: xs, y :: ys, ps, qs, h1, h2, e1, e2 => by
    simp only [List.all_cons, Bool.and_eq_true] at h1 h2
    simp only [toPyL] at e1 e2
    split at e1
    · rename_i a r ea er
      split at e2
      · rename_i b s eb es
        simp only [Option.some.injEq] at e1 e2
        subst e1 e2
        simp only [PyData.eqvAll, Bool.and_eq_true, List.cons.injEq]
        rw [ih x y a b h1.1 h2.1 ea eb, eqvL_pc ih xs ys r s h1.2 h2.2 er es]
      · cases e2
    · cases e1
theorem eqv_pc : ∀ (d : Nat) (x y : D) (p q : PyData), pcD d x = true → pcD d y = true → toPy x = some p → toPy y = some q → (PyData.eqv p q = true ↔ x = y)
  | 0, _, _, _, _, h, _, _, _ => nomatch h
  | d + 1, x, y, p, q, h1, h2, e1, e2 => by
    cases x <;> first | (simp [pcD] at h1; done) | skip
    all_goals
      cases y <;> first | (simp [pcD] at h2; done) | skip
    all_goals
      simp only [toPy, Option.some.injEq, Option.map_eq_some_iff] at e1 e2
    all_goals try (obtain ⟨ps, e1, rfl⟩ := e1)
    all_goals try (obtain ⟨qs, e2, rfl⟩ := e2)
    all_goals try subst e1
    all_goals try subst e2
    case tup.tup =>
      simp only [PyData.eqv, D.tup.injEq]
      exact eqvL_pc (eqv_pc d) _ _ _ _ h1 h2 e1 e2
    case lst.lst =>
      simp only [PyData.eqv, D.lst.injEq]
      exact eqvL_pc (eqv_pc d) _ _ _ _ h1 h2 e1 e2
    all_goals simp [PyData.eqv]
theorem eqD_pc {d : Nat} {x y : D} (hd : d ≤ 64) (h1 : pcD d x = true) (h2 : pcD d y = true) : ∃ b, eqD x y = some b ∧ (b = true ↔ x = y) := by
  obtain ⟨p, a1, a2, a3⟩ := toPy_pc d x h1
  obtain ⟨q, b1, b2, b3⟩ := toPy_pc d y h2
  have key := eqv_pc d x y p q h1 h2 a1 b1
  by_cases hi : (∃ i j, x = .int i ∧ y = .int j)
  · obtain ⟨i, j, rfl, rfl⟩ := hi
    exact ⟨_, rfl, by simp⟩
  · refine ⟨PyData.eqv p q, ?_, key⟩
    have e : eqD x y = (match toPy x, toPy y with
      | some a, some b => if (SeqAt.shaped a && SeqAt.shaped b) = true then some (PyData.eqv a b) else none
      | _, _ => none) := by
      cases x <;> cases y <;> first | rfl | (exfalso; exact hi ⟨_, _, rfl, rfl⟩) | (cases d <;> exact nomatch h1)
    have s1 : SeqAt.shaped p = true := by simp only [SeqAt.shaped, a2, Bool.true_and, decide_eq_true_eq]; omega
    have s2 : SeqAt.shaped q = true := by simp only [SeqAt.shaped, b2, Bool.true_and, decide_eq_true_eq]; omega
    rw [e, a1, b1]
    simp [s1, s2]
theorem pc_li {d : Nat} {ns : List Int} : pcD (d + 2) (.lst (li ns)) = true := by
  show (li ns).all (pcD (d + 1)) = true
  rw [List.all_eq_true]
  intro x hx
  obtain ⟨n, _, rfl⟩ := List.mem_map.mp hx
  rfl
theorem li_inj {xs ys : List Int} : li xs = li ys ↔ xs = ys := by
  constructor
  · intro h
    unfold li at h
    exact (List.map_inj_right (fun a b e => by cases e; rfl)).mp h
  · rintro rfl; rfl
theorem enum_map {α : Type} {f : α → D} : ∀ (xs : List α) (k : Nat), enumD k (xs.map f) = (xs.zipIdx k).map fun p => D.tup [.int (p.2 : Int), f p.1]
  | [], k => rfl
  | x :: xs, k => by simp only [List.map_cons, enumD, List.zipIdx_cons]; rw [enum_map]
theorem seqRet {w : WE} {r : WS} {e : Env} {P : PP} (h : w e P.rt) : wSeq (wRet w) r e P := h
theorem tup_p {w : WL} {e : Env} {Q : EV → Env → Prop} (h : w e fun xs e => xs.length ≤ 1000000 ∧ Q (.d (.tup xs)) e) : wTup w e Q := h
theorem cons_p {w : WD} {r : WL} {e : Env} {Q : List D → Env → Prop} (h : w e fun x e1 => r e1 fun xs e2 => Q (x :: xs) e2) : wCons w r e Q := h
theorem D_p {w : WE} {e : Env} {Q : D → Env → Prop} (h : w e fun ev e => frz ev e Q) : wD w e Q := h
theorem allD_f {α : Type} {f : α → D} {ts : List α} : allD (ts.map fun t => .d (f t)) = some (ts.map f) := by rw [dmap]; exact allD_map _
theorem tupS {i : Nat} {e : Env} {os : List OT} {xs : List D} {Q : EV → Env → Prop} (h : sget e i = .t (.l os)) (ha : allD os = some xs) (q : Q (.d (.tup xs)) e) : wB1 bTuple (wSl i) e Q := by
  unfold wB1 wP wSl
  rw [h]
  show bTuple e (.s i) fun ev' => Q ev' e
  have hv : nodeOf e (.s i) = some (.l os) := by simp only [nodeOf, h]
  unfold bTuple
  rw [hv]
  show (match allD os with | some xs => Q (.d (.tup xs)) e | none => False)
  rw [ha]
  exact q
theorem tupD {i : Nat} {e : Env} {os : List OT} {xs : List D} {Q : D → Env → Prop} (h : sget e i = .t (.l os)) (ha : allD os = some xs) (q : Q (.tup xs) e) : wD (wB1 bTuple (wSl i)) e Q := tupS h ha q
theorem consTup {i : Nat} {e : Env} {os : List OT} {xs : List D} {r : WL} {Q : List D → Env → Prop} (h : sget e i = .t (.l os)) (ha : allD os = some xs) (q : r e fun ys e2 => Q (.tup xs :: ys) e2) : wCons (wD (wB1 bTuple (wSl i))) r e Q := tupS h ha q
theorem tupCons {i : Nat} {e : Env} {os : List OT} {xs : List D} {r : WL} {Q : EV → Env → Prop} (h : sget e i = .t (.l os)) (ha : allD os = some xs) (q : r e fun ys e2 => (D.tup xs :: ys).length ≤ 1000000 ∧ Q (.d (.tup (.tup xs :: ys))) e2) : wTup (wCons (wD (wB1 bTuple (wSl i))) r) e Q := tupS h ha q
theorem lstS {i : Nat} {e : Env} {os : List OT} {xs : List D} {Q : EV → Env → Prop} (h : sget e i = .t (.l os)) (ha : allD os = some xs) (q : Q (.o (.l (xs.map .d))) e) : wB1 bList (wSl i) e Q := by
  unfold wB1 wP wSl
  rw [h]
  show bList e (.s i) fun ev' => Q ev' e
  have hv : nodeOf e (.s i) = some (.l os) := by simp only [nodeOf, h]
  unfold bList
  rw [hv]
  show (match allD os with | some xs => Q (.o (.l (xs.map .d))) e | none => False)
  rw [ha]
  exact q
theorem dns_cons {lo : Int} {n : Nat} : dns lo (n + 1) = .int lo :: dns (lo - 1) n := by
  unfold dns
  rw [List.range_succ_eq_map, List.map_cons, List.map_map]
  have h0 : lo - ((0 : Nat) : Int) = lo := by omega
  rw [h0]
  congr 1
  refine List.map_congr_left fun i _ => ?_
  show D.int (lo - ((i + 1 : Nat) : Int)) = D.int (lo - 1 - (i : Int))
  congr 1
  omega
theorem for_dn {σ : Type} {g : WG} {b : WS} {P : Env → Prop} {C : PP} {lo : Int} (E : σ → Env) (I : Nat → σ → Prop) (n : Nat)
    (step : ∀ (k : Nat) s (C' : PP), k < n → I (k + 1) s → C'.rt = C.rt → C'.bk = C.nx → (∀ s', I k s' → C'.nx (E s')) → (∀ s', I k s' → C'.ct (E s')) → Fg C'.nx → Fg C'.ct → P (E s) ∧ g (.int (k : Int)) (E s) (Gf fun e1 => b e1 C')) (done : ∀ s, I 0 s → P (E s) ∧ C.nx (E s)) :
    ∀ (m : Nat) (s : σ), m ≤ n → lo = (m : Int) - 1 → I m s → wFor g b P (dns lo m) (E s) C
  | 0, s, _, _, h => done s h
  | m + 1, s, hm, hlo, h => by
    rw [dns_cons]
    have e : lo = (m : Int) := by omega
    subst e
    exact step m s { C with nx := Gf fun e => wFor g b P (dns ((m : Int) - 1) m) e C, ct := Gf fun e => wFor g b P (dns ((m : Int) - 1) m) e C, bk := C.nx } (by omega) h rfl rfl
      (fun s' h' => .mk (for_dn E I n step done m s' (by omega) rfl h')) (fun s' h' => .mk (for_dn E I n step done m s' (by omega) rfl h')) Fg.gf Fg.gf
def Fz (P : Env → Prop) : Prop := ∀ (j : Nat) (o : OT) (e : Env), treeOf e j = some o → P (sset (clr j e) j ((sget e j).put (.d (res o)))) → P e
theorem Fz.gf {Q : Env → Prop} : Fz (Gf Q) := fun j o _ h q => .fz j o h q
/-- the ways of a statement meet -/
theorem seqMeet {a r : WS} {e : Env} {P : PP} (J : Env → Prop) (h : ∀ C' : PP, C'.rt = P.rt → C'.bk = P.bk → C'.ct = P.ct → (∀ e, J e → C'.nx e) → Fg C'.nx → Fz C'.nx → a e C') (hJ : ∀ e, J e → r e P) : wSeq a r e P :=
  h { P with nx := Gf fun e => r e P } rfl rfl rfl (fun e q => .mk (hJ e q)) Fg.gf Fz.gf
theorem ifS {t : WT} {a b : WS} {e : Env} {P : PP} {c : Bool} (ht : ∀ R : Bool → Env → Prop, R c e → t e R) (h : Brn c (a e P) (b e P)) : wIfS t a b e P := ht _ h
/-- a proposition as a bool -/
noncomputable def pdec (p : Prop) : Bool := @decide p (Classical.propDecidable p)
theorem pdec_iff {p : Prop} : pdec p = true ↔ p := by unfold pdec; exact @decide_eq_true_iff p (Classical.propDecidable p)
theorem pdec_eq {b : Bool} {p : Prop} (h : b = true ↔ p) : b = pdec p := by
  cases b with
  | true => exact (pdec_iff (p := p)).mpr (h.mp rfl) |>.symm
  | false =>
    cases e : pdec p with
    | false => rfl
    | true => cases h.mpr (pdec_iff.mp e)
theorem Brn.dc {p : Prop} {A B : Prop} (ht : p → A) (hf : ¬ p → B) : Brn (pdec p) A B := .by pdec_iff ht hf
theorem Brn.dcn {p : Prop} {A B : Prop} (ht : ¬ p → A) (hf : p → B) : Brn (!pdec p) A B := by
  cases e : pdec p with
  | true => exact .f rfl (hf (pdec_iff.mp e))
  | false => exact .t rfl (ht fun q => by rw [pdec_iff.mpr q] at e; cases e)
end Bv
end SBvT
section SBvS
set_option linter.all false
set_option Elab.async false
set_option maxHeartbeats 1000000
open PySem PySem.Spec PyProof.Rows L2
namespace Bv
def G_pool : WE := bodyW 2 4 (wSeq (wAsg 2 (wC (.int 0))) (wSeq (wIfS (wTest (wOp boLt (wD (wSl 1)) (wD (wB1 bLen (wSl 0))))) (wSeq (wAsg 2 (wOp boAdd (wD (wOp boMul (wD (wC (.int 2))) (wD (wB1 bAbs (wB1 bInt (wSubN 0 (wD (wSl 1)))))))) (wD (wB1 bInt (wOp boLt (wD (wSubN 0 (wD (wSl 1)))) (wD (wC (.int 0)))))))) (wPass)) (wPass)) (wSeq (wAsg 3 (wC (.int 0))) (wSeq (wIfS (wTest (wOp boGe (wD (wSl 2)) (wD (wOp boPow (wD (wC (.int 10))) (wD (wC (.int 18))))))) (wSeq (wAsg 3 (wSl 2)) (wPass)) (wPass)) (wSeq (wRet (wLst (wConsO (wO (wSl 3)) (wConsO (wO (wOp boMod (wD (wB1 bInt (wOp boAdd (wD (wSl 2)) (wD (wOp boMul (wD (wC (.int 1000003))) (wD (wOp boAdd (wD (wSl 1)) (wD (wC (.int 1)))))))))) (wD (wC (.int 2147483647))))) (wConsO (wO (wC (.int 0))) (wNilO)))))) (wPass))))))
def G_draw : WE := bodyW 2 4 (wSeq (wIfS (wTest (wOp boGt (wD (wSubN 0 (wD (wC (.int 0))))) (wD (wC (.int 0))))) (wSeq (wAsg 2 (wOp boMod (wD (wB1 bInt (wSubN 0 (wD (wC (.int 0)))))) (wD (wSl 1)))) (wSeq (wSetI 0 (wD (wC (.int 0))) (wD (wOp boFdiv (wD (wSubN 0 (wD (wC (.int 0))))) (wD (wSl 1))))) (wSeq (wRet (wSl 2)) (wPass)))) (wPass)) (wSeq (wSetI 0 (wD (wC (.int 2))) (wD (wOp boAdd (wD (wSubN 0 (wD (wC (.int 2))))) (wD (wC (.int 1)))))) (wSeq (wAsg 3 (wOp boMod (wD (wB1 bInt (wOp boAdd (wD (wSubN 0 (wD (wC (.int 1))))) (wD (wOp boMul (wD (wSubN 0 (wD (wC (.int 2))))) (wD (wC (.int 7368787)))))))) (wD (wC (.int 2147483647))))) (wSeq (wAsg 3 (wOp boMod (wD (wB1 bInt (wOp boAdd (wD (wOp boAdd (wD (wOp boMul (wD (wSl 3)) (wD (wSl 3)))) (wD (wOp boMul (wD (wC (.int 69621))) (wD (wSl 3)))))) (wD (wSubN 0 (wD (wC (.int 2)))))))) (wD (wC (.int 2147483629))))) (wSeq (wAsg 3 (wOp boMod (wD (wB1 bInt (wOp boAdd (wD (wOp boAdd (wD (wOp boMul (wD (wSl 3)) (wD (wSl 3)))) (wD (wOp boMul (wD (wC (.int 48271))) (wD (wSl 3)))))) (wD (wC (.int 12820163)))))) (wD (wC (.int 2147483587))))) (wSeq (wRet (wOp boMod (wD (wB1 bInt (wOp boFdiv (wD (wSl 3)) (wD (wC (.int 8)))))) (wD (wSl 1)))) (wPass)))))))
def G_pick : WE := bodyW 2 2 (wSeq (wRet (wSubN 1 (wD (wCall 2 G_draw (wConsS 0 (wConsD (wD (wB1 bLen (wSl 1))) (wNilR))))))) (wPass))
def G_up : WE := bodyW 3 3 (wSeq (wIfS (wTest (wOp boGt (wD (wCall 2 G_draw (wConsS 0 (wConsD (wD (wC (.int 4))) (wNilR))))) (wD (wC (.int 0))))) (wSeq (wRet (wCall 2 G_draw (wConsS 0 (wConsS 1 (wNilR))))) (wPass)) (wPass)) (wSeq (wRet (wCall 2 G_draw (wConsS 0 (wConsS 2 (wNilR))))) (wPass)))
def G_same : Nat → WE
  | 0 => fun _ _ => False
  | d + 1 => bodyW 2 3 (wSeq (wIfS (wTru (wIsi (wSl 1) .tuple)) (wSeq (wIfS (wOrT (wNotT (wTru (wIsi (wSl 0) .tuple))) (wTest (wOp boNe (wD (wB1 bLen (wSl 0))) (wD (wB1 bLen (wSl 1)))))) (wSeq (wRet (wC (.bl false))) (wPass)) (wPass)) (wSeq (wRet (wOp boEq (wD (wLc (wR1 (wCons (wD (wB1 bLen (wSl 1))) (wNil))) [2] (gN 2) (wNotT (wTru (wCall 2 (G_same d) (wConsD (wD (wSubN 0 (wD (wSl 2)))) (wConsD (wD (wSubN 1 (wD (wSl 2)))) (wNilR)))))) (wO (wSl 2)))) (wD (wLst (wNilO))))) (wPass))) (wPass)) (wSeq (wIfS (wTest (wOp boIs (wD (wSl 1)) (wD (wC .non)))) (wSeq (wRet (wOp boIs (wD (wSl 0)) (wD (wC .non)))) (wPass)) (wPass)) (wSeq (wIfS (wOrT (wTest (wOp boIs (wD (wSl 1)) (wD (wC (.bl true))))) (wTest (wOp boIs (wD (wSl 1)) (wD (wC (.bl false)))))) (wSeq (wRet (wAndV (wIsi (wSl 0) .bool) (wOp boEq (wD (wSl 0)) (wD (wSl 1))))) (wPass)) (wPass)) (wSeq (wIfS (wTru (wIsi (wSl 1) .str)) (wSeq (wRet (wAndV (wIsi (wSl 0) .str) (wOp boEq (wD (wSl 0)) (wD (wSl 1))))) (wPass)) (wPass)) (wSeq (wRet (wAndV (wIsi (wSl 0) .int) (wAndV (wNotV (wIsi (wSl 0) .bool)) (wOp boEq (wD (wSl 0)) (wD (wSl 1)))))) (wPass))))))
local macro_rules | `(tactic| infer_instance) => `(tactic| simp only [frameE, argF, List.map_cons, List.map_nil, List.cons_append, List.nil_append, List.length_cons, List.length_nil, Nat.reduceAdd, Nat.reduceSub, Int.reduceAdd, List.replicate, sset, clr, clr1, mutE, treeOf, sget, SV.put, nodeSet, clrx, clrx1, hideR, restE, keepD, refs, Int.toNat_zero, Int.reduceToNat, List.set_cons_zero, List.set_cons_succ, reduceIte, Nat.reduceEqDiff, reduceCtorEq, sx, res, resL, resL_ti, resL_d, forgetL, forget, ti_snoc, ti_set, List.getElem?_cons_zero, List.getElem?_cons_succ, nodeAt, Bool.and_false, Bool.false_and, Bool.false_eq_true])
local macro_rules | `(tactic| eq_refl) => `(tactic| first | with_reducible assumption | (with_reducible refine seqRet ?_) | (with_reducible refine orV (c1 := ?_) (c2 := ?_) (fun R h => ?_) (fun g R h => ?_) ?_; rotate_left 2) | (with_reducible refine andV (c1 := ?_) (c2 := ?_) (fun R h => ?_) (fun g R h => ?_) ?_; rotate_left 2) | (with_reducible refine seqIf (c := ?_) (fun R h => ?_) ?_; rotate_left) | (with_reducible refine ifS (c := ?_) (fun R h => ?_) ?_; rotate_left) | (with_reducible refine orT (c1 := ?_) (c2 := ?_) (fun R h => ?_) (fun g R h => ?_) ?_; rotate_left 2) | (with_reducible refine andT (c1 := ?_) (c2 := ?_) (fun R h => ?_) (fun g R h => ?_) ?_; rotate_left 2) | (with_reducible refine testC (w := wChain _ _ _ _ _) (c := ?_) (fun R h => ?_) ?_; rotate_left) | (with_reducible refine chainV (x := ?_) (y := ?_) (z := ?_) (c1 := ?_) (c2 := ?_) (fun R h => ?_) (fun R h => ?_) (fun R h => ?_) (fun g R h => ?_) (fun g R h => ?_) ?_; rotate_left 5) | (with_reducible refine notT (c1 := ?_) (fun R h => ?_) ?_; rotate_left) | refine ⟨rfl, ?_⟩ | refine ⟨_, rfl, ?_⟩ | refine ⟨⟨⟩, ?_⟩ | (apply Gf.mk; try infer_instance) | refine ⟨by first | decide | (dsimp only; decide), ?_⟩ | refine ⟨⟨by decide, by decide, by decide⟩, ?_⟩ | refine ⟨Or.inr ⟨by decide, by decide⟩, ?_⟩ | refine ⟨Or.inl ⟨by decide, by decide⟩, ?_⟩ | refine ixS_at (by assumption) (by first | exact ti_get (by assumption) | exact map_get (li_get (by assumption)) | exact map_get (by assumption)) ?_ | refine ⟨nd1, ?_⟩ | refine ⟨nd0, ?_⟩ | refine ⟨Nat.le_of_ble_eq_true rfl, ?_⟩ | refine ⟨by simp only [ti_len, li_len, List.length_map, List.length_append, List.length_cons, List.length_nil]; omega, ?_⟩ | refine ⟨⟨rfl, by decide⟩, _, rfl, ?_⟩ | refine ⟨⟨rfl, by decide⟩, ?_⟩ | ((with_reducible apply tupD); exact rfl; first | exact allD_ti | exact allD_f | exact allD_map _) | ((with_reducible apply consTup); exact rfl; first | exact allD_ti | exact allD_f | exact allD_map _) | ((with_reducible apply tupCons); exact rfl; first | exact allD_ti | exact allD_f | exact allD_map _) | ((with_reducible apply tupS); exact rfl; first | exact allD_ti | exact allD_f | exact allD_map _) | ((with_reducible apply lstS); exact rfl; first | exact allD_ti | exact allD_f | exact allD_map _) | refine Brn.t rfl ?_ | refine Brn.f rfl ?_ | assumption)
local macro_rules | `(tactic| ac_rfl) => `(tactic| first | with_reducible assumption | (with_reducible refine seqRet ?_) | (with_reducible refine orV (c1 := ?_) (c2 := ?_) (fun R h => ?_) (fun g R h => ?_) ?_; rotate_left 2) | (with_reducible refine andV (c1 := ?_) (c2 := ?_) (fun R h => ?_) (fun g R h => ?_) ?_; rotate_left 2) | (with_reducible refine seqIf (c := ?_) (fun R h => ?_) ?_; rotate_left) | (with_reducible refine ifS (c := ?_) (fun R h => ?_) ?_; rotate_left) | (with_reducible refine orT (c1 := ?_) (c2 := ?_) (fun R h => ?_) (fun g R h => ?_) ?_; rotate_left 2) | (with_reducible refine andT (c1 := ?_) (c2 := ?_) (fun R h => ?_) (fun g R h => ?_) ?_; rotate_left 2) | (with_reducible refine testC (w := wChain _ _ _ _ _) (c := ?_) (fun R h => ?_) ?_; rotate_left) | (with_reducible refine chainV (x := ?_) (y := ?_) (z := ?_) (c1 := ?_) (c2 := ?_) (fun R h => ?_) (fun R h => ?_) (fun R h => ?_) (fun g R h => ?_) (fun g R h => ?_) ?_; rotate_left 5) | (with_reducible refine notT (c1 := ?_) (fun R h => ?_) ?_; rotate_left) | refine ⟨rfl, ?_⟩ | refine ⟨_, rfl, ?_⟩ | refine ⟨⟨⟩, ?_⟩ | refine ⟨by first | decide | (dsimp only; decide), ?_⟩ | refine ⟨⟨by decide, by decide, by decide⟩, ?_⟩ | refine ⟨Or.inr ⟨by decide, by decide⟩, ?_⟩ | refine ⟨Or.inl ⟨by decide, by decide⟩, ?_⟩ | refine ixS_at (by assumption) (by first | exact ti_get (by assumption) | exact map_get (li_get (by assumption)) | exact map_get (by assumption)) ?_ | refine ⟨nd1, ?_⟩ | refine ⟨nd0, ?_⟩ | refine ⟨Nat.le_of_ble_eq_true rfl, ?_⟩ | refine ⟨by simp only [ti_len, li_len, List.length_map, List.length_append, List.length_cons, List.length_nil]; omega, ?_⟩ | refine ⟨⟨rfl, by decide⟩, _, rfl, ?_⟩ | refine ⟨⟨rfl, by decide⟩, ?_⟩ | ((with_reducible apply tupD); exact rfl; first | exact allD_ti | exact allD_f | exact allD_map _) | ((with_reducible apply consTup); exact rfl; first | exact allD_ti | exact allD_f | exact allD_map _) | ((with_reducible apply tupCons); exact rfl; first | exact allD_ti | exact allD_f | exact allD_map _) | ((with_reducible apply tupS); exact rfl; first | exact allD_ti | exact allD_f | exact allD_map _) | ((with_reducible apply lstS); exact rfl; first | exact allD_ti | exact allD_f | exact allD_map _) | refine Brn.t rfl ?_ | refine Brn.f rfl ?_ | assumption)

/-- the pool of draws -/
structure Po where
  a : Int
  b : Int
  c : Int
  ha : 0 ≤ a
  hb : 0 ≤ b
  hc : 0 ≤ c
def Po.o (p : Po) : OT := .l [.d (.int p.a), .d (.int p.b), .d (.int p.c)]
abbrev TEnv := Bv.Env
theorem draw_ok {p : Po} {many : Int} {Q : EV → TEnv → Prop} (hm : 0 < many) (hm2 : many < 1000000000) (h : ∀ (p : Po) r, 0 ≤ r → r < many → Q (.d (.int r)) [SV.t p.o, SV.no]) : G_draw [.t p.o, .t (.d (.int many))] Q := by
  obtain ⟨a, b, c, ha, hb, hc⟩ := p
  have h' : ∀ a b c r, 0 ≤ a → 0 ≤ b → 0 ≤ c → 0 ≤ r → r < many → Q (.d (.int r)) [SV.t (.l [.d (.int a), .d (.int b), .d (.int c)]), SV.no] := fun a b c r ha hb hc h0 h1 => h ⟨a, b, c, ha, hb, hc⟩ r h0 h1
  have cdl : ∀ z, CDiv z 8 := fun z => ⟨by decide, by decide⟩
  show G_draw [.t (.l [.d (.int a), .d (.int b), .d (.int c)]), .t (.d (.int many))] Q
  clear h
  repeat eq_refl
  refine .dec (fun h1 => ?_) (fun h1 => ?_)
  · repeat eq_refl
    refine mod_ hm fun r r0 r1 => ?_
    repeat eq_refl
    refine ⟨⟨hm, by omega⟩, ?_⟩
    repeat eq_refl
    exact h' _ _ _ _ (Int.ediv_nonneg ha (by omega)) hb hc r0 r1
  · repeat eq_refl
    refine modI (j := 2147483647) (by decide) fun x x0 x1 => ?_
    repeat eq_refl
    refine ⟨mulS x0 x1, ?_⟩
    repeat eq_refl
    refine modI (j := 2147483629) (by decide) fun y y0 y1 => ?_
    repeat eq_refl
    refine ⟨mulS y0 (by omega), ?_⟩
    repeat eq_refl
    refine modI (j := 2147483587) (by decide) fun z z0 z1 => ?_
    repeat eq_refl
    refine ⟨cdl _, ?_⟩
    repeat eq_refl
    refine mod_ hm fun r r0 r1 => ?_
    repeat eq_refl
    exact h' _ _ _ _ ha hb (by omega) r0 r1
theorem pick_ok {p : Po} {xs : List D} {Q : EV → TEnv → Prop} (h0 : 0 < xs.length) (h1 : xs.length < 1000000)
  (h : ∀ (p : Po) x, x ∈ xs → Q (.d x) [SV.t p.o, SV.no]) : G_pick [.t p.o, .t (.d (.lst xs))] Q := by
  repeat eq_refl
  refine .mk (draw_ok ?_ ?_ fun p r r0 r1 => ?_)
  · simp; omega
  · simp; omega
  repeat eq_refl
  obtain ⟨x, hx⟩ := int_get (xs := xs) r0 (by simpa using r1)
  refine ixS_at r0 (map_get hx) ?_
  repeat eq_refl
  exact h _ _ (List.mem_of_getElem? hx)
theorem pick_okT {p : Po} {xs : List D} {Q : EV → TEnv → Prop} (h0 : 0 < xs.length) (h1 : xs.length < 1000000)
  (h : ∀ (p : Po) x, x ∈ xs → Q (.d x) [SV.t p.o, SV.no]) : G_pick [.t p.o, .t (.d (.tup xs))] Q := by
  repeat eq_refl
  refine .mk (draw_ok ?_ ?_ fun p r r0 r1 => ?_)
  · simp; omega
  · simp; omega
  repeat eq_refl
  obtain ⟨x, hx⟩ := int_get (xs := xs) r0 (by simpa using r1)
  refine ixS_at r0 (map_get hx) ?_
  repeat eq_refl
  exact h _ _ (List.mem_of_getElem? hx)
/-- a draw out of ints that all keep a bound -/
theorem pick_int {p : Po} {ns : List Int} {P : Int → Prop} {Q : EV → TEnv → Prop} (hP : ∀ n ∈ ns, P n) (h0 : 0 < ns.length) (h1 : ns.length < 1000000)
  (h : ∀ (p : Po) n, P n → Q (.d (.int n)) [SV.t p.o, SV.no]) : G_pick [.t p.o, .t (.d (.lst (ns.map .int)))] Q :=
  pick_ok (by simpa using h0) (by simpa using h1) fun p x hx => by
    obtain ⟨n, hn, rfl⟩ := List.mem_map.mp hx
    exact h p n (hP n hn)
theorem up_ok {p : Po} {few many : Int} {Q : EV → TEnv → Prop} (hf : 0 < few) (hf2 : few < 1000000000) (hm : 0 < many) (hm2 : many < 1000000000)
  (h : ∀ (p : Po) r, 0 ≤ r → (r < few ∨ r < many) → Q (.d (.int r)) [SV.t p.o, SV.no, SV.no]) : G_up [.t p.o, .t (.d (.int few)), .t (.d (.int many))] Q := by
  repeat eq_refl
  refine .mk (draw_ok (by decide) (by decide) fun p r r0 r1 => ?_)
  repeat eq_refl
  refine .dec (fun _ => ?_) (fun _ => ?_)
  · repeat eq_refl
    refine .mk (draw_ok hf hf2 fun p r r0 r1 => ?_)
    repeat eq_refl
    exact h _ _ r0 (.inl r1)
  · repeat eq_refl
    refine .mk (draw_ok hm hm2 fun p r r0 r1 => ?_)
    repeat eq_refl
    exact h _ _ r0 (.inr r1)

theorem pool_ok {ns : List Int} {place : Int} {Q : EV → TEnv → Prop} (h0 : 0 ≤ place) (hp : place < 1000000) (h : ∀ p : Po, Q (.o p.o) [SV.no, SV.no]) : G_pool [.t (.d (.lsk (ns.map .int))), .t (.d (.int place))] Q := by
  have h' : ∀ a b, 0 ≤ a → 0 ≤ b → Q (.o (.l [.d (.int a), .d (.int b), .d (.int 0)])) [SV.no, SV.no] := fun a b ha hb => h ⟨a, b, 0, ha, hb, Int.le_refl _⟩
  clear h
  unfold G_pool bodyW
  try infer_instance
  repeat eq_refl
  refine .of (fun g => ?_) (fun g => ?_)
  · obtain ⟨n, hn⟩ := int_get (xs := ns) h0 (by simpa using g)
    have hn2 : (ns.map D.int)[place.toNat]? = some (.int n) := map_get hn
    repeat eq_refl
    generalize hc : ((2 * if n < 0 then -n else n) + if decide (n < 0) = true then 1 else 0) = cell
    have c0 : 0 ≤ cell := by
      by_cases q : n < 0
      · simp [q] at hc; omega
      · simp [q] at hc; omega
    refine .of (fun g => ?_) (fun g => ?_)
    all_goals
      repeat eq_refl
      refine modI (j := 2147483647) (by decide) fun r r0 r1 => ?_
      repeat eq_refl
    · exact h' _ _ c0 r0
    · exact h' _ _ (by decide) r0
  · repeat eq_refl
    refine modI (j := 2147483647) (by decide) fun r r0 r1 => ?_
    repeat eq_refl
    exact h' _ _ (by decide) r0
/-- data that the laws compare -/
def plainD : Nat → D → Bool
  | 0, _ => false
  | d + 1, x => match x with
    | .tup xs => decide (xs.length < 1000000) && xs.all (plainD d)
    | .int _ => true
    | .bl _ => true
    | .str x => PyData.strOk x
    | .non => true
    | _ => false
theorem same_ok : ∀ (d : Nat) {x : D} {Q : EV → TEnv → Prop}, plainD d x = true → Q (.d (.bl true)) [SV.no, SV.no] → G_same d [.t (.d x), .t (.d x)] Q
  | 0, x, Q, hp, _ => nomatch hp
  | d + 1, x, Q, hp, h => by
    cases x with
    | int i =>
      repeat eq_refl
      have e : decide (i = i) = true := by simp
      rw [e]
      exact h
    | bl b =>
      cases b
      all_goals repeat eq_refl
      all_goals exact h
    | str b =>
      repeat eq_refl
      have hs : PyData.strOk b = true := hp
      refine ⟨true, ?_, by assumption⟩
      · simp [eqD, toPy, SeqAt.shaped, PyData.eqv, PyData.canLay0, PyData.depth, hs]
      · exact h
    | non =>
      repeat eq_refl
    | tup xs =>
      have hp' : xs.length < 1000000 ∧ ∀ y ∈ xs, plainD d y = true := by simpa [plainD] using hp
      repeat eq_refl
      refine .f (by simp [Ty.sub]) ?_
      repeat eq_refl
      refine ⟨⟨by simp <;> omega, by simp <;> omega⟩, ?_⟩
      refine ⟨?_⟩
      infer_instance
      refine lc_upF (E := fun k => [.t (.d (.tup xs)), .t (.d (.tup xs)), .t (.d (.int (k : Int)))]) (c := fun k => false) (f := fun k => .d .non) trivial (fun k hk R h => ?_) (fun k hk R h => ?_) (fun k hk g R h => nomatch g) (fun k => ?_) (by simp <;> omega) ?_
      · (repeat eq_refl) <;> exact h
      · have hk : k < xs.length := by simpa using hk
        have k0 : 0 ≤ (k : Int) := by omega
        have hx : xs[(k : Int).toNat]? = some (xs[k]) := by rw [Int.toNat_natCast]; exact List.getElem?_eq_getElem hk
        repeat eq_refl
        refine .mk (same_ok d (hp'.2 _ (List.getElem_mem hk)) ?_)
        repeat eq_refl
      · exact rfl
      · rw [List.filter_eq_nil_iff.mpr (by simp)]
        repeat eq_refl
    | _ => exact nomatch hp
end Bv
end SBvS
section SW84
set_option linter.all false
set_option Elab.async false
set_option maxRecDepth 100000
set_option maxHeartbeats 0
open PySem PySem.Spec PyProof.Rows L2
namespace K84
open Bv
def top (i : Nat) : Stmt := PySem.Challenge.pw_gridstead_k84_clearing_judge_and_settlem.main.body.getD i (.Pass ⟨0, 0, 0, 0⟩)
def mem (st : Stmt) (i : Nat) : Stmt := match st with
  | .ClassDef (body := b) .. => b.getD i (.Pass ⟨0, 0, 0, 0⟩)
  | _ => .Pass ⟨0, 0, 0, 0⟩
abbrev FnP (K : PySem.W.Frag) (x qual : Str) (st : Stmt) (f : Addr) (fd : FuncData) : Prop := FunD K x qual (defArgs st) (defBody st) (defScope st) [] [] f fd
section
variable {K : PySem.W.Frag} {G : Hp}
theorem rep_non : Rep K G .non .non := by simp only [Rep]
theorem rep_bl {b : Bool} : Rep K G (.bl b) (.bl b) := by simp only [Rep]
theorem rep_int {i : Int} : Rep K G (.int i) (.int i) := by simp only [Rep]
theorem rep_str {x : Str} : Rep K G (.str x) (.str x) := by simp only [Rep]
theorem rep_adr {a : Addr} : Rep K G (.adr a) (.ref a) := by simp only [Rep]
end
def ao (ad : Nat → Addr) : Addr → Nat → Prop := fun C k => (C = ad 10 ∧ k ∈ [99, 48, 16, 58])
structure Wd (K : PySem.W.Frag) (mg : Str → Option Value) (ad : Nat → Addr) : Prop where
  fn_law_pool : ∃ fd, FnP K "_law_pool" "_law_pool" (top 16) (ad 13) fd
  glo_law_pool : mg "_law_pool" = some (.ref (ad 13))
  fn_law_draw : ∃ fd, FnP K "_law_draw" "_law_draw" (top 17) (ad 14) fd
  glo_law_draw : mg "_law_draw" = some (.ref (ad 14))
  fn_law_pick : ∃ fd, FnP K "_law_pick" "_law_pick" (top 18) (ad 15) fd
  glo_law_pick : mg "_law_pick" = some (.ref (ad 15))
  fn_law_up : ∃ fd, FnP K "_law_up" "_law_up" (top 19) (ad 16) fd
  glo_law_up : mg "_law_up" = some (.ref (ad 16))
  fn_law_price : ∃ fd, FnP K "_law_price" "_law_price" (top 21) (ad 18) fd
  glo_law_price : mg "_law_price" = some (.ref (ad 18))
  fn_law_trade : ∃ fd, FnP K "_law_trade" "_law_trade" (top 22) (ad 19) fd
  glo_law_trade : mg "_law_trade" = some (.ref (ad 19))
  fn_law_tie : ∃ fd, FnP K "_law_tie" "_law_tie" (top 23) (ad 20) fd
  glo_law_tie : mg "_law_tie" = some (.ref (ad 20))
  fn_law_filled : ∃ fd, FnP K "_law_filled" "_law_filled" (top 24) (ad 21) fd
  glo_law_filled : mg "_law_filled" = some (.ref (ad 21))
  fn_law_net : ∃ fd, FnP K "_law_net" "_law_net" (top 25) (ad 22) fd
  glo_law_net : mg "_law_net" = some (.ref (ad 22))
  fn_law_right : ∃ fd, FnP K "_law_right" "_law_right" (top 26) (ad 23) fd
  glo_law_right : mg "_law_right" = some (.ref (ad 23))
  fn_law_broken : ∃ fd, FnP K "_law_broken" "_law_broken" (top 27) (ad 24) fd
  glo_law_broken : mg "_law_broken" = some (.ref (ad 24))
  fn_law_made_good : ∃ fd, FnP K "_law_made_good" "_law_made_good" (top 28) (ad 25) fd
  glo_law_made_good : mg "_law_made_good" = some (.ref (ad 25))
  fn_law_spoilt : ∃ fd, FnP K "_law_spoilt" "_law_spoilt" (top 29) (ad 26) fd
  glo_law_spoilt : mg "_law_spoilt" = some (.ref (ad 26))
  fn_trades_of : ∃ fd, FnP K "trades_of" "trades_of" (top 1) (ad 0) fd
  glo_trades_of : mg "trades_of" = some (.ref (ad 0))
  fn_is_balanced : ∃ fd, FnP K "is_balanced" "is_balanced" (top 2) (ad 1) fd
  glo_is_balanced : mg "is_balanced" = some (.ref (ad 1))
  fn_shows_clearing : ∃ fd, FnP K "shows_clearing" "shows_clearing" (top 3) (ad 2) fd
  glo_shows_clearing : mg "shows_clearing" = some (.ref (ad 2))
  fn_link_fits : ∃ fd, FnP K "link_fits" "link_fits" (top 8) (ad 6) fd
  glo_link_fits : mg "link_fits" = some (.ref (ad 6))
  fn_trade_fits : ∃ fd, FnP K "trade_fits" "trade_fits" (top 9) (ad 7) fd
  glo_trade_fits : mg "trade_fits" = some (.ref (ad 7))
  fn_bad_rows : ∃ fd, FnP K "bad_rows" "bad_rows" (top 10) (ad 8) fd
  glo_bad_rows : mg "bad_rows" = some (.ref (ad 8))
  fn_bad_field : ∃ fd, FnP K "bad_field" "bad_field" (top 11) (ad 9) fd
  glo_bad_field : mg "bad_field" = some (.ref (ad 9))
  fn_Market___init__ : ∃ fd, FnP K "__init__" "Market.__init__" (mem (top 12) 0) (ad 11) fd
  fn_settlement : ∃ fd, FnP K "settlement" "settlement" (top 14) (ad 12) fd
  glo_settlement : mg "settlement" = some (.ref (ad 12))
  fn_law_same : ∃ fd, FnP K "_law_same" "_law_same" (top 20) (ad 17) fd
  glo_law_same : mg "_law_same" = some (.ref (ad 17))
  fn_law_products : ∃ fd, FnP K "_law_products" "_law_products" (top 30) (ad 27) fd
  glo_law_products : mg "_law_products" = some (.ref (ad 27))
  fn_law_case : ∃ fd, FnP K "_law_case" "_law_case" (top 31) (ad 28) fd
  glo_law_case : mg "_law_case" = some (.ref (ad 28))
  fn_law : ∃ fd, FnP K "law" "law" (top 32) (ad 29) fd
  glo_law : mg "law" = some (.ref (ad 29))
  glo_Market : mg "Market" = some (.ref (ad 10))
  mk_Market : Mk K (ad 10) (ad 11)
  free_abs : mg "abs" = none
  free_bool : mg "bool" = none
  free_enumerate : mg "enumerate" = none
  free_int : mg "int" = none
  free_isinstance : mg "isinstance" = none
  free_len : mg "len" = none
  free_list : mg "list" = none
  free_max : mg "max" = none
  free_min : mg "min" = none
  free_range : mg "range" = none
  free_str : mg "str" = none
  free_sum : mg "sum" = none
  free_tuple : mg "tuple" = none
  free_zip : mg "zip" = none
  hao : AO K (ao ad)
/-! _law_pool -/
theorem sc_law_pool : FnScope ["script", "place", "cell", "free"] ["script", "place"] (defScope (top 16)) := ⟨rfl, rfl, rfl, by decide +kernel, rfl, by decide +kernel, by decide +kernel⟩
def W_law_pool (ad : Nat → Addr) : WE := bodyW 2 4 (wSeq (wAsg 2 (wC (.int 0))) (wSeq (wIfS (wTest (wOp boLt (wD (wSl 1)) (wD (wB1 bLen (wSl 0))))) (wSeq (wAsg 2 (wOp boAdd (wD (wOp boMul (wD (wC (.int 2))) (wD (wB1 bAbs (wB1 bInt (wSubN 0 (wD (wSl 1)))))))) (wD (wB1 bInt (wOp boLt (wD (wSubN 0 (wD (wSl 1)))) (wD (wC (.int 0)))))))) (wPass)) (wPass)) (wSeq (wAsg 3 (wC (.int 0))) (wSeq (wIfS (wTest (wOp boGe (wD (wSl 2)) (wD (wOp boPow (wD (wC (.int 10))) (wD (wC (.int 18))))))) (wSeq (wAsg 3 (wSl 2)) (wPass)) (wPass)) (wSeq (wRet (wLst (wConsO (wO (wSl 3)) (wConsO (wO (wOp boMod (wD (wB1 bInt (wOp boAdd (wD (wSl 2)) (wD (wOp boMul (wD (wC (.int 1000003))) (wD (wOp boAdd (wD (wSl 1)) (wD (wC (.int 1)))))))))) (wD (wC (.int 2147483647))))) (wConsO (wO (wC (.int 0))) (wNilO)))))) (wPass))))))
theorem ok_law_pool {P : Program} {w : World} {K : PySem.W.Frag} {mg : Str → Option Value} {base : Heap} {ad : Nat → Addr} {fd : FuncData} (B : Wd K mg ad) (F : FnP K "_law_pool" "_law_pool" (top 16) (ad 13) fd) : FnOk P w K mg base CX0 1 (ad 13) fd ["script", "place"] (spW K 2 (W_law_pool ad)) := by
  exact fn_okW F sc_law_pool (by decide) fun cdv A outer s H E hr => (ss_cons (s_asg (ps_set (i := 2) sc_law_pool.nd rfl (Or.inl rfl) (d_c pe_int (fun _ => rep_int))) rfl) (ss_cons (s_if (t_cmp op_lt s_lt (rE_D (d_sl (pv 1))) (rE_D (d_b1 bs_len call_len_seq rfl (B.free_len) boot_len (d_sl (pv 0)) (by decide) rfl rfl)) rfl) (ss_cons (s_asg (ps_set (i := 2) sc_law_pool.nd rfl (Or.inl rfl) (d_op op_addA s_add (rE_D (d_op op_mulA s_mul (rE_D (d_c pe_int (fun _ => rep_int))) (rE_D (d_b1 bs_abs call_abs rfl (B.free_abs) boot_abs (d_t1 bs_int call_int1 rfl (B.free_int) boot_int (d_subN (pv 0) (rE_D (d_sl (pv 1))) (fun _ _ => rfl)) (by decide) rfl rfl) (by decide) rfl rfl)))) (rE_D (d_t1 bs_int call_int1 rfl (B.free_int) boot_int (d_cmp op_lt s_lt (rE_D (d_subN (pv 0) (rE_D (d_sl (pv 1))) (fun _ _ => rfl))) (rE_D (d_c pe_int (fun _ => rep_int))) rfl) (by decide) rfl rfl)))) rfl) ss_nil) ss_nil) (ss_cons (s_asg (ps_set (i := 3) sc_law_pool.nd rfl (Or.inl rfl) (d_c pe_int (fun _ => rep_int))) rfl) (ss_cons (s_if (t_cmp op_ge s_ge (rE_D (d_sl (pv 2))) (rE_D (d_op op_pow s_pow (rE_D (d_c pe_int (fun _ => rep_int))) (rE_D (d_c pe_int (fun _ => rep_int))))) rfl) (ss_cons (s_asg (ps_set (i := 3) sc_law_pool.nd rfl (Or.inl rfl) (d_sl (pv 2))) rfl) ss_nil) ss_nil) (ss_cons (s_ret (d_lst (o_cons (rE_O (d_sl (pv 3))) (o_cons (rE_O (d_op op_mod s_mod (rE_D (d_t1 bs_int call_int1 rfl (B.free_int) boot_int (d_op op_addA s_add (rE_D (d_sl (pv 2))) (rE_D (d_op op_mulA s_mul (rE_D (d_c pe_int (fun _ => rep_int))) (rE_D (d_op op_addA s_add (rE_D (d_sl (pv 1))) (rE_D (d_c pe_int (fun _ => rep_int)))))))) (by decide) rfl rfl)) (rE_D (d_c pe_int (fun _ => rep_int))))) (o_cons (rE_O (d_c pe_int (fun _ => rep_int))) o_nil rfl) rfl) rfl))) ss_nil)))))
/-! _law_draw -/
theorem sc_law_draw : FnScope ["pool", "many", "told", "mixed"] ["pool", "many"] (defScope (top 17)) := ⟨rfl, rfl, rfl, by decide +kernel, rfl, by decide +kernel, by decide +kernel⟩
def W_law_draw (ad : Nat → Addr) : WE := bodyW 2 4 (wSeq (wIfS (wTest (wOp boGt (wD (wSubN 0 (wD (wC (.int 0))))) (wD (wC (.int 0))))) (wSeq (wAsg 2 (wOp boMod (wD (wB1 bInt (wSubN 0 (wD (wC (.int 0)))))) (wD (wSl 1)))) (wSeq (wSetI 0 (wD (wC (.int 0))) (wD (wOp boFdiv (wD (wSubN 0 (wD (wC (.int 0))))) (wD (wSl 1))))) (wSeq (wRet (wSl 2)) (wPass)))) (wPass)) (wSeq (wSetI 0 (wD (wC (.int 2))) (wD (wOp boAdd (wD (wSubN 0 (wD (wC (.int 2))))) (wD (wC (.int 1)))))) (wSeq (wAsg 3 (wOp boMod (wD (wB1 bInt (wOp boAdd (wD (wSubN 0 (wD (wC (.int 1))))) (wD (wOp boMul (wD (wSubN 0 (wD (wC (.int 2))))) (wD (wC (.int 7368787)))))))) (wD (wC (.int 2147483647))))) (wSeq (wAsg 3 (wOp boMod (wD (wB1 bInt (wOp boAdd (wD (wOp boAdd (wD (wOp boMul (wD (wSl 3)) (wD (wSl 3)))) (wD (wOp boMul (wD (wC (.int 69621))) (wD (wSl 3)))))) (wD (wSubN 0 (wD (wC (.int 2)))))))) (wD (wC (.int 2147483629))))) (wSeq (wAsg 3 (wOp boMod (wD (wB1 bInt (wOp boAdd (wD (wOp boAdd (wD (wOp boMul (wD (wSl 3)) (wD (wSl 3)))) (wD (wOp boMul (wD (wC (.int 48271))) (wD (wSl 3)))))) (wD (wC (.int 12820163)))))) (wD (wC (.int 2147483587))))) (wSeq (wRet (wOp boMod (wD (wB1 bInt (wOp boFdiv (wD (wSl 3)) (wD (wC (.int 8)))))) (wD (wSl 1)))) (wPass)))))))
theorem ok_law_draw {P : Program} {w : World} {K : PySem.W.Frag} {mg : Str → Option Value} {base : Heap} {ad : Nat → Addr} {fd : FuncData} (B : Wd K mg ad) (F : FnP K "_law_draw" "_law_draw" (top 17) (ad 14) fd) : FnOk P w K mg base CX0 1 (ad 14) fd ["pool", "many"] (spW K 2 (W_law_draw ad)) := by
  exact fn_okW F sc_law_draw (by decide) fun cdv A outer s H E hr => (ss_cons (s_if (t_cmp op_gt s_gt (rE_D (d_subN (pv 0) (rE_D (d_c pe_int (fun _ => rep_int))) (fun _ _ => rfl))) (rE_D (d_c pe_int (fun _ => rep_int))) rfl) (ss_cons (s_asg (ps_set (i := 2) sc_law_draw.nd rfl (Or.inl rfl) (d_op op_mod s_mod (rE_D (d_t1 bs_int call_int1 rfl (B.free_int) boot_int (d_subN (pv 0) (rE_D (d_c pe_int (fun _ => rep_int))) (fun _ _ => rfl)) (by decide) rfl rfl)) (rE_D (d_sl (pv 1))))) rfl) (ss_cons (s_setI (ps_asg (rE_D (d_op op_fdiv s_fdiv (rE_D (d_subN (pv 0) (rE_D (d_c pe_int (fun _ => rep_int))) (fun _ _ => rfl))) (rE_D (d_sl (pv 1))))) (pg_sub (pv 0) (rE_D (d_c pe_int (fun _ => rep_int))) set_list))) (ss_cons (s_ret (d_sl (pv 2))) ss_nil))) ss_nil) (ss_cons (s_setI (ps_asg (rE_D (d_op op_addA s_add (rE_D (d_subN (pv 0) (rE_D (d_c pe_int (fun _ => rep_int))) (fun _ _ => rfl))) (rE_D (d_c pe_int (fun _ => rep_int))))) (pg_sub (pv 0) (rE_D (d_c pe_int (fun _ => rep_int))) set_list))) (ss_cons (s_asg (ps_set (i := 3) sc_law_draw.nd rfl (Or.inl rfl) (d_op op_mod s_mod (rE_D (d_t1 bs_int call_int1 rfl (B.free_int) boot_int (d_op op_addA s_add (rE_D (d_subN (pv 0) (rE_D (d_c pe_int (fun _ => rep_int))) (fun _ _ => rfl))) (rE_D (d_op op_mulA s_mul (rE_D (d_subN (pv 0) (rE_D (d_c pe_int (fun _ => rep_int))) (fun _ _ => rfl))) (rE_D (d_c pe_int (fun _ => rep_int)))))) (by decide) rfl rfl)) (rE_D (d_c pe_int (fun _ => rep_int))))) rfl) (ss_cons (s_asg (ps_set (i := 3) sc_law_draw.nd rfl (Or.inl rfl) (d_op op_mod s_mod (rE_D (d_t1 bs_int call_int1 rfl (B.free_int) boot_int (d_op op_addA s_add (rE_D (d_op op_addA s_add (rE_D (d_op op_mulA s_mul (rE_D (d_sl (pv 3))) (rE_D (d_sl (pv 3))))) (rE_D (d_op op_mulA s_mul (rE_D (d_c pe_int (fun _ => rep_int))) (rE_D (d_sl (pv 3))))))) (rE_D (d_subN (pv 0) (rE_D (d_c pe_int (fun _ => rep_int))) (fun _ _ => rfl)))) (by decide) rfl rfl)) (rE_D (d_c pe_int (fun _ => rep_int))))) rfl) (ss_cons (s_asg (ps_set (i := 3) sc_law_draw.nd rfl (Or.inl rfl) (d_op op_mod s_mod (rE_D (d_t1 bs_int call_int1 rfl (B.free_int) boot_int (d_op op_addA s_add (rE_D (d_op op_addA s_add (rE_D (d_op op_mulA s_mul (rE_D (d_sl (pv 3))) (rE_D (d_sl (pv 3))))) (rE_D (d_op op_mulA s_mul (rE_D (d_c pe_int (fun _ => rep_int))) (rE_D (d_sl (pv 3))))))) (rE_D (d_c pe_int (fun _ => rep_int)))) (by decide) rfl rfl)) (rE_D (d_c pe_int (fun _ => rep_int))))) rfl) (ss_cons (s_ret (d_op op_mod s_mod (rE_D (d_t1 bs_int call_int1 rfl (B.free_int) boot_int (d_op op_fdiv s_fdiv (rE_D (d_sl (pv 3))) (rE_D (d_c pe_int (fun _ => rep_int)))) (by decide) rfl rfl)) (rE_D (d_sl (pv 1))))) ss_nil))))))
/-! _law_pick -/
theorem sc_law_pick : FnScope ["pool", "row"] ["pool", "row"] (defScope (top 18)) := ⟨rfl, rfl, rfl, by decide +kernel, rfl, by decide +kernel, by decide +kernel⟩
def W_law_pick (ad : Nat → Addr) : WE := bodyW 2 2 (wSeq (wRet (wSubN 1 (wD (wCall 2 (W_law_draw ad) (wConsS 0 (wConsD (wD (wB1 bLen (wSl 1))) (wNilR))))))) (wPass))
theorem ok_law_pick {P : Program} {w : World} {K : PySem.W.Frag} {mg : Str → Option Value} {base : Heap} {ad : Nat → Addr} {fd : FuncData} (B : Wd K mg ad) (F : FnP K "_law_pick" "_law_pick" (top 18) (ad 15) fd) : FnOk P w K mg base CX0 2 (ad 15) fd ["pool", "row"] (spW K 2 (W_law_pick ad)) := by
  obtain ⟨fd_law_draw, F_law_draw⟩ := B.fn_law_draw
  have O_law_draw := ok_law_draw (P := P) (w := w) (base := base) B F_law_draw
  have b_law_draw : Binds K fd_law_draw ["pool", "many"] [] := F_law_draw.bindsN fun _ _ _ _ _ _ us hl => match us, hl with | [_, _], _ => rfl
  exact fn_okW F sc_law_pick (by decide) fun cdv A outer s H E hr => (ss_cons (s_ret (d_subN (pv 1) (rE_D (d_call O_law_draw (hr.mono (by decide)) rfl (B.glo_law_draw) F_law_draw.kp b_law_draw (r_slot (pv 0) (r_data (rE_D (d_b1 bs_len call_len_seq rfl (B.free_len) boot_len (d_sl (pv 1)) (by decide) rfl rfl)) r_nil rfl) rfl) rfl rfl rfl)) (fun _ _ => rfl))) ss_nil)
/-! _law_up -/
theorem sc_law_up : FnScope ["pool", "few", "many"] ["pool", "few", "many"] (defScope (top 19)) := ⟨rfl, rfl, rfl, by decide +kernel, rfl, by decide +kernel, by decide +kernel⟩
def W_law_up (ad : Nat → Addr) : WE := bodyW 3 3 (wSeq (wIfS (wTest (wOp boGt (wD (wCall 2 (W_law_draw ad) (wConsS 0 (wConsD (wD (wC (.int 4))) (wNilR))))) (wD (wC (.int 0))))) (wSeq (wRet (wCall 2 (W_law_draw ad) (wConsS 0 (wConsS 1 (wNilR))))) (wPass)) (wPass)) (wSeq (wRet (wCall 2 (W_law_draw ad) (wConsS 0 (wConsS 2 (wNilR))))) (wPass)))
theorem ok_law_up {P : Program} {w : World} {K : PySem.W.Frag} {mg : Str → Option Value} {base : Heap} {ad : Nat → Addr} {fd : FuncData} (B : Wd K mg ad) (F : FnP K "_law_up" "_law_up" (top 19) (ad 16) fd) : FnOk P w K mg base CX0 2 (ad 16) fd ["pool", "few", "many"] (spW K 3 (W_law_up ad)) := by
  obtain ⟨fd_law_draw, F_law_draw⟩ := B.fn_law_draw
  have O_law_draw := ok_law_draw (P := P) (w := w) (base := base) B F_law_draw
  have b_law_draw : Binds K fd_law_draw ["pool", "many"] [] := F_law_draw.bindsN fun _ _ _ _ _ _ us hl => match us, hl with | [_, _], _ => rfl
  exact fn_okW F sc_law_up (by decide) fun cdv A outer s H E hr => (ss_cons (s_if (t_cmp op_gt s_gt (rE_D (d_call O_law_draw (hr.mono (by decide)) rfl (B.glo_law_draw) F_law_draw.kp b_law_draw (r_slot (pv 0) (r_data (rE_D (d_c pe_int (fun _ => rep_int))) r_nil rfl) rfl) rfl rfl rfl)) (rE_D (d_c pe_int (fun _ => rep_int))) rfl) (ss_cons (s_ret (d_call O_law_draw (hr.mono (by decide)) rfl (B.glo_law_draw) F_law_draw.kp b_law_draw (r_slot (pv 0) (r_slot (pv 1) r_nil rfl) rfl) rfl rfl rfl)) ss_nil) ss_nil) (ss_cons (s_ret (d_call O_law_draw (hr.mono (by decide)) rfl (B.glo_law_draw) F_law_draw.kp b_law_draw (r_slot (pv 0) (r_slot (pv 2) r_nil rfl) rfl) rfl rfl rfl)) ss_nil))
/-! _law_price -/
theorem sc_law_price : FnScope ["pool", "mark", "near"] ["pool", "mark"] (defScope (top 21)) := ⟨rfl, rfl, rfl, by decide +kernel, rfl, by decide +kernel, by decide +kernel⟩
def W_law_price (ad : Nat → Addr) : WE := bodyW 2 3 (wSeq (wAsg 2 (wCall 2 (W_law_pick ad) (wConsS 0 (wConsD (wD (wLst (wConsO (wO (wSl 1)) (wConsO (wO (wSl 1)) (wConsO (wO (wOp boAdd (wD (wSl 1)) (wD (wC (.int 1))))) (wConsO (wO (wOp boSub (wD (wSl 1)) (wD (wC (.int 1))))) (wConsO (wO (wOp boSub (wD (wCall 2 (W_law_draw ad) (wConsS 0 (wConsD (wD (wC (.int 199))) (wNilR))))) (wD (wC (.int 99))))) (wNilO)))))))) (wNilR))))) (wSeq (wRet (wBL bMax2 (wCons (wD (wNeg (wD (wC (.int 99))))) (wCons (wD (wBL bMin2 (wCons (wD (wC (.int 99))) (wCons (wD (wSl 2)) (wNil))))) (wNil))))) (wPass)))
theorem ok_law_price {P : Program} {w : World} {K : PySem.W.Frag} {mg : Str → Option Value} {base : Heap} {ad : Nat → Addr} {fd : FuncData} (B : Wd K mg ad) (F : FnP K "_law_price" "_law_price" (top 21) (ad 18) fd) : FnOk P w K mg base CX0 3 (ad 18) fd ["pool", "mark"] (spW K 2 (W_law_price ad)) := by
  obtain ⟨fd_law_draw, F_law_draw⟩ := B.fn_law_draw
  have O_law_draw := ok_law_draw (P := P) (w := w) (base := base) B F_law_draw
  have b_law_draw : Binds K fd_law_draw ["pool", "many"] [] := F_law_draw.bindsN fun _ _ _ _ _ _ us hl => match us, hl with | [_, _], _ => rfl
  obtain ⟨fd_law_pick, F_law_pick⟩ := B.fn_law_pick
  have O_law_pick := ok_law_pick (P := P) (w := w) (base := base) B F_law_pick
  have b_law_pick : Binds K fd_law_pick ["pool", "row"] [] := F_law_pick.bindsN fun _ _ _ _ _ _ us hl => match us, hl with | [_, _], _ => rfl
  exact fn_okW F sc_law_price (by decide) fun cdv A outer s H E hr => (ss_cons (s_asg (ps_set (i := 2) sc_law_price.nd rfl (Or.inl rfl) (d_call O_law_pick (hr.mono (by decide)) rfl (B.glo_law_pick) F_law_pick.kp b_law_pick (r_slot (pv 0) (r_data (rE_D (d_lst (o_cons (rE_O (d_sl (pv 1))) (o_cons (rE_O (d_sl (pv 1))) (o_cons (rE_O (d_op op_addA s_add (rE_D (d_sl (pv 1))) (rE_D (d_c pe_int (fun _ => rep_int))))) (o_cons (rE_O (d_op op_sub s_sub (rE_D (d_sl (pv 1))) (rE_D (d_c pe_int (fun _ => rep_int))))) (o_cons (rE_O (d_op op_sub s_sub (rE_D (d_call O_law_draw (hr.mono (by decide)) rfl (B.glo_law_draw) F_law_draw.kp b_law_draw (r_slot (pv 0) (r_data (rE_D (d_c pe_int (fun _ => rep_int))) r_nil rfl) rfl) rfl rfl rfl)) (rE_D (d_c pe_int (fun _ => rep_int))))) o_nil rfl) rfl) rfl) rfl) rfl))) r_nil rfl) rfl) rfl rfl rfl)) rfl) (ss_cons (s_ret (d_bl cs_max2 (call_max2 rfl) rfl (B.free_max) boot_max (l_cons (rE_D (d_neg (rE_D (d_c pe_int (fun _ => rep_int))))) (l_cons (rE_D (d_bl cs_min2 (call_min2 rfl) rfl (B.free_min) boot_min (l_cons (rE_D (d_c pe_int (fun _ => rep_int))) (l_cons (rE_D (d_sl (pv 2))) l_nil rfl) rfl) (by decide) rfl rfl rfl)) l_nil rfl) rfl) (by decide) rfl rfl rfl)) ss_nil))
/-! _law_trade -/
theorem sc_law_trade : FnScope ["pool", "marks", "side", "spot", "units", "price", "part"] ["pool", "marks", "side"] (defScope (top 22)) := ⟨rfl, rfl, rfl, by decide +kernel, rfl, by decide +kernel, by decide +kernel⟩
def W_law_trade (ad : Nat → Addr) : WE := bodyW 3 7 (wSeq (wAsg 3 (wCall 2 (W_law_draw ad) (wConsS 0 (wConsD (wD (wB1 bLen (wSl 1))) (wNilR))))) (wSeq (wAsg 4 (wOp boAdd (wD (wC (.int 1))) (wD (wCall 3 (W_law_up ad) (wConsS 0 (wConsD (wD (wC (.int 5))) (wConsD (wD (wC (.int 30))) (wNilR)))))))) (wSeq (wAsg 5 (wCall 2 (W_law_price ad) (wConsS 0 (wConsD (wD (wSubN 1 (wD (wSl 3)))) (wNilR))))) (wSeq (wAsg 6 (wCall 2 (W_law_pick ad) (wConsS 0 (wConsD (wD (wLst (wConsO (wO (wC (.int 0))) (wConsO (wO (wSl 4)) (wConsO (wO (wCall 2 (W_law_draw ad) (wConsS 0 (wConsD (wD (wOp boAdd (wD (wSl 4)) (wD (wC (.int 1))))) (wNilR))))) (wNilO)))))) (wNilR))))) (wSeq (wIfS (wTest (wOp boGt (wD (wOp boMul (wD (wSl 2)) (wD (wSl 5)))) (wD (wOp boMul (wD (wSl 2)) (wD (wSubN 1 (wD (wSl 3)))))))) (wSeq (wAsg 6 (wSl 4)) (wPass)) (wPass)) (wSeq (wIfS (wTest (wOp boLt (wD (wOp boMul (wD (wSl 2)) (wD (wSl 5)))) (wD (wOp boMul (wD (wSl 2)) (wD (wSubN 1 (wD (wSl 3)))))))) (wSeq (wAsg 6 (wC (.int 0))) (wPass)) (wPass)) (wSeq (wRet (wTup (wCons (wD (wTup (wCons (wD (wSl 3)) (wCons (wD (wSl 4)) (wCons (wD (wSl 5)) (wNil)))))) (wCons (wD (wSl 6)) (wNil))))) (wPass))))))))
theorem ok_law_trade {P : Program} {w : World} {K : PySem.W.Frag} {mg : Str → Option Value} {base : Heap} {ad : Nat → Addr} {fd : FuncData} (B : Wd K mg ad) (F : FnP K "_law_trade" "_law_trade" (top 22) (ad 19) fd) : FnOk P w K mg base CX0 4 (ad 19) fd ["pool", "marks", "side"] (spW K 3 (W_law_trade ad)) := by
  obtain ⟨fd_law_draw, F_law_draw⟩ := B.fn_law_draw
  have O_law_draw := ok_law_draw (P := P) (w := w) (base := base) B F_law_draw
  have b_law_draw : Binds K fd_law_draw ["pool", "many"] [] := F_law_draw.bindsN fun _ _ _ _ _ _ us hl => match us, hl with | [_, _], _ => rfl
  obtain ⟨fd_law_pick, F_law_pick⟩ := B.fn_law_pick
  have O_law_pick := ok_law_pick (P := P) (w := w) (base := base) B F_law_pick
  have b_law_pick : Binds K fd_law_pick ["pool", "row"] [] := F_law_pick.bindsN fun _ _ _ _ _ _ us hl => match us, hl with | [_, _], _ => rfl
  obtain ⟨fd_law_up, F_law_up⟩ := B.fn_law_up
  have O_law_up := ok_law_up (P := P) (w := w) (base := base) B F_law_up
  have b_law_up : Binds K fd_law_up ["pool", "few", "many"] [] := F_law_up.bindsN fun _ _ _ _ _ _ us hl => match us, hl with | [_, _, _], _ => rfl
  obtain ⟨fd_law_price, F_law_price⟩ := B.fn_law_price
  have O_law_price := ok_law_price (P := P) (w := w) (base := base) B F_law_price
  have b_law_price : Binds K fd_law_price ["pool", "mark"] [] := F_law_price.bindsN fun _ _ _ _ _ _ us hl => match us, hl with | [_, _], _ => rfl
  exact fn_okW F sc_law_trade (by decide) fun cdv A outer s H E hr => (ss_cons (s_asg (ps_set (i := 3) sc_law_trade.nd rfl (Or.inl rfl) (d_call O_law_draw (hr.mono (by decide)) rfl (B.glo_law_draw) F_law_draw.kp b_law_draw (r_slot (pv 0) (r_data (rE_D (d_b1 bs_len call_len_seq rfl (B.free_len) boot_len (d_sl (pv 1)) (by decide) rfl rfl)) r_nil rfl) rfl) rfl rfl rfl)) rfl) (ss_cons (s_asg (ps_set (i := 4) sc_law_trade.nd rfl (Or.inl rfl) (d_op op_addA s_add (rE_D (d_c pe_int (fun _ => rep_int))) (rE_D (d_call O_law_up (hr.mono (by decide)) rfl (B.glo_law_up) F_law_up.kp b_law_up (r_slot (pv 0) (r_data (rE_D (d_c pe_int (fun _ => rep_int))) (r_data (rE_D (d_c pe_int (fun _ => rep_int))) r_nil rfl) rfl) rfl) rfl rfl rfl)))) rfl) (ss_cons (s_asg (ps_set (i := 5) sc_law_trade.nd rfl (Or.inl rfl) (d_call O_law_price (hr.mono (by decide)) rfl (B.glo_law_price) F_law_price.kp b_law_price (r_slot (pv 0) (r_data (rE_D (d_subN (pv 1) (rE_D (d_sl (pv 3))) (fun _ _ => rfl))) r_nil rfl) rfl) rfl rfl rfl)) rfl) (ss_cons (s_asg (ps_set (i := 6) sc_law_trade.nd rfl (Or.inl rfl) (d_call O_law_pick (hr.mono (by decide)) rfl (B.glo_law_pick) F_law_pick.kp b_law_pick (r_slot (pv 0) (r_data (rE_D (d_lst (o_cons (rE_O (d_c pe_int (fun _ => rep_int))) (o_cons (rE_O (d_sl (pv 4))) (o_cons (rE_O (d_call O_law_draw (hr.mono (by decide)) rfl (B.glo_law_draw) F_law_draw.kp b_law_draw (r_slot (pv 0) (r_data (rE_D (d_op op_addA s_add (rE_D (d_sl (pv 4))) (rE_D (d_c pe_int (fun _ => rep_int))))) r_nil rfl) rfl) rfl rfl rfl)) o_nil rfl) rfl) rfl))) r_nil rfl) rfl) rfl rfl rfl)) rfl) (ss_cons (s_if (t_cmp op_gt s_gt (rE_D (d_op op_mulA s_mul (rE_D (d_sl (pv 2))) (rE_D (d_sl (pv 5))))) (rE_D (d_op op_mulA s_mul (rE_D (d_sl (pv 2))) (rE_D (d_subN (pv 1) (rE_D (d_sl (pv 3))) (fun _ _ => rfl))))) rfl) (ss_cons (s_asg (ps_set (i := 6) sc_law_trade.nd rfl (Or.inl rfl) (d_sl (pv 4))) rfl) ss_nil) ss_nil) (ss_cons (s_if (t_cmp op_lt s_lt (rE_D (d_op op_mulA s_mul (rE_D (d_sl (pv 2))) (rE_D (d_sl (pv 5))))) (rE_D (d_op op_mulA s_mul (rE_D (d_sl (pv 2))) (rE_D (d_subN (pv 1) (rE_D (d_sl (pv 3))) (fun _ _ => rfl))))) rfl) (ss_cons (s_asg (ps_set (i := 6) sc_law_trade.nd rfl (Or.inl rfl) (d_c pe_int (fun _ => rep_int))) rfl) ss_nil) ss_nil) (ss_cons (s_ret (d_tup (l_cons (rE_D (d_tup (l_cons (rE_D (d_sl (pv 3))) (l_cons (rE_D (d_sl (pv 4))) (l_cons (rE_D (d_sl (pv 5))) l_nil rfl) rfl) rfl))) (l_cons (rE_D (d_sl (pv 6))) l_nil rfl) rfl))) ss_nil)))))))
/-! _law_tie -/
theorem sc_law_tie : FnScope ["pool", "marks", "one", "two", "top", "part"] ["pool", "marks"] (defScope (top 23)) := ⟨rfl, rfl, rfl, by decide +kernel, rfl, by decide +kernel, by decide +kernel⟩
def W_law_tie (ad : Nat → Addr) : WE := bodyW 2 6 (wSeq (wAsg 2 (wCall 2 (W_law_draw ad) (wConsS 0 (wConsD (wD (wB1 bLen (wSl 1))) (wNilR))))) (wSeq (wAsg 3 (wOp boMod (wD (wB1 bInt (wOp boAdd (wD (wOp boAdd (wD (wSl 2)) (wD (wC (.int 1))))) (wD (wCall 2 (W_law_draw ad) (wConsS 0 (wConsD (wD (wOp boSub (wD (wB1 bLen (wSl 1))) (wD (wC (.int 1))))) (wNilR)))))))) (wD (wB1 bLen (wSl 1))))) (wSeq (wAsg 4 (wCall 2 (W_law_pick ad) (wConsS 0 (wConsD (wD (wLst (wConsO (wO (wC (.int 0))) (wConsO (wO (wC (.int 1))) (wConsO (wO (wC (.int 1))) (wConsO (wO (wC (.int 2))) (wConsO (wO (wC (.int 9))) (wConsO (wO (wCall 2 (W_law_draw ad) (wConsS 0 (wConsD (wD (wC (.int 61))) (wNilR))))) (wNilO))))))))) (wNilR))))) (wSeq (wAsg 5 (wCall 2 (W_law_pick ad) (wConsS 0 (wConsD (wD (wLst (wConsO (wO (wC (.int 0))) (wConsO (wO (wSl 4)) (wConsO (wO (wOp boSub (wD (wC (.int 0))) (wD (wSl 4)))) (wConsO (wO (wOp boSub (wD (wCall 2 (W_law_draw ad) (wConsS 0 (wConsD (wD (wOp boAdd (wD (wOp boMul (wD (wC (.int 2))) (wD (wSl 4)))) (wD (wC (.int 1))))) (wNilR))))) (wD (wSl 4)))) (wNilO))))))) (wNilR))))) (wSeq (wIfS (wTest (wOp boLt (wD (wSubN 1 (wD (wSl 2)))) (wD (wSubN 1 (wD (wSl 3)))))) (wSeq (wAsg 5 (wSl 4)) (wPass)) (wPass)) (wSeq (wIfS (wTest (wOp boGt (wD (wSubN 1 (wD (wSl 2)))) (wD (wSubN 1 (wD (wSl 3)))))) (wSeq (wAsg 5 (wOp boSub (wD (wC (.int 0))) (wD (wSl 4)))) (wPass)) (wPass)) (wSeq (wRet (wTup (wCons (wD (wTup (wCons (wD (wSl 2)) (wCons (wD (wSl 3)) (wCons (wD (wSl 4)) (wNil)))))) (wCons (wD (wSl 5)) (wNil))))) (wPass))))))))
theorem ok_law_tie {P : Program} {w : World} {K : PySem.W.Frag} {mg : Str → Option Value} {base : Heap} {ad : Nat → Addr} {fd : FuncData} (B : Wd K mg ad) (F : FnP K "_law_tie" "_law_tie" (top 23) (ad 20) fd) : FnOk P w K mg base CX0 3 (ad 20) fd ["pool", "marks"] (spW K 2 (W_law_tie ad)) := by
  obtain ⟨fd_law_draw, F_law_draw⟩ := B.fn_law_draw
  have O_law_draw := ok_law_draw (P := P) (w := w) (base := base) B F_law_draw
  have b_law_draw : Binds K fd_law_draw ["pool", "many"] [] := F_law_draw.bindsN fun _ _ _ _ _ _ us hl => match us, hl with | [_, _], _ => rfl
  obtain ⟨fd_law_pick, F_law_pick⟩ := B.fn_law_pick
  have O_law_pick := ok_law_pick (P := P) (w := w) (base := base) B F_law_pick
  have b_law_pick : Binds K fd_law_pick ["pool", "row"] [] := F_law_pick.bindsN fun _ _ _ _ _ _ us hl => match us, hl with | [_, _], _ => rfl
  exact fn_okW F sc_law_tie (by decide) fun cdv A outer s H E hr => (ss_cons (s_asg (ps_set (i := 2) sc_law_tie.nd rfl (Or.inl rfl) (d_call O_law_draw (hr.mono (by decide)) rfl (B.glo_law_draw) F_law_draw.kp b_law_draw (r_slot (pv 0) (r_data (rE_D (d_b1 bs_len call_len_seq rfl (B.free_len) boot_len (d_sl (pv 1)) (by decide) rfl rfl)) r_nil rfl) rfl) rfl rfl rfl)) rfl) (ss_cons (s_asg (ps_set (i := 3) sc_law_tie.nd rfl (Or.inl rfl) (d_op op_mod s_mod (rE_D (d_t1 bs_int call_int1 rfl (B.free_int) boot_int (d_op op_addA s_add (rE_D (d_op op_addA s_add (rE_D (d_sl (pv 2))) (rE_D (d_c pe_int (fun _ => rep_int))))) (rE_D (d_call O_law_draw (hr.mono (by decide)) rfl (B.glo_law_draw) F_law_draw.kp b_law_draw (r_slot (pv 0) (r_data (rE_D (d_op op_sub s_sub (rE_D (d_b1 bs_len call_len_seq rfl (B.free_len) boot_len (d_sl (pv 1)) (by decide) rfl rfl)) (rE_D (d_c pe_int (fun _ => rep_int))))) r_nil rfl) rfl) rfl rfl rfl))) (by decide) rfl rfl)) (rE_D (d_b1 bs_len call_len_seq rfl (B.free_len) boot_len (d_sl (pv 1)) (by decide) rfl rfl)))) rfl) (ss_cons (s_asg (ps_set (i := 4) sc_law_tie.nd rfl (Or.inl rfl) (d_call O_law_pick (hr.mono (by decide)) rfl (B.glo_law_pick) F_law_pick.kp b_law_pick (r_slot (pv 0) (r_data (rE_D (d_lst (o_cons (rE_O (d_c pe_int (fun _ => rep_int))) (o_cons (rE_O (d_c pe_int (fun _ => rep_int))) (o_cons (rE_O (d_c pe_int (fun _ => rep_int))) (o_cons (rE_O (d_c pe_int (fun _ => rep_int))) (o_cons (rE_O (d_c pe_int (fun _ => rep_int))) (o_cons (rE_O (d_call O_law_draw (hr.mono (by decide)) rfl (B.glo_law_draw) F_law_draw.kp b_law_draw (r_slot (pv 0) (r_data (rE_D (d_c pe_int (fun _ => rep_int))) r_nil rfl) rfl) rfl rfl rfl)) o_nil rfl) rfl) rfl) rfl) rfl) rfl))) r_nil rfl) rfl) rfl rfl rfl)) rfl) (ss_cons (s_asg (ps_set (i := 5) sc_law_tie.nd rfl (Or.inl rfl) (d_call O_law_pick (hr.mono (by decide)) rfl (B.glo_law_pick) F_law_pick.kp b_law_pick (r_slot (pv 0) (r_data (rE_D (d_lst (o_cons (rE_O (d_c pe_int (fun _ => rep_int))) (o_cons (rE_O (d_sl (pv 4))) (o_cons (rE_O (d_op op_sub s_sub (rE_D (d_c pe_int (fun _ => rep_int))) (rE_D (d_sl (pv 4))))) (o_cons (rE_O (d_op op_sub s_sub (rE_D (d_call O_law_draw (hr.mono (by decide)) rfl (B.glo_law_draw) F_law_draw.kp b_law_draw (r_slot (pv 0) (r_data (rE_D (d_op op_addA s_add (rE_D (d_op op_mulA s_mul (rE_D (d_c pe_int (fun _ => rep_int))) (rE_D (d_sl (pv 4))))) (rE_D (d_c pe_int (fun _ => rep_int))))) r_nil rfl) rfl) rfl rfl rfl)) (rE_D (d_sl (pv 4))))) o_nil rfl) rfl) rfl) rfl))) r_nil rfl) rfl) rfl rfl rfl)) rfl) (ss_cons (s_if (t_cmp op_lt s_lt (rE_D (d_subN (pv 1) (rE_D (d_sl (pv 2))) (fun _ _ => rfl))) (rE_D (d_subN (pv 1) (rE_D (d_sl (pv 3))) (fun _ _ => rfl))) rfl) (ss_cons (s_asg (ps_set (i := 5) sc_law_tie.nd rfl (Or.inl rfl) (d_sl (pv 4))) rfl) ss_nil) ss_nil) (ss_cons (s_if (t_cmp op_gt s_gt (rE_D (d_subN (pv 1) (rE_D (d_sl (pv 2))) (fun _ _ => rfl))) (rE_D (d_subN (pv 1) (rE_D (d_sl (pv 3))) (fun _ _ => rfl))) rfl) (ss_cons (s_asg (ps_set (i := 5) sc_law_tie.nd rfl (Or.inl rfl) (d_op op_sub s_sub (rE_D (d_c pe_int (fun _ => rep_int))) (rE_D (d_sl (pv 4))))) rfl) ss_nil) ss_nil) (ss_cons (s_ret (d_tup (l_cons (rE_D (d_tup (l_cons (rE_D (d_sl (pv 2))) (l_cons (rE_D (d_sl (pv 3))) (l_cons (rE_D (d_sl (pv 4))) l_nil rfl) rfl) rfl))) (l_cons (rE_D (d_sl (pv 5))) l_nil rfl) rfl))) ss_nil)))))))
/-! _law_filled -/
theorem sc_law_filled : FnScope ["pool", "marks", "spot", "trades", "many", "side", "turn", "part", "price", "units"] ["pool", "marks", "spot", "trades", "many", "side"] (defScope (top 24)) := ⟨rfl, rfl, rfl, by decide +kernel, rfl, by decide +kernel, by decide +kernel⟩
def W_law_filled (ad : Nat → Addr) : WE := bodyW 6 10 (wSeq (wForS (wR1 (wCons (wD (wC (.int 13))) (wNil))) (gN 6) (wSeq (wIfS (wTest (wOp boEq (wD (wSl 4)) (wD (wC (.int 0))))) (wSeq (wBrk) (wPass)) (wPass)) (wSeq (wAsg 7 (wBL bMin2 (wCons (wD (wC (.int 30))) (wCons (wD (wSl 4)) (wNil))))) (wSeq (wAsg 8 (wBL bMax2 (wCons (wD (wNeg (wD (wC (.int 99))))) (wCons (wD (wBL bMin2 (wCons (wD (wC (.int 99))) (wCons (wD (wOp boAdd (wD (wSubN 1 (wD (wSl 2)))) (wD (wOp boMul (wD (wSl 5)) (wD (wCall 2 (W_law_draw ad) (wConsS 0 (wConsD (wD (wC (.int 2))) (wNilR))))))))) (wNil))))) (wNil))))) (wSeq (wAsg 9 (wSl 7)) (wSeq (wIfS (wTest (wOp boEq (wD (wSl 8)) (wD (wSubN 1 (wD (wSl 2)))))) (wSeq (wAsg 9 (wOp boAdd (wD (wSl 7)) (wD (wCall 2 (W_law_pick ad) (wConsS 0 (wConsD (wD (wLst (wConsO (wO (wC (.int 0))) (wConsO (wO (wOp boSub (wD (wC (.int 30))) (wD (wSl 7)))) (wConsO (wO (wCall 2 (W_law_draw ad) (wConsS 0 (wConsD (wD (wOp boSub (wD (wC (.int 31))) (wD (wSl 7)))) (wNilR))))) (wNilO)))))) (wNilR))))))) (wPass)) (wPass)) (wSeq (wEx (wIns 3 (wCons (wD (wCall 2 (W_law_draw ad) (wConsS 0 (wConsD (wD (wOp boAdd (wD (wB1 bLen (wSl 3))) (wD (wC (.int 1))))) (wNilR))))) (wCons (wD (wTup (wCons (wD (wTup (wCons (wD (wSl 2)) (wCons (wD (wSl 9)) (wCons (wD (wSl 8)) (wNil)))))) (wCons (wD (wSl 7)) (wNil))))) (wNil))))) (wSeq (wAsg 4 (wOp boSub (wD (wSl 4)) (wD (wSl 7)))) (wPass))))))))) (wSeq (wRet (wSl 3)) (wPass)))
theorem ok_law_filled {P : Program} {w : World} {K : PySem.W.Frag} {mg : Str → Option Value} {base : Heap} {ad : Nat → Addr} {fd : FuncData} (B : Wd K mg ad) (F : FnP K "_law_filled" "_law_filled" (top 24) (ad 21) fd) : FnOk P w K mg base CX0 3 (ad 21) fd ["pool", "marks", "spot", "trades", "many", "side"] (spW K 6 (W_law_filled ad)) := by
  obtain ⟨fd_law_draw, F_law_draw⟩ := B.fn_law_draw
  have O_law_draw := ok_law_draw (P := P) (w := w) (base := base) B F_law_draw
  have b_law_draw : Binds K fd_law_draw ["pool", "many"] [] := F_law_draw.bindsN fun _ _ _ _ _ _ us hl => match us, hl with | [_, _], _ => rfl
  obtain ⟨fd_law_pick, F_law_pick⟩ := B.fn_law_pick
  have O_law_pick := ok_law_pick (P := P) (w := w) (base := base) B F_law_pick
  have b_law_pick : Binds K fd_law_pick ["pool", "row"] [] := F_law_pick.bindsN fun _ _ _ _ _ _ us hl => match us, hl with | [_, _], _ => rfl
  exact fn_okW F sc_law_filled (by decide) fun cdv A outer s H E hr => (ss_cons (s_for PassesOwn.never rfl (i_r1 rfl (B.free_range) (l_cons (rE_D (d_c pe_int (fun _ => rep_int))) l_nil rfl) rfl) (g_name (pg_name (i := 6) sc_law_filled.nd rfl (Or.inl rfl))) (ss_cons (s_if (t_cmp (op_eqA hr.units) s_eq (rE_D (d_sl (pv 4))) (rE_D (d_c pe_int (fun _ => rep_int))) rfl) (ss_cons s_brk ss_nil) ss_nil) (ss_cons (s_asg (ps_set (i := 7) sc_law_filled.nd rfl (Or.inl rfl) (d_bl cs_min2 (call_min2 rfl) rfl (B.free_min) boot_min (l_cons (rE_D (d_c pe_int (fun _ => rep_int))) (l_cons (rE_D (d_sl (pv 4))) l_nil rfl) rfl) (by decide) rfl rfl rfl)) rfl) (ss_cons (s_asg (ps_set (i := 8) sc_law_filled.nd rfl (Or.inl rfl) (d_bl cs_max2 (call_max2 rfl) rfl (B.free_max) boot_max (l_cons (rE_D (d_neg (rE_D (d_c pe_int (fun _ => rep_int))))) (l_cons (rE_D (d_bl cs_min2 (call_min2 rfl) rfl (B.free_min) boot_min (l_cons (rE_D (d_c pe_int (fun _ => rep_int))) (l_cons (rE_D (d_op op_addA s_add (rE_D (d_subN (pv 1) (rE_D (d_sl (pv 2))) (fun _ _ => rfl))) (rE_D (d_op op_mulA s_mul (rE_D (d_sl (pv 5))) (rE_D (d_call O_law_draw (hr.mono (by decide)) rfl (B.glo_law_draw) F_law_draw.kp b_law_draw (r_slot (pv 0) (r_data (rE_D (d_c pe_int (fun _ => rep_int))) r_nil rfl) rfl) rfl rfl rfl)))))) l_nil rfl) rfl) (by decide) rfl rfl rfl)) l_nil rfl) rfl) (by decide) rfl rfl rfl)) rfl) (ss_cons (s_asg (ps_set (i := 9) sc_law_filled.nd rfl (Or.inl rfl) (d_sl (pv 7))) rfl) (ss_cons (s_if (t_cmp (op_eqA hr.units) s_eq (rE_D (d_sl (pv 8))) (rE_D (d_subN (pv 1) (rE_D (d_sl (pv 2))) (fun _ _ => rfl))) rfl) (ss_cons (s_asg (ps_set (i := 9) sc_law_filled.nd rfl (Or.inl rfl) (d_op op_addA s_add (rE_D (d_sl (pv 7))) (rE_D (d_call O_law_pick (hr.mono (by decide)) rfl (B.glo_law_pick) F_law_pick.kp b_law_pick (r_slot (pv 0) (r_data (rE_D (d_lst (o_cons (rE_O (d_c pe_int (fun _ => rep_int))) (o_cons (rE_O (d_op op_sub s_sub (rE_D (d_c pe_int (fun _ => rep_int))) (rE_D (d_sl (pv 7))))) (o_cons (rE_O (d_call O_law_draw (hr.mono (by decide)) rfl (B.glo_law_draw) F_law_draw.kp b_law_draw (r_slot (pv 0) (r_data (rE_D (d_op op_sub s_sub (rE_D (d_c pe_int (fun _ => rep_int))) (rE_D (d_sl (pv 7))))) r_nil rfl) rfl) rfl rfl rfl)) o_nil rfl) rfl) rfl))) r_nil rfl) rfl) rfl rfl rfl)))) rfl) ss_nil) ss_nil) (ss_cons (s_ex (d_ins (pe_bm PySem.F.plainAttrs_list PySem.F.slot_list_insert PySem.F.type_list_insert mt_insert (pv 3) (l_cons (rE_D (d_call O_law_draw (hr.mono (by decide)) rfl (B.glo_law_draw) F_law_draw.kp b_law_draw (r_slot (pv 0) (r_data (rE_D (d_op op_addA s_add (rE_D (d_b1 bs_len call_len_seq rfl (B.free_len) boot_len (d_sl (pv 3)) (by decide) rfl rfl)) (rE_D (d_c pe_int (fun _ => rep_int))))) r_nil rfl) rfl) rfl rfl rfl)) (l_cons (rE_D (d_tup (l_cons (rE_D (d_tup (l_cons (rE_D (d_sl (pv 2))) (l_cons (rE_D (d_sl (pv 9))) (l_cons (rE_D (d_sl (pv 8))) l_nil rfl) rfl) rfl))) (l_cons (rE_D (d_sl (pv 7))) l_nil rfl) rfl))) l_nil rfl) rfl))) rfl) (ss_cons (s_asg (ps_set (i := 4) sc_law_filled.nd rfl (Or.inl rfl) (d_op op_sub s_sub (rE_D (d_sl (pv 4))) (rE_D (d_sl (pv 7))))) rfl) ss_nil))))))) (fun _ => rfl)) (ss_cons (s_ret (d_sl (pv 3))) ss_nil))
/-! _law_net -/
theorem sc_law_net : FnScope ["spots", "ties", "asks", "offs", "net", "z", "tie", "part", "ask", "off"] ["spots", "ties", "asks", "offs"] (defScope (top 25)) := ⟨rfl, rfl, rfl, by decide +kernel, rfl, by decide +kernel, by decide +kernel⟩
def W_law_net (ad : Nat → Addr) : WE := bodyW 4 10 (wSeq (wAsg 4 (wLc (wR1 (wCons (wD (wSl 0)) (wNil))) [5] (gN 5) (wYes) (wO (wC (.int 0))))) (wSeq (wForS (wItSl 1) (gT 2 (gsCons (gN 6) (gsCons (gN 7) (gsNil)))) (wSeq (wSetI 4 (wD (wSubN 6 (wD (wC (.int 0))))) (wD (wOp boSub (wD (wSubN 4 (wD (wSubN 6 (wD (wC (.int 0))))))) (wD (wSl 7))))) (wSeq (wSetI 4 (wD (wSubN 6 (wD (wC (.int 1))))) (wD (wOp boAdd (wD (wSubN 4 (wD (wSubN 6 (wD (wC (.int 1))))))) (wD (wSl 7))))) (wPass)))) (wSeq (wForS (wItSl 2) (gT 2 (gsCons (gN 8) (gsCons (gN 7) (gsNil)))) (wSeq (wSetI 4 (wD (wSubN 8 (wD (wC (.int 0))))) (wD (wOp boSub (wD (wSubN 4 (wD (wSubN 8 (wD (wC (.int 0))))))) (wD (wSl 7))))) (wPass))) (wSeq (wForS (wItSl 3) (gT 2 (gsCons (gN 9) (gsCons (gN 7) (gsNil)))) (wSeq (wSetI 4 (wD (wSubN 9 (wD (wC (.int 0))))) (wD (wOp boAdd (wD (wSubN 4 (wD (wSubN 9 (wD (wC (.int 0))))))) (wD (wSl 7))))) (wPass))) (wSeq (wRet (wSl 4)) (wPass))))))
theorem ok_law_net {P : Program} {w : World} {K : PySem.W.Frag} {mg : Str → Option Value} {base : Heap} {ad : Nat → Addr} {fd : FuncData} (B : Wd K mg ad) (F : FnP K "_law_net" "_law_net" (top 25) (ad 22) fd) : FnOk P w K mg base CX0 1 (ad 22) fd ["spots", "ties", "asks", "offs"] (spW K 4 (W_law_net ad)) := by
  exact fn_okW F sc_law_net (by decide) fun cdv A outer s H E hr => (ss_cons (s_asg (s_setLc (own := [("z", 5)]) (i := 4) (by decide) rfl sc_law_net.nd rfl rfl (sw_true rfl rfl rfl rfl) (i_r1 rfl (B.free_range) (l_cons (rE_D (d_sl (pv 0))) l_nil rfl) rfl) (blkOk_by rfl) (fun _ _ _ _ _ => (gc_name (pg_name (i := 5) sc_law_net.nd rfl (Or.inl rfl)) (by decide))) (fun _ _ _ _ _ => t_yes) (fun _ _ _ _ _ => (rE_O (d_c pe_int (fun _ => rep_int)))) (fun _ => rfl)) rfl) (ss_cons (s_for PassesOwn.never rfl (i_slot (pv 1)) (g_tup rfl (gs_cons (g_name (pg_name (i := 6) sc_law_net.nd rfl (Or.inl rfl))) (gs_cons (g_name (pg_name (i := 7) sc_law_net.nd rfl (Or.inl rfl))) gs_nil rfl) rfl) rfl rfl) (ss_cons (s_setI (ps_asg (rE_D (d_op op_sub s_sub (rE_D (d_subN (pv 4) (rE_D (d_subN (pv 6) (rE_D (d_c pe_int (fun _ => rep_int))) (fun _ _ => rfl))) (fun _ _ => rfl))) (rE_D (d_sl (pv 7))))) (pg_sub (pv 4) (rE_D (d_subN (pv 6) (rE_D (d_c pe_int (fun _ => rep_int))) (fun _ _ => rfl))) set_list))) (ss_cons (s_setI (ps_asg (rE_D (d_op op_addA s_add (rE_D (d_subN (pv 4) (rE_D (d_subN (pv 6) (rE_D (d_c pe_int (fun _ => rep_int))) (fun _ _ => rfl))) (fun _ _ => rfl))) (rE_D (d_sl (pv 7))))) (pg_sub (pv 4) (rE_D (d_subN (pv 6) (rE_D (d_c pe_int (fun _ => rep_int))) (fun _ _ => rfl))) set_list))) ss_nil)) (fun _ => rfl)) (ss_cons (s_for PassesOwn.never rfl (i_slot (pv 2)) (g_tup rfl (gs_cons (g_name (pg_name (i := 8) sc_law_net.nd rfl (Or.inl rfl))) (gs_cons (g_name (pg_name (i := 7) sc_law_net.nd rfl (Or.inl rfl))) gs_nil rfl) rfl) rfl rfl) (ss_cons (s_setI (ps_asg (rE_D (d_op op_sub s_sub (rE_D (d_subN (pv 4) (rE_D (d_subN (pv 8) (rE_D (d_c pe_int (fun _ => rep_int))) (fun _ _ => rfl))) (fun _ _ => rfl))) (rE_D (d_sl (pv 7))))) (pg_sub (pv 4) (rE_D (d_subN (pv 8) (rE_D (d_c pe_int (fun _ => rep_int))) (fun _ _ => rfl))) set_list))) ss_nil) (fun _ => rfl)) (ss_cons (s_for PassesOwn.never rfl (i_slot (pv 3)) (g_tup rfl (gs_cons (g_name (pg_name (i := 9) sc_law_net.nd rfl (Or.inl rfl))) (gs_cons (g_name (pg_name (i := 7) sc_law_net.nd rfl (Or.inl rfl))) gs_nil rfl) rfl) rfl rfl) (ss_cons (s_setI (ps_asg (rE_D (d_op op_addA s_add (rE_D (d_subN (pv 4) (rE_D (d_subN (pv 9) (rE_D (d_c pe_int (fun _ => rep_int))) (fun _ _ => rfl))) (fun _ _ => rfl))) (rE_D (d_sl (pv 7))))) (pg_sub (pv 4) (rE_D (d_subN (pv 9) (rE_D (d_c pe_int (fun _ => rep_int))) (fun _ _ => rfl))) set_list))) ss_nil) (fun _ => rfl)) (ss_cons (s_ret (d_sl (pv 4))) ss_nil)))))
/-! _law_right -/
theorem sc_law_right : FnScope ["pool", "spots", "marks", "z", "ties", "i", "asks", "n", "offs", "net", "spot", "parts", "pair"] ["pool"] (defScope (top 26)) := ⟨rfl, rfl, rfl, by decide +kernel, rfl, by decide +kernel, by decide +kernel⟩
def W_law_right (ad : Nat → Addr) : WE := bodyW 1 13 (wSeq (wAsg 1 (wCall 2 (W_law_pick ad) (wConsS 0 (wConsD (wD (wLst (wConsO (wO (wC (.int 1))) (wConsO (wO (wC (.int 2))) (wConsO (wO (wC (.int 2))) (wConsO (wO (wC (.int 3))) (wConsO (wO (wC (.int 4))) (wNilO)))))))) (wNilR))))) (wSeq (wAsg 2 (wLc (wR1 (wCons (wD (wSl 1)) (wNil))) [3] (gN 3) (wYes) (wO (wCall 2 (W_law_pick ad) (wConsS 0 (wConsD (wD (wLst (wConsO (wO (wC (.int 0))) (wConsO (wO (wC (.int 1))) (wConsO (wO (wC (.int 2))) (wConsO (wO (wC (.int 2))) (wConsO (wO (wNeg (wD (wC (.int 1))))) (wConsO (wO (wC (.int 99))) (wConsO (wO (wNeg (wD (wC (.int 99))))) (wConsO (wO (wOp boSub (wD (wCall 2 (W_law_draw ad) (wConsS 0 (wConsD (wD (wC (.int 199))) (wNilR))))) (wD (wC (.int 99))))) (wNilO))))))))))) (wNilR))))))) (wSeq (wAsg 4 (wLc (wR1 (wCons (wD (wOp boMul (wD (wCall 2 (W_law_pick ad) (wConsS 0 (wConsD (wD (wLst (wConsO (wO (wC (.int 0))) (wConsO (wO (wC (.int 1))) (wConsO (wO (wC (.int 2))) (wConsO (wO (wC (.int 3))) (wConsO (wO (wC (.int 5))) (wNilO)))))))) (wNilR))))) (wD (wB1 bInt (wOp boGt (wD (wSl 1)) (wD (wC (.int 1)))))))) (wNil))) [5] (gN 5) (wYes) (wO (wCall 2 (W_law_tie ad) (wConsS 0 (wConsS 2 (wNilR))))))) (wSeq (wAsg 6 (wLc (wR1 (wCons (wD (wCall 2 (W_law_draw ad) (wConsS 0 (wConsD (wD (wC (.int 5))) (wNilR))))) (wNil))) [7] (gN 7) (wYes) (wO (wCall 3 (W_law_trade ad) (wConsS 0 (wConsS 2 (wConsD (wD (wC (.int 1))) (wNilR)))))))) (wSeq (wAsg 8 (wLc (wR1 (wCons (wD (wCall 2 (W_law_draw ad) (wConsS 0 (wConsD (wD (wC (.int 5))) (wNilR))))) (wNil))) [7] (gN 7) (wYes) (wO (wCall 3 (W_law_trade ad) (wConsS 0 (wConsS 2 (wConsD (wD (wNeg (wD (wC (.int 1))))) (wNilR)))))))) (wSeq (wAsg 9 (wCall 4 (W_law_net ad) (wConsS 1 (wConsS 4 (wConsS 6 (wConsS 8 (wNilR))))))) (wSeq (wForS (wR1 (wCons (wD (wSl 1)) (wNil))) (gN 10) (wSeq (wAsg 6 (wCall 6 (W_law_filled ad) (wConsS 0 (wConsS 2 (wConsS 10 (wConsS 6 (wConsD (wD (wBL bMax2 (wCons (wD (wC (.int 0))) (wCons (wD (wSubN 9 (wD (wSl 10)))) (wNil))))) (wConsD (wD (wC (.int 1))) (wNilR))))))))) (wSeq (wAsg 8 (wCall 6 (W_law_filled ad) (wConsS 0 (wConsS 2 (wConsS 10 (wConsS 8 (wConsD (wD (wBL bMax2 (wCons (wD (wC (.int 0))) (wCons (wD (wOp boSub (wD (wC (.int 0))) (wD (wSubN 9 (wD (wSl 10)))))) (wNil))))) (wConsD (wD (wNeg (wD (wC (.int 1))))) (wNilR))))))))) (wPass)))) (wSeq (wIfS (wOrT (wTest (wOp boGt (wD (wB1 bLen (wSl 6))) (wD (wC (.int 12))))) (wTest (wOp boGt (wD (wB1 bLen (wSl 8))) (wD (wC (.int 12)))))) (wSeq (wRet (wTup (wCons (wD (wLst (wConsO (wO (wSl 1)) (wConsO (wO (wLst (wNilO))) (wConsO (wO (wLst (wNilO))) (wConsO (wO (wLst (wNilO))) (wNilO))))))) (wCons (wD (wSl 2)) (wCons (wD (wLst (wConsO (wO (wLst (wNilO))) (wConsO (wO (wLst (wNilO))) (wConsO (wO (wLst (wNilO))) (wNilO)))))) (wNil)))))) (wPass)) (wPass)) (wSeq (wAsg 11 (wLst (wConsO (wO (wLc (wItSl 6) [12] (gN 12) (wYes) (wO (wSubN 12 (wD (wC (.int 1))))))) (wConsO (wO (wLc (wItSl 8) [12] (gN 12) (wYes) (wO (wSubN 12 (wD (wC (.int 1))))))) (wConsO (wO (wLc (wItSl 4) [12] (gN 12) (wYes) (wO (wSubN 12 (wD (wC (.int 1))))))) (wNilO)))))) (wSeq (wRet (wTup (wCons (wD (wLst (wConsO (wO (wSl 1)) (wConsO (wO (wLc (wItSl 4) [12] (gN 12) (wYes) (wO (wSubN 12 (wD (wC (.int 0))))))) (wConsO (wO (wLc (wItSl 6) [12] (gN 12) (wYes) (wO (wSubN 12 (wD (wC (.int 0))))))) (wConsO (wO (wLc (wItSl 8) [12] (gN 12) (wYes) (wO (wSubN 12 (wD (wC (.int 0))))))) (wNilO))))))) (wCons (wD (wSl 2)) (wCons (wD (wSl 11)) (wNil)))))) (wPass)))))))))))
theorem ok_law_right {P : Program} {w : World} {K : PySem.W.Frag} {mg : Str → Option Value} {base : Heap} {ad : Nat → Addr} {fd : FuncData} (B : Wd K mg ad) (F : FnP K "_law_right" "_law_right" (top 26) (ad 23) fd) : FnOk P w K mg base CX0 5 (ad 23) fd ["pool"] (spW K 1 (W_law_right ad)) := by
  obtain ⟨fd_law_draw, F_law_draw⟩ := B.fn_law_draw
  have O_law_draw := ok_law_draw (P := P) (w := w) (base := base) B F_law_draw
  have b_law_draw : Binds K fd_law_draw ["pool", "many"] [] := F_law_draw.bindsN fun _ _ _ _ _ _ us hl => match us, hl with | [_, _], _ => rfl
  obtain ⟨fd_law_pick, F_law_pick⟩ := B.fn_law_pick
  have O_law_pick := ok_law_pick (P := P) (w := w) (base := base) B F_law_pick
  have b_law_pick : Binds K fd_law_pick ["pool", "row"] [] := F_law_pick.bindsN fun _ _ _ _ _ _ us hl => match us, hl with | [_, _], _ => rfl
  obtain ⟨fd_law_trade, F_law_trade⟩ := B.fn_law_trade
  have O_law_trade := ok_law_trade (P := P) (w := w) (base := base) B F_law_trade
  have b_law_trade : Binds K fd_law_trade ["pool", "marks", "side"] [] := F_law_trade.bindsN fun _ _ _ _ _ _ us hl => match us, hl with | [_, _, _], _ => rfl
  obtain ⟨fd_law_tie, F_law_tie⟩ := B.fn_law_tie
  have O_law_tie := ok_law_tie (P := P) (w := w) (base := base) B F_law_tie
  have b_law_tie : Binds K fd_law_tie ["pool", "marks"] [] := F_law_tie.bindsN fun _ _ _ _ _ _ us hl => match us, hl with | [_, _], _ => rfl
  obtain ⟨fd_law_filled, F_law_filled⟩ := B.fn_law_filled
  have O_law_filled := ok_law_filled (P := P) (w := w) (base := base) B F_law_filled
  have b_law_filled : Binds K fd_law_filled ["pool", "marks", "spot", "trades", "many", "side"] [] := F_law_filled.bindsN fun _ _ _ _ _ _ us hl => match us, hl with | [_, _, _, _, _, _], _ => rfl
  obtain ⟨fd_law_net, F_law_net⟩ := B.fn_law_net
  have O_law_net := ok_law_net (P := P) (w := w) (base := base) B F_law_net
  have b_law_net : Binds K fd_law_net ["spots", "ties", "asks", "offs"] [] := F_law_net.bindsN fun _ _ _ _ _ _ us hl => match us, hl with | [_, _, _, _], _ => rfl
  exact fn_okW F sc_law_right (by decide) fun cdv A outer s H E hr => (ss_cons (s_asg (ps_set (i := 1) sc_law_right.nd rfl (Or.inl rfl) (d_call O_law_pick (hr.mono (by decide)) rfl (B.glo_law_pick) F_law_pick.kp b_law_pick (r_slot (pv 0) (r_data (rE_D (d_lst (o_cons (rE_O (d_c pe_int (fun _ => rep_int))) (o_cons (rE_O (d_c pe_int (fun _ => rep_int))) (o_cons (rE_O (d_c pe_int (fun _ => rep_int))) (o_cons (rE_O (d_c pe_int (fun _ => rep_int))) (o_cons (rE_O (d_c pe_int (fun _ => rep_int))) o_nil rfl) rfl) rfl) rfl) rfl))) r_nil rfl) rfl) rfl rfl rfl)) rfl) (ss_cons (s_asg (ps_set (i := 2) sc_law_right.nd rfl (Or.inr rfl) (d_lc (own := [("z", 3)]) (by decide) rfl sc_law_right.nd (i_r1 rfl (B.free_range) (l_cons (rE_D (d_sl (pv 1))) l_nil rfl) rfl) (blkOk_by rfl) (fun _ _ _ _ _ => (gc_name (pg_name (i := 3) sc_law_right.nd rfl (Or.inl rfl)) (by decide))) (fun _ _ _ _ _ => t_yes) (fun _ _ _ _ _ => (rE_O (d_call O_law_pick (hr.mono (by decide)) rfl (B.glo_law_pick) F_law_pick.kp b_law_pick (r_slot (pv 0) (r_data (rE_D (d_lst (o_cons (rE_O (d_c pe_int (fun _ => rep_int))) (o_cons (rE_O (d_c pe_int (fun _ => rep_int))) (o_cons (rE_O (d_c pe_int (fun _ => rep_int))) (o_cons (rE_O (d_c pe_int (fun _ => rep_int))) (o_cons (rE_O (d_neg (rE_D (d_c pe_int (fun _ => rep_int))))) (o_cons (rE_O (d_c pe_int (fun _ => rep_int))) (o_cons (rE_O (d_neg (rE_D (d_c pe_int (fun _ => rep_int))))) (o_cons (rE_O (d_op op_sub s_sub (rE_D (d_call O_law_draw (hr.mono (by decide)) rfl (B.glo_law_draw) F_law_draw.kp b_law_draw (r_slot (pv 0) (r_data (rE_D (d_c pe_int (fun _ => rep_int))) r_nil rfl) rfl) rfl rfl rfl)) (rE_D (d_c pe_int (fun _ => rep_int))))) o_nil rfl) rfl) rfl) rfl) rfl) rfl) rfl) rfl))) r_nil rfl) rfl) rfl rfl rfl))) (fun _ => rfl))) rfl) (ss_cons (s_asg (s_setLc (own := [("i", 5)]) (i := 4) (by decide) rfl sc_law_right.nd rfl rfl (sw_true rfl rfl rfl rfl) (i_r1 rfl (B.free_range) (l_cons (rE_D (d_op op_mulA s_mul (rE_D (d_call O_law_pick (hr.mono (by decide)) rfl (B.glo_law_pick) F_law_pick.kp b_law_pick (r_slot (pv 0) (r_data (rE_D (d_lst (o_cons (rE_O (d_c pe_int (fun _ => rep_int))) (o_cons (rE_O (d_c pe_int (fun _ => rep_int))) (o_cons (rE_O (d_c pe_int (fun _ => rep_int))) (o_cons (rE_O (d_c pe_int (fun _ => rep_int))) (o_cons (rE_O (d_c pe_int (fun _ => rep_int))) o_nil rfl) rfl) rfl) rfl) rfl))) r_nil rfl) rfl) rfl rfl rfl)) (rE_D (d_t1 bs_int call_int1 rfl (B.free_int) boot_int (d_cmp op_gt s_gt (rE_D (d_sl (pv 1))) (rE_D (d_c pe_int (fun _ => rep_int))) rfl) (by decide) rfl rfl)))) l_nil rfl) rfl) (blkOk_by rfl) (fun _ _ _ _ _ => (gc_name (pg_name (i := 5) sc_law_right.nd rfl (Or.inl rfl)) (by decide))) (fun _ _ _ _ _ => t_yes) (fun _ _ _ _ _ => (rE_O (d_call O_law_tie (hr.mono (by decide)) rfl (B.glo_law_tie) F_law_tie.kp b_law_tie (r_slot (pv 0) (r_slot (pv 2) r_nil rfl) rfl) rfl rfl rfl))) (fun _ => rfl)) rfl) (ss_cons (s_asg (s_setLc (own := [("n", 7)]) (i := 6) (by decide) rfl sc_law_right.nd rfl rfl (sw_true rfl rfl rfl rfl) (i_r1 rfl (B.free_range) (l_cons (rE_D (d_call O_law_draw (hr.mono (by decide)) rfl (B.glo_law_draw) F_law_draw.kp b_law_draw (r_slot (pv 0) (r_data (rE_D (d_c pe_int (fun _ => rep_int))) r_nil rfl) rfl) rfl rfl rfl)) l_nil rfl) rfl) (blkOk_by rfl) (fun _ _ _ _ _ => (gc_name (pg_name (i := 7) sc_law_right.nd rfl (Or.inl rfl)) (by decide))) (fun _ _ _ _ _ => t_yes) (fun _ _ _ _ _ => (rE_O (d_call O_law_trade (hr.mono (by decide)) rfl (B.glo_law_trade) F_law_trade.kp b_law_trade (r_slot (pv 0) (r_slot (pv 2) (r_data (rE_D (d_c pe_int (fun _ => rep_int))) r_nil rfl) rfl) rfl) rfl rfl rfl))) (fun _ => rfl)) rfl) (ss_cons (s_asg (s_setLc (own := [("n", 7)]) (i := 8) (by decide) rfl sc_law_right.nd rfl rfl (sw_true rfl rfl rfl rfl) (i_r1 rfl (B.free_range) (l_cons (rE_D (d_call O_law_draw (hr.mono (by decide)) rfl (B.glo_law_draw) F_law_draw.kp b_law_draw (r_slot (pv 0) (r_data (rE_D (d_c pe_int (fun _ => rep_int))) r_nil rfl) rfl) rfl rfl rfl)) l_nil rfl) rfl) (blkOk_by rfl) (fun _ _ _ _ _ => (gc_name (pg_name (i := 7) sc_law_right.nd rfl (Or.inl rfl)) (by decide))) (fun _ _ _ _ _ => t_yes) (fun _ _ _ _ _ => (rE_O (d_call O_law_trade (hr.mono (by decide)) rfl (B.glo_law_trade) F_law_trade.kp b_law_trade (r_slot (pv 0) (r_slot (pv 2) (r_data (rE_D (d_neg (rE_D (d_c pe_int (fun _ => rep_int))))) r_nil rfl) rfl) rfl) rfl rfl rfl))) (fun _ => rfl)) rfl) (ss_cons (s_asg (ps_set (i := 9) sc_law_right.nd rfl (Or.inl rfl) (d_call O_law_net (hr.mono (by decide)) rfl (B.glo_law_net) F_law_net.kp b_law_net (r_slot (pv 1) (r_slot (pv 4) (r_slot (pv 6) (r_slot (pv 8) r_nil rfl) rfl) rfl) rfl) rfl rfl rfl)) rfl) (ss_cons (s_for PassesOwn.never rfl (i_r1 rfl (B.free_range) (l_cons (rE_D (d_sl (pv 1))) l_nil rfl) rfl) (g_name (pg_name (i := 10) sc_law_right.nd rfl (Or.inl rfl))) (ss_cons (s_asg (ps_set (i := 6) sc_law_right.nd rfl (Or.inl rfl) (d_call O_law_filled (hr.mono (by decide)) rfl (B.glo_law_filled) F_law_filled.kp b_law_filled (r_slot (pv 0) (r_slot (pv 2) (r_slot (pv 10) (r_slot (pv 6) (r_data (rE_D (d_bl cs_max2 (call_max2 rfl) rfl (B.free_max) boot_max (l_cons (rE_D (d_c pe_int (fun _ => rep_int))) (l_cons (rE_D (d_subN (pv 9) (rE_D (d_sl (pv 10))) (fun _ _ => rfl))) l_nil rfl) rfl) (by decide) rfl rfl rfl)) (r_data (rE_D (d_c pe_int (fun _ => rep_int))) r_nil rfl) rfl) rfl) rfl) rfl) rfl) rfl rfl rfl)) rfl) (ss_cons (s_asg (ps_set (i := 8) sc_law_right.nd rfl (Or.inl rfl) (d_call O_law_filled (hr.mono (by decide)) rfl (B.glo_law_filled) F_law_filled.kp b_law_filled (r_slot (pv 0) (r_slot (pv 2) (r_slot (pv 10) (r_slot (pv 8) (r_data (rE_D (d_bl cs_max2 (call_max2 rfl) rfl (B.free_max) boot_max (l_cons (rE_D (d_c pe_int (fun _ => rep_int))) (l_cons (rE_D (d_op op_sub s_sub (rE_D (d_c pe_int (fun _ => rep_int))) (rE_D (d_subN (pv 9) (rE_D (d_sl (pv 10))) (fun _ _ => rfl))))) l_nil rfl) rfl) (by decide) rfl rfl rfl)) (r_data (rE_D (d_neg (rE_D (d_c pe_int (fun _ => rep_int))))) r_nil rfl) rfl) rfl) rfl) rfl) rfl) rfl rfl rfl)) rfl) ss_nil)) (fun _ => rfl)) (ss_cons (s_if (PW.pt (t_or (t_cmp op_gt s_gt (rE_D (d_b1 bs_len call_len_seq rfl (B.free_len) boot_len (d_sl (pv 6)) (by decide) rfl rfl)) (rE_D (d_c pe_int (fun _ => rep_int))) rfl) (pw_or1 (t_cmp op_gt s_gt (rE_D (d_b1 bs_len call_len_seq rfl (B.free_len) boot_len (d_sl (pv 8)) (by decide) rfl rfl)) (rE_D (d_c pe_int (fun _ => rep_int))) rfl)))) (ss_cons (s_ret (d_tup (l_cons (rE_D (d_lst (o_cons (rE_O (d_sl (pv 1))) (o_cons (rE_O (d_lst o_nil)) (o_cons (rE_O (d_lst o_nil)) (o_cons (rE_O (d_lst o_nil)) o_nil rfl) rfl) rfl) rfl))) (l_cons (rE_D (d_sl (pv 2))) (l_cons (rE_D (d_lst (o_cons (rE_O (d_lst o_nil)) (o_cons (rE_O (d_lst o_nil)) (o_cons (rE_O (d_lst o_nil)) o_nil rfl) rfl) rfl))) l_nil rfl) rfl) rfl))) ss_nil) ss_nil) (ss_cons (s_asg (ps_set (i := 11) sc_law_right.nd rfl (Or.inl rfl) (d_lst (o_cons (rE_O (d_lc (own := [("pair", 12)]) (by decide) rfl sc_law_right.nd (i_slot (pv 6)) (blkOk_by rfl) (fun _ _ _ _ _ => (gc_name (pg_name (i := 12) sc_law_right.nd rfl (Or.inl rfl)) (by decide))) (fun _ _ _ _ _ => t_yes) (fun _ _ _ _ _ => (rE_O (d_subN (pv 12) (rE_D (d_c pe_int (fun _ => rep_int))) (fun _ _ => rfl)))) (fun _ => rfl))) (o_cons (rE_O (d_lc (own := [("pair", 12)]) (by decide) rfl sc_law_right.nd (i_slot (pv 8)) (blkOk_by rfl) (fun _ _ _ _ _ => (gc_name (pg_name (i := 12) sc_law_right.nd rfl (Or.inl rfl)) (by decide))) (fun _ _ _ _ _ => t_yes) (fun _ _ _ _ _ => (rE_O (d_subN (pv 12) (rE_D (d_c pe_int (fun _ => rep_int))) (fun _ _ => rfl)))) (fun _ => rfl))) (o_cons (rE_O (d_lc (own := [("pair", 12)]) (by decide) rfl sc_law_right.nd (i_slot (pv 4)) (blkOk_by rfl) (fun _ _ _ _ _ => (gc_name (pg_name (i := 12) sc_law_right.nd rfl (Or.inl rfl)) (by decide))) (fun _ _ _ _ _ => t_yes) (fun _ _ _ _ _ => (rE_O (d_subN (pv 12) (rE_D (d_c pe_int (fun _ => rep_int))) (fun _ _ => rfl)))) (fun _ => rfl))) o_nil rfl) rfl) rfl))) rfl) (ss_cons (s_ret (d_tup (l_cons (rE_D (d_lst (o_cons (rE_O (d_sl (pv 1))) (o_cons (rE_O (d_lc (own := [("pair", 12)]) (by decide) rfl sc_law_right.nd (i_slot (pv 4)) (blkOk_by rfl) (fun _ _ _ _ _ => (gc_name (pg_name (i := 12) sc_law_right.nd rfl (Or.inl rfl)) (by decide))) (fun _ _ _ _ _ => t_yes) (fun _ _ _ _ _ => (rE_O (d_subN (pv 12) (rE_D (d_c pe_int (fun _ => rep_int))) (fun _ _ => rfl)))) (fun _ => rfl))) (o_cons (rE_O (d_lc (own := [("pair", 12)]) (by decide) rfl sc_law_right.nd (i_slot (pv 6)) (blkOk_by rfl) (fun _ _ _ _ _ => (gc_name (pg_name (i := 12) sc_law_right.nd rfl (Or.inl rfl)) (by decide))) (fun _ _ _ _ _ => t_yes) (fun _ _ _ _ _ => (rE_O (d_subN (pv 12) (rE_D (d_c pe_int (fun _ => rep_int))) (fun _ _ => rfl)))) (fun _ => rfl))) (o_cons (rE_O (d_lc (own := [("pair", 12)]) (by decide) rfl sc_law_right.nd (i_slot (pv 8)) (blkOk_by rfl) (fun _ _ _ _ _ => (gc_name (pg_name (i := 12) sc_law_right.nd rfl (Or.inl rfl)) (by decide))) (fun _ _ _ _ _ => t_yes) (fun _ _ _ _ _ => (rE_O (d_subN (pv 12) (rE_D (d_c pe_int (fun _ => rep_int))) (fun _ _ => rfl)))) (fun _ => rfl))) o_nil rfl) rfl) rfl) rfl))) (l_cons (rE_D (d_sl (pv 2))) (l_cons (rE_D (d_sl (pv 11))) l_nil rfl) rfl) rfl))) ss_nil))))))))))
/-! _law_broken -/
theorem sc_law_broken : FnScope ["rows", "clearing", "marks", "bought", "sold", "run", "found", "mark", "x", "spot", "units", "price", "one", "two", "top", "pairs", "field", "place", "n"] ["rows", "clearing", "marks"] (defScope (top 27)) := ⟨rfl, rfl, rfl, by decide +kernel, rfl, by decide +kernel, by decide +kernel⟩
def W_law_broken (ad : Nat → Addr) : WE := bodyW 3 19 (wSeq (wAsgT (gT 3 (gsCons (gN 3) (gsCons (gN 4) (gsCons (gN 5) (gsNil))))) (wSl 1)) (wSeq (wAsg 6 (wLc (wItSl 2) [7] (gN 7) (wOrT (wTest (wOp boLt (wD (wSl 7)) (wD (wNeg (wD (wC (.int 99))))))) (wTest (wOp boGt (wD (wSl 7)) (wD (wC (.int 99)))))) (wO (wC (.int 2))))) (wSeq (wForS (wR1 (wCons (wD (wB1 bLen (wSubN 0 (wD (wC (.int 2)))))) (wNil))) (gN 8) (wSeq (wAsgT (gT 3 (gsCons (gN 9) (gsCons (gN 10) (gsCons (gN 11) (gsNil))))) (wIxP (wSubN 0 (wD (wC (.int 2)))) (.v 8))) (wSeq (wIfS (wOrT (wTest (wOp boLt (wD (wSubN 3 (wD (wSl 8)))) (wD (wC (.int 0))))) (wTest (wOp boGt (wD (wSubN 3 (wD (wSl 8)))) (wD (wSl 10))))) (wSeq (wEx (wApp 6 (wD (wC (.int 1))))) (wPass)) (wPass)) (wSeq (wIfS (wOrT (wAndT (wTest (wOp boGt (wD (wSl 11)) (wD (wSubN 2 (wD (wSl 9)))))) (wTest (wOp boNe (wD (wSubN 3 (wD (wSl 8)))) (wD (wSl 10))))) (wAndT (wTest (wOp boLt (wD (wSl 11)) (wD (wSubN 2 (wD (wSl 9)))))) (wTest (wOp boNe (wD (wSubN 3 (wD (wSl 8)))) (wD (wC (.int 0))))))) (wSeq (wEx (wApp 6 (wD (wC (.int 3))))) (wPass)) (wPass)) (wPass))))) (wSeq (wForS (wR1 (wCons (wD (wB1 bLen (wSubN 0 (wD (wC (.int 3)))))) (wNil))) (gN 8) (wSeq (wAsgT (gT 3 (gsCons (gN 9) (gsCons (gN 10) (gsCons (gN 11) (gsNil))))) (wIxP (wSubN 0 (wD (wC (.int 3)))) (.v 8))) (wSeq (wIfS (wOrT (wTest (wOp boLt (wD (wSubN 4 (wD (wSl 8)))) (wD (wC (.int 0))))) (wTest (wOp boGt (wD (wSubN 4 (wD (wSl 8)))) (wD (wSl 10))))) (wSeq (wEx (wApp 6 (wD (wC (.int 1))))) (wPass)) (wPass)) (wSeq (wIfS (wOrT (wAndT (wTest (wOp boLt (wD (wSl 11)) (wD (wSubN 2 (wD (wSl 9)))))) (wTest (wOp boNe (wD (wSubN 4 (wD (wSl 8)))) (wD (wSl 10))))) (wAndT (wTest (wOp boGt (wD (wSl 11)) (wD (wSubN 2 (wD (wSl 9)))))) (wTest (wOp boNe (wD (wSubN 4 (wD (wSl 8)))) (wD (wC (.int 0))))))) (wSeq (wEx (wApp 6 (wD (wC (.int 4))))) (wPass)) (wPass)) (wPass))))) (wSeq (wForS (wR1 (wCons (wD (wB1 bLen (wSubN 0 (wD (wC (.int 1)))))) (wNil))) (gN 8) (wSeq (wAsgT (gT 3 (gsCons (gN 12) (gsCons (gN 13) (gsCons (gN 14) (gsNil))))) (wIxP (wSubN 0 (wD (wC (.int 1)))) (.v 8))) (wSeq (wIfS (wTest (wOp boGt (wD (wB1 bAbs (wSubN 5 (wD (wSl 8))))) (wD (wSl 14)))) (wSeq (wEx (wApp 6 (wD (wC (.int 1))))) (wPass)) (wPass)) (wSeq (wIfS (wOrT (wAndT (wTest (wOp boLt (wD (wSubN 2 (wD (wSl 12)))) (wD (wSubN 2 (wD (wSl 13)))))) (wTest (wOp boNe (wD (wSubN 5 (wD (wSl 8)))) (wD (wSl 14))))) (wAndT (wTest (wOp boGt (wD (wSubN 2 (wD (wSl 12)))) (wD (wSubN 2 (wD (wSl 13)))))) (wTest (wOp boNe (wD (wSubN 5 (wD (wSl 8)))) (wD (wOp boSub (wD (wC (.int 0))) (wD (wSl 14)))))))) (wSeq (wEx (wApp 6 (wD (wC (.int 5))))) (wPass)) (wPass)) (wPass))))) (wSeq (wAsg 15 (wLc (wItD (wLst (wConsO (wO (wTup (wCons (wD (wC (.int 1))) (wCons (wD (wC (.int 2))) (wNil))))) (wConsO (wO (wTup (wCons (wD (wC (.int 2))) (wCons (wD (wC (.int 0))) (wNil))))) (wConsO (wO (wTup (wCons (wD (wC (.int 3))) (wCons (wD (wC (.int 1))) (wNil))))) (wNilO)))))) [16, 17] (gT 2 (gsCons (gN 16) (gsCons (gN 17) (gsNil)))) (wYes) (wO (wLc (wR1 (wCons (wD (wB1 bLen (wSubN 0 (wD (wSl 16))))) (wNil))) [8] (gN 8) (wYes) (wO (wTup (wCons (wD (wIxP (wSubN 0 (wD (wSl 16))) (.v 8))) (wCons (wD (wIxP (wSubN 1 (wD (wSl 17))) (.v 8))) (wNil))))))))) (wSeq (wRet (wOp boAdd (wD (wSl 6)) (wD (wLc (wItD (wCall 4 (W_law_net ad) (wConsD (wD (wSubN 0 (wD (wC (.int 0))))) (wConsD (wD (wSubN 15 (wD (wC (.int 0))))) (wConsD (wD (wSubN 15 (wD (wC (.int 1))))) (wConsD (wD (wSubN 15 (wD (wC (.int 2))))) (wNilR))))))) [18] (gN 18) (wTest (wOp boNe (wD (wSl 18)) (wD (wC (.int 0))))) (wO (wC (.int 1))))))) (wPass))))))))
theorem ok_law_broken {P : Program} {w : World} {K : PySem.W.Frag} {mg : Str → Option Value} {base : Heap} {ad : Nat → Addr} {fd : FuncData} (B : Wd K mg ad) (F : FnP K "_law_broken" "_law_broken" (top 27) (ad 24) fd) : FnOk P w K mg base CX0 2 (ad 24) fd ["rows", "clearing", "marks"] (spW K 3 (W_law_broken ad)) := by
  obtain ⟨fd_law_net, F_law_net⟩ := B.fn_law_net
  have O_law_net := ok_law_net (P := P) (w := w) (base := base) B F_law_net
  have b_law_net : Binds K fd_law_net ["spots", "ties", "asks", "offs"] [] := F_law_net.bindsN fun _ _ _ _ _ _ us hl => match us, hl with | [_, _, _, _], _ => rfl
  exact fn_okW F sc_law_broken (by decide) fun cdv A outer s H E hr => (ss_cons (s_asgT (ps_asg (rE_D (d_sl (pv 1))) (g_tup rfl (gs_cons (g_name (pg_name (i := 3) sc_law_broken.nd rfl (Or.inl rfl))) (gs_cons (g_name (pg_name (i := 4) sc_law_broken.nd rfl (Or.inl rfl))) (gs_cons (g_name (pg_name (i := 5) sc_law_broken.nd rfl (Or.inl rfl))) gs_nil rfl) rfl) rfl) rfl rfl))) (ss_cons (s_asg (s_setLc (own := [("mark", 7)]) (i := 6) (by decide) rfl sc_law_broken.nd rfl rfl (sw_true rfl rfl rfl rfl) (i_slot (pv 2)) (blkOk_by rfl) (fun _ _ _ _ _ => (gc_name (pg_name (i := 7) sc_law_broken.nd rfl (Or.inl rfl)) (by decide))) (fun _ _ _ _ _ => (t_one (PW.pt (t_or (t_cmp op_lt s_lt (rE_D (d_sl (pv 7))) (rE_D (d_neg (rE_D (d_c pe_int (fun _ => rep_int))))) rfl) (pw_or1 (t_cmp op_gt s_gt (rE_D (d_sl (pv 7))) (rE_D (d_c pe_int (fun _ => rep_int))) rfl)))))) (fun _ _ _ _ _ => (rE_O (d_c pe_int (fun _ => rep_int)))) (fun _ => rfl)) rfl) (ss_cons (s_for PassesOwn.never rfl (i_r1 rfl (B.free_range) (l_cons (rE_D (d_b1 bs_len call_len_seq rfl (B.free_len) boot_len (d_subN (pv 0) (rE_D (d_c pe_int (fun _ => rep_int))) (fun _ _ => rfl)) (by decide) rfl rfl)) l_nil rfl) rfl) (g_name (pg_name (i := 8) sc_law_broken.nd rfl (Or.inl rfl))) (ss_cons (s_asgT (ps_asg (rE_D (d_ixP (sx := (.v 8)) (d_subN (pv 0) (rE_D (d_c pe_int (fun _ => rep_int))) (fun _ _ => rfl)) (pv 8) (fun _ _ => rfl))) (g_tup rfl (gs_cons (g_name (pg_name (i := 9) sc_law_broken.nd rfl (Or.inl rfl))) (gs_cons (g_name (pg_name (i := 10) sc_law_broken.nd rfl (Or.inl rfl))) (gs_cons (g_name (pg_name (i := 11) sc_law_broken.nd rfl (Or.inl rfl))) gs_nil rfl) rfl) rfl) rfl rfl))) (ss_cons (s_if (PW.pt (t_or (t_cmp op_lt s_lt (rE_D (d_subN (pv 3) (rE_D (d_sl (pv 8))) (fun _ _ => rfl))) (rE_D (d_c pe_int (fun _ => rep_int))) rfl) (pw_or1 (t_cmp op_gt s_gt (rE_D (d_subN (pv 3) (rE_D (d_sl (pv 8))) (fun _ _ => rfl))) (rE_D (d_sl (pv 10))) rfl)))) (ss_cons (s_ex (d_app (pe_bm PySem.F.plainAttrs_list PySem.F.slot_list_append PySem.F.type_list_append mt_append (pv 6) (pa_cons (rE_D (d_c pe_int (fun _ => rep_int))) pa_nil))) rfl) ss_nil) ss_nil) (ss_cons (s_if (PW.pt (t_or (PW.pt (t_and (t_cmp op_gt s_gt (rE_D (d_sl (pv 11))) (rE_D (d_subN (pv 2) (rE_D (d_sl (pv 9))) (fun _ _ => rfl))) rfl) (pw_and1 (t_cmp (op_neA hr.units) s_ne (rE_D (d_subN (pv 3) (rE_D (d_sl (pv 8))) (fun _ _ => rfl))) (rE_D (d_sl (pv 10))) rfl)))) (pw_or1 (PW.pt (t_and (t_cmp op_lt s_lt (rE_D (d_sl (pv 11))) (rE_D (d_subN (pv 2) (rE_D (d_sl (pv 9))) (fun _ _ => rfl))) rfl) (pw_and1 (t_cmp (op_neA hr.units) s_ne (rE_D (d_subN (pv 3) (rE_D (d_sl (pv 8))) (fun _ _ => rfl))) (rE_D (d_c pe_int (fun _ => rep_int))) rfl))))))) (ss_cons (s_ex (d_app (pe_bm PySem.F.plainAttrs_list PySem.F.slot_list_append PySem.F.type_list_append mt_append (pv 6) (pa_cons (rE_D (d_c pe_int (fun _ => rep_int))) pa_nil))) rfl) ss_nil) ss_nil) ss_nil))) (fun _ => rfl)) (ss_cons (s_for PassesOwn.never rfl (i_r1 rfl (B.free_range) (l_cons (rE_D (d_b1 bs_len call_len_seq rfl (B.free_len) boot_len (d_subN (pv 0) (rE_D (d_c pe_int (fun _ => rep_int))) (fun _ _ => rfl)) (by decide) rfl rfl)) l_nil rfl) rfl) (g_name (pg_name (i := 8) sc_law_broken.nd rfl (Or.inl rfl))) (ss_cons (s_asgT (ps_asg (rE_D (d_ixP (sx := (.v 8)) (d_subN (pv 0) (rE_D (d_c pe_int (fun _ => rep_int))) (fun _ _ => rfl)) (pv 8) (fun _ _ => rfl))) (g_tup rfl (gs_cons (g_name (pg_name (i := 9) sc_law_broken.nd rfl (Or.inl rfl))) (gs_cons (g_name (pg_name (i := 10) sc_law_broken.nd rfl (Or.inl rfl))) (gs_cons (g_name (pg_name (i := 11) sc_law_broken.nd rfl (Or.inl rfl))) gs_nil rfl) rfl) rfl) rfl rfl))) (ss_cons (s_if (PW.pt (t_or (t_cmp op_lt s_lt (rE_D (d_subN (pv 4) (rE_D (d_sl (pv 8))) (fun _ _ => rfl))) (rE_D (d_c pe_int (fun _ => rep_int))) rfl) (pw_or1 (t_cmp op_gt s_gt (rE_D (d_subN (pv 4) (rE_D (d_sl (pv 8))) (fun _ _ => rfl))) (rE_D (d_sl (pv 10))) rfl)))) (ss_cons (s_ex (d_app (pe_bm PySem.F.plainAttrs_list PySem.F.slot_list_append PySem.F.type_list_append mt_append (pv 6) (pa_cons (rE_D (d_c pe_int (fun _ => rep_int))) pa_nil))) rfl) ss_nil) ss_nil) (ss_cons (s_if (PW.pt (t_or (PW.pt (t_and (t_cmp op_lt s_lt (rE_D (d_sl (pv 11))) (rE_D (d_subN (pv 2) (rE_D (d_sl (pv 9))) (fun _ _ => rfl))) rfl) (pw_and1 (t_cmp (op_neA hr.units) s_ne (rE_D (d_subN (pv 4) (rE_D (d_sl (pv 8))) (fun _ _ => rfl))) (rE_D (d_sl (pv 10))) rfl)))) (pw_or1 (PW.pt (t_and (t_cmp op_gt s_gt (rE_D (d_sl (pv 11))) (rE_D (d_subN (pv 2) (rE_D (d_sl (pv 9))) (fun _ _ => rfl))) rfl) (pw_and1 (t_cmp (op_neA hr.units) s_ne (rE_D (d_subN (pv 4) (rE_D (d_sl (pv 8))) (fun _ _ => rfl))) (rE_D (d_c pe_int (fun _ => rep_int))) rfl))))))) (ss_cons (s_ex (d_app (pe_bm PySem.F.plainAttrs_list PySem.F.slot_list_append PySem.F.type_list_append mt_append (pv 6) (pa_cons (rE_D (d_c pe_int (fun _ => rep_int))) pa_nil))) rfl) ss_nil) ss_nil) ss_nil))) (fun _ => rfl)) (ss_cons (s_for PassesOwn.never rfl (i_r1 rfl (B.free_range) (l_cons (rE_D (d_b1 bs_len call_len_seq rfl (B.free_len) boot_len (d_subN (pv 0) (rE_D (d_c pe_int (fun _ => rep_int))) (fun _ _ => rfl)) (by decide) rfl rfl)) l_nil rfl) rfl) (g_name (pg_name (i := 8) sc_law_broken.nd rfl (Or.inl rfl))) (ss_cons (s_asgT (ps_asg (rE_D (d_ixP (sx := (.v 8)) (d_subN (pv 0) (rE_D (d_c pe_int (fun _ => rep_int))) (fun _ _ => rfl)) (pv 8) (fun _ _ => rfl))) (g_tup rfl (gs_cons (g_name (pg_name (i := 12) sc_law_broken.nd rfl (Or.inl rfl))) (gs_cons (g_name (pg_name (i := 13) sc_law_broken.nd rfl (Or.inl rfl))) (gs_cons (g_name (pg_name (i := 14) sc_law_broken.nd rfl (Or.inl rfl))) gs_nil rfl) rfl) rfl) rfl rfl))) (ss_cons (s_if (t_cmp op_gt s_gt (rE_D (d_b1 bs_abs call_abs rfl (B.free_abs) boot_abs (d_subN (pv 5) (rE_D (d_sl (pv 8))) (fun _ _ => rfl)) (by decide) rfl rfl)) (rE_D (d_sl (pv 14))) rfl) (ss_cons (s_ex (d_app (pe_bm PySem.F.plainAttrs_list PySem.F.slot_list_append PySem.F.type_list_append mt_append (pv 6) (pa_cons (rE_D (d_c pe_int (fun _ => rep_int))) pa_nil))) rfl) ss_nil) ss_nil) (ss_cons (s_if (PW.pt (t_or (PW.pt (t_and (t_cmp op_lt s_lt (rE_D (d_subN (pv 2) (rE_D (d_sl (pv 12))) (fun _ _ => rfl))) (rE_D (d_subN (pv 2) (rE_D (d_sl (pv 13))) (fun _ _ => rfl))) rfl) (pw_and1 (t_cmp (op_neA hr.units) s_ne (rE_D (d_subN (pv 5) (rE_D (d_sl (pv 8))) (fun _ _ => rfl))) (rE_D (d_sl (pv 14))) rfl)))) (pw_or1 (PW.pt (t_and (t_cmp op_gt s_gt (rE_D (d_subN (pv 2) (rE_D (d_sl (pv 12))) (fun _ _ => rfl))) (rE_D (d_subN (pv 2) (rE_D (d_sl (pv 13))) (fun _ _ => rfl))) rfl) (pw_and1 (t_cmp (op_neA hr.units) s_ne (rE_D (d_subN (pv 5) (rE_D (d_sl (pv 8))) (fun _ _ => rfl))) (rE_D (d_op op_sub s_sub (rE_D (d_c pe_int (fun _ => rep_int))) (rE_D (d_sl (pv 14))))) rfl))))))) (ss_cons (s_ex (d_app (pe_bm PySem.F.plainAttrs_list PySem.F.slot_list_append PySem.F.type_list_append mt_append (pv 6) (pa_cons (rE_D (d_c pe_int (fun _ => rep_int))) pa_nil))) rfl) ss_nil) ss_nil) ss_nil))) (fun _ => rfl)) (ss_cons (s_asg (s_setLc (own := [("field", 16), ("place", 17)]) (i := 15) (by decide) rfl sc_law_broken.nd rfl rfl (sw_true rfl rfl rfl rfl) (i_seq (d_lst (o_cons (rE_O (d_tup (l_cons (rE_D (d_c pe_int (fun _ => rep_int))) (l_cons (rE_D (d_c pe_int (fun _ => rep_int))) l_nil rfl) rfl))) (o_cons (rE_O (d_tup (l_cons (rE_D (d_c pe_int (fun _ => rep_int))) (l_cons (rE_D (d_c pe_int (fun _ => rep_int))) l_nil rfl) rfl))) (o_cons (rE_O (d_tup (l_cons (rE_D (d_c pe_int (fun _ => rep_int))) (l_cons (rE_D (d_c pe_int (fun _ => rep_int))) l_nil rfl) rfl))) o_nil rfl) rfl) rfl))) (blkOk_by rfl) (fun _ _ _ _ _ => (gc_tup rfl (gcs_cons (gc_name (pg_name (i := 16) sc_law_broken.nd rfl (Or.inr rfl)) (by decide)) (gcs_cons (gc_name (pg_name (i := 17) sc_law_broken.nd rfl (Or.inr rfl)) (by decide)) gcs_nil rfl) rfl) rfl rfl)) (fun _ _ _ _ _ => t_yes) (fun _ _ _ _ _ => (rE_O (d_lc (own := [("x", 8)]) (by decide) rfl sc_law_broken.nd (i_r1 rfl (B.free_range) (l_cons (rE_D (d_b1 bs_len call_len_seq rfl (B.free_len) boot_len (d_subN (pv 0) (rE_D (d_sl (pv 16))) (fun _ _ => rfl)) (by decide) rfl rfl)) l_nil rfl) rfl) (blkOk_by rfl) (fun _ _ _ _ _ => (gc_name (pg_name (i := 8) sc_law_broken.nd rfl (Or.inl rfl)) (by decide))) (fun _ _ _ _ _ => t_yes) (fun _ _ _ _ _ => (rE_O (d_tup (l_cons (rE_D (d_ixP (sx := (.v 8)) (d_subN (pv 0) (rE_D (d_sl (pv 16))) (fun _ _ => rfl)) (pv 8) (fun _ _ => rfl))) (l_cons (rE_D (d_ixP (sx := (.v 8)) (d_subN (pv 1) (rE_D (d_sl (pv 17))) (fun _ _ => rfl)) (pv 8) (fun _ _ => rfl))) l_nil rfl) rfl)))) (fun _ => rfl)))) (fun _ => rfl)) rfl) (ss_cons (s_ret (d_op op_addA s_add (rE_D (d_sl (pv 6))) (rE_D (d_lc (own := [("n", 18)]) (by decide) rfl sc_law_broken.nd (i_seq (d_call O_law_net (hr.mono (by decide)) rfl (B.glo_law_net) F_law_net.kp b_law_net (r_data (rE_D (d_subN (pv 0) (rE_D (d_c pe_int (fun _ => rep_int))) (fun _ _ => rfl))) (r_data (rE_D (d_subN (pv 15) (rE_D (d_c pe_int (fun _ => rep_int))) (fun _ _ => rfl))) (r_data (rE_D (d_subN (pv 15) (rE_D (d_c pe_int (fun _ => rep_int))) (fun _ _ => rfl))) (r_data (rE_D (d_subN (pv 15) (rE_D (d_c pe_int (fun _ => rep_int))) (fun _ _ => rfl))) r_nil rfl) rfl) rfl) rfl) rfl rfl rfl)) (blkOk_by rfl) (fun _ _ _ _ _ => (gc_name (pg_name (i := 18) sc_law_broken.nd rfl (Or.inl rfl)) (by decide))) (fun _ _ _ _ _ => (t_one (t_cmp (op_neA hr.units) s_ne (rE_D (d_sl (pv 18))) (rE_D (d_c pe_int (fun _ => rep_int))) rfl))) (fun _ _ _ _ _ => (rE_O (d_c pe_int (fun _ => rep_int)))) (fun _ => rfl))))) ss_nil)))))))
/-! _law_made_good -/
theorem sc_law_made_good : FnScope ["rows", "parts", "pairs", "field", "place", "x", "net", "spot"] ["rows", "parts"] (defScope (top 28)) := ⟨rfl, rfl, rfl, by decide +kernel, rfl, by decide +kernel, by decide +kernel⟩
def W_law_made_good (ad : Nat → Addr) : WE := bodyW 2 8 (wSeq (wAsg 2 (wLc (wItD (wLst (wConsO (wO (wTup (wCons (wD (wC (.int 1))) (wCons (wD (wC (.int 2))) (wNil))))) (wConsO (wO (wTup (wCons (wD (wC (.int 2))) (wCons (wD (wC (.int 0))) (wNil))))) (wConsO (wO (wTup (wCons (wD (wC (.int 3))) (wCons (wD (wC (.int 1))) (wNil))))) (wNilO)))))) [3, 4] (gT 2 (gsCons (gN 3) (gsCons (gN 4) (gsNil)))) (wYes) (wO (wLc (wR1 (wCons (wD (wB1 bLen (wSubN 0 (wD (wSl 3))))) (wNil))) [5] (gN 5) (wYes) (wO (wTup (wCons (wD (wIxP (wSubN 0 (wD (wSl 3))) (.v 5))) (wCons (wD (wIxP (wSubN 1 (wD (wSl 4))) (.v 5))) (wNil))))))))) (wSeq (wAsg 6 (wCall 4 (W_law_net ad) (wConsD (wD (wSubN 0 (wD (wC (.int 0))))) (wConsD (wD (wSubN 2 (wD (wC (.int 0))))) (wConsD (wD (wSubN 2 (wD (wC (.int 1))))) (wConsD (wD (wSubN 2 (wD (wC (.int 2))))) (wNilR))))))) (wSeq (wForS (wR3 (wCons (wD (wOp boSub (wD (wB1 bLen (wSubN 0 (wD (wC (.int 3)))))) (wD (wC (.int 1))))) (wCons (wD (wNeg (wD (wC (.int 1))))) (wCons (wD (wNeg (wD (wC (.int 1))))) (wNil))))) (gN 5) (wSeq (wAsg 7 (wIxP (wIxP (wSubN 0 (wD (wC (.int 3)))) (.v 5)) (.c 0))) (wSeq (wIfS (wTest (wOp boNe (wD (wSubN 6 (wD (wSl 7)))) (wD (wC (.int 0))))) (wSeq (wSetP (wSubN 1 (wD (wC (.int 1)))) (.v 5) (wD (wOp boSub (wD (wIxP (wSubN 1 (wD (wC (.int 1)))) (.v 5))) (wD (wSubN 6 (wD (wSl 7))))))) (wSeq (wSetI 6 (wD (wSl 7)) (wD (wC (.int 0)))) (wPass))) (wPass)) (wPass)))) (wSeq (wForS (wR1 (wCons (wD (wB1 bLen (wSubN 0 (wD (wC (.int 2)))))) (wNil))) (gN 5) (wSeq (wAsg 7 (wIxP (wIxP (wSubN 0 (wD (wC (.int 2)))) (.v 5)) (.c 0))) (wSeq (wIfS (wTest (wOp boNe (wD (wSubN 6 (wD (wSl 7)))) (wD (wC (.int 0))))) (wSeq (wSetP (wSubN 1 (wD (wC (.int 0)))) (.v 5) (wD (wOp boAdd (wD (wIxP (wSubN 1 (wD (wC (.int 0)))) (.v 5))) (wD (wSubN 6 (wD (wSl 7))))))) (wSeq (wSetI 6 (wD (wSl 7)) (wD (wC (.int 0)))) (wPass))) (wPass)) (wPass)))) (wSeq (wRet (wSl 1)) (wPass))))))
theorem ok_law_made_good {P : Program} {w : World} {K : PySem.W.Frag} {mg : Str → Option Value} {base : Heap} {ad : Nat → Addr} {fd : FuncData} (B : Wd K mg ad) (F : FnP K "_law_made_good" "_law_made_good" (top 28) (ad 25) fd) : FnOk P w K mg base CX0 2 (ad 25) fd ["rows", "parts"] (spW K 2 (W_law_made_good ad)) := by
  obtain ⟨fd_law_net, F_law_net⟩ := B.fn_law_net
  have O_law_net := ok_law_net (P := P) (w := w) (base := base) B F_law_net
  have b_law_net : Binds K fd_law_net ["spots", "ties", "asks", "offs"] [] := F_law_net.bindsN fun _ _ _ _ _ _ us hl => match us, hl with | [_, _, _, _], _ => rfl
  exact fn_okW F sc_law_made_good (by decide) fun cdv A outer s H E hr => (ss_cons (s_asg (s_setLc (own := [("field", 3), ("place", 4)]) (i := 2) (by decide) rfl sc_law_made_good.nd rfl rfl (sw_true rfl rfl rfl rfl) (i_seq (d_lst (o_cons (rE_O (d_tup (l_cons (rE_D (d_c pe_int (fun _ => rep_int))) (l_cons (rE_D (d_c pe_int (fun _ => rep_int))) l_nil rfl) rfl))) (o_cons (rE_O (d_tup (l_cons (rE_D (d_c pe_int (fun _ => rep_int))) (l_cons (rE_D (d_c pe_int (fun _ => rep_int))) l_nil rfl) rfl))) (o_cons (rE_O (d_tup (l_cons (rE_D (d_c pe_int (fun _ => rep_int))) (l_cons (rE_D (d_c pe_int (fun _ => rep_int))) l_nil rfl) rfl))) o_nil rfl) rfl) rfl))) (blkOk_by rfl) (fun _ _ _ _ _ => (gc_tup rfl (gcs_cons (gc_name (pg_name (i := 3) sc_law_made_good.nd rfl (Or.inr rfl)) (by decide)) (gcs_cons (gc_name (pg_name (i := 4) sc_law_made_good.nd rfl (Or.inr rfl)) (by decide)) gcs_nil rfl) rfl) rfl rfl)) (fun _ _ _ _ _ => t_yes) (fun _ _ _ _ _ => (rE_O (d_lc (own := [("x", 5)]) (by decide) rfl sc_law_made_good.nd (i_r1 rfl (B.free_range) (l_cons (rE_D (d_b1 bs_len call_len_seq rfl (B.free_len) boot_len (d_subN (pv 0) (rE_D (d_sl (pv 3))) (fun _ _ => rfl)) (by decide) rfl rfl)) l_nil rfl) rfl) (blkOk_by rfl) (fun _ _ _ _ _ => (gc_name (pg_name (i := 5) sc_law_made_good.nd rfl (Or.inl rfl)) (by decide))) (fun _ _ _ _ _ => t_yes) (fun _ _ _ _ _ => (rE_O (d_tup (l_cons (rE_D (d_ixP (sx := (.v 5)) (d_subN (pv 0) (rE_D (d_sl (pv 3))) (fun _ _ => rfl)) (pv 5) (fun _ _ => rfl))) (l_cons (rE_D (d_ixP (sx := (.v 5)) (d_subN (pv 1) (rE_D (d_sl (pv 4))) (fun _ _ => rfl)) (pv 5) (fun _ _ => rfl))) l_nil rfl) rfl)))) (fun _ => rfl)))) (fun _ => rfl)) rfl) (ss_cons (s_asg (ps_set (i := 6) sc_law_made_good.nd rfl (Or.inl rfl) (d_call O_law_net (hr.mono (by decide)) rfl (B.glo_law_net) F_law_net.kp b_law_net (r_data (rE_D (d_subN (pv 0) (rE_D (d_c pe_int (fun _ => rep_int))) (fun _ _ => rfl))) (r_data (rE_D (d_subN (pv 2) (rE_D (d_c pe_int (fun _ => rep_int))) (fun _ _ => rfl))) (r_data (rE_D (d_subN (pv 2) (rE_D (d_c pe_int (fun _ => rep_int))) (fun _ _ => rfl))) (r_data (rE_D (d_subN (pv 2) (rE_D (d_c pe_int (fun _ => rep_int))) (fun _ _ => rfl))) r_nil rfl) rfl) rfl) rfl) rfl rfl rfl)) rfl) (ss_cons (s_for PassesOwn.never rfl (i_r3 rfl (B.free_range) (l_cons (rE_D (d_op op_sub s_sub (rE_D (d_b1 bs_len call_len_seq rfl (B.free_len) boot_len (d_subN (pv 0) (rE_D (d_c pe_int (fun _ => rep_int))) (fun _ _ => rfl)) (by decide) rfl rfl)) (rE_D (d_c pe_int (fun _ => rep_int))))) (l_cons (rE_D (d_neg (rE_D (d_c pe_int (fun _ => rep_int))))) (l_cons (rE_D (d_neg (rE_D (d_c pe_int (fun _ => rep_int))))) l_nil rfl) rfl) rfl) rfl rfl) (g_name (pg_name (i := 5) sc_law_made_good.nd rfl (Or.inl rfl))) (ss_cons (s_asg (ps_set (i := 7) sc_law_made_good.nd rfl (Or.inl rfl) (d_ixP (sx := (.c 0)) (d_ixP (sx := (.v 5)) (d_subN (pv 0) (rE_D (d_c pe_int (fun _ => rep_int))) (fun _ _ => rfl)) (pv 5) (fun _ _ => rfl)) pe_int (fun _ _ => rfl))) rfl) (ss_cons (s_if (t_cmp (op_neA hr.units) s_ne (rE_D (d_subN (pv 6) (rE_D (d_sl (pv 7))) (fun _ _ => rfl))) (rE_D (d_c pe_int (fun _ => rep_int))) rfl) (ss_cons (s_setP (sx := (.v 5)) (ps_asg (rE_D (d_op op_sub s_sub (rE_D (d_ixP (sx := (.v 5)) (d_subN (pv 1) (rE_D (d_c pe_int (fun _ => rep_int))) (fun _ _ => rfl)) (pv 5) (fun _ _ => rfl))) (rE_D (d_subN (pv 6) (rE_D (d_sl (pv 7))) (fun _ _ => rfl))))) (pg_sub (d_subN (pv 1) (rE_D (d_c pe_int (fun _ => rep_int))) (fun _ _ => rfl)) (pv 5) set_list))) (ss_cons (s_setI (ps_asg (rE_D (d_c pe_int (fun _ => rep_int))) (pg_sub (pv 6) (rE_D (d_sl (pv 7))) set_list))) ss_nil)) ss_nil) ss_nil)) (fun _ => rfl)) (ss_cons (s_for PassesOwn.never rfl (i_r1 rfl (B.free_range) (l_cons (rE_D (d_b1 bs_len call_len_seq rfl (B.free_len) boot_len (d_subN (pv 0) (rE_D (d_c pe_int (fun _ => rep_int))) (fun _ _ => rfl)) (by decide) rfl rfl)) l_nil rfl) rfl) (g_name (pg_name (i := 5) sc_law_made_good.nd rfl (Or.inl rfl))) (ss_cons (s_asg (ps_set (i := 7) sc_law_made_good.nd rfl (Or.inl rfl) (d_ixP (sx := (.c 0)) (d_ixP (sx := (.v 5)) (d_subN (pv 0) (rE_D (d_c pe_int (fun _ => rep_int))) (fun _ _ => rfl)) (pv 5) (fun _ _ => rfl)) pe_int (fun _ _ => rfl))) rfl) (ss_cons (s_if (t_cmp (op_neA hr.units) s_ne (rE_D (d_subN (pv 6) (rE_D (d_sl (pv 7))) (fun _ _ => rfl))) (rE_D (d_c pe_int (fun _ => rep_int))) rfl) (ss_cons (s_setP (sx := (.v 5)) (ps_asg (rE_D (d_op op_addA s_add (rE_D (d_ixP (sx := (.v 5)) (d_subN (pv 1) (rE_D (d_c pe_int (fun _ => rep_int))) (fun _ _ => rfl)) (pv 5) (fun _ _ => rfl))) (rE_D (d_subN (pv 6) (rE_D (d_sl (pv 7))) (fun _ _ => rfl))))) (pg_sub (d_subN (pv 1) (rE_D (d_c pe_int (fun _ => rep_int))) (fun _ _ => rfl)) (pv 5) set_list))) (ss_cons (s_setI (ps_asg (rE_D (d_c pe_int (fun _ => rep_int))) (pg_sub (pv 6) (rE_D (d_sl (pv 7))) set_list))) ss_nil)) ss_nil) ss_nil)) (fun _ => rfl)) (ss_cons (s_ret (d_sl (pv 1))) ss_nil)))))
/-! _law_spoilt -/
theorem sc_law_spoilt : FnScope ["pool", "right", "rows", "marks", "parts", "row", "kind", "step", "field", "here", "spot", "x", "other", "mark", "one", "place", "tops", "lows", "bound"] ["pool", "right"] (defScope (top 29)) := ⟨rfl, rfl, rfl, by decide +kernel, rfl, by decide +kernel, by decide +kernel⟩
def W_law_spoilt (ad : Nat → Addr) : WE := bodyW 2 19 (wSeq (wAsg 2 (wLst (wConsO (wO (wIxP (wSubN 1 (wD (wC (.int 0)))) (.c 0))) (wConsO (wO (wB1 bList (wIxP (wSubN 1 (wD (wC (.int 0)))) (.c 1)))) (wConsO (wO (wB1 bList (wIxP (wSubN 1 (wD (wC (.int 0)))) (.c 2)))) (wConsO (wO (wB1 bList (wIxP (wSubN 1 (wD (wC (.int 0)))) (.c 3)))) (wNilO))))))) (wSeq (wAsg 3 (wB1 bList (wSubN 1 (wD (wC (.int 1)))))) (wSeq (wAsg 4 (wLc (wItD (wSubN 1 (wD (wC (.int 2))))) [5] (gN 5) (wYes) (wO (wB1 bList (wSl 5))))) (wSeq (wAsg 6 (wCall 2 (W_law_draw ad) (wConsS 0 (wConsD (wD (wC (.int 9))) (wNilR))))) (wSeq (wAsg 7 (wCall 2 (W_law_pick ad) (wConsS 0 (wConsD (wD (wLst (wConsO (wO (wC (.int 1))) (wConsO (wO (wNeg (wD (wC (.int 1))))) (wNilO))))) (wNilR))))) (wSeq (wAsg 8 (wCall 2 (W_law_draw ad) (wConsS 0 (wConsD (wD (wC (.int 3))) (wNilR))))) (wSeq (wAsg 9 (wSubN 4 (wD (wSl 8)))) (wSeq (wAsg 10 (wCall 2 (W_law_draw ad) (wConsS 0 (wConsD (wD (wB1 bLen (wSl 3))) (wNilR))))) (wSeq (wIfS (wAndT (wTest (wOp boLt (wD (wSl 6)) (wD (wC (.int 4))))) (wTru (wSl 9))) (wSeq (wAsg 11 (wCall 2 (W_law_draw ad) (wConsS 0 (wConsD (wD (wB1 bLen (wSl 9))) (wNilR))))) (wSeq (wSetI 9 (wD (wSl 11)) (wD (wOp boAdd (wD (wSubN 9 (wD (wSl 11)))) (wD (wOp boMul (wD (wSl 7)) (wD (wCall 2 (W_law_pick ad) (wConsS 0 (wConsD (wD (wLst (wConsO (wO (wC (.int 1))) (wConsO (wO (wC (.int 1))) (wConsO (wO (wC (.int 1))) (wConsO (wO (wC (.int 31))) (wConsO (wO (wOp boPow (wD (wC (.int 10))) (wD (wC (.int 12))))) (wNilO)))))))) (wNilR)))))))))) (wSeq (wIfS (wTest (wOp boGt (wD (wSl 6)) (wD (wC (.int 0))))) (wSeq (wAsg 4 (wCall 2 (W_law_made_good ad) (wConsD (wD (wSl 2)) (wConsS 4 (wNilR))))) (wPass)) (wPass)) (wPass)))) (wSeq (wIfS (wTest (wOp boEq (wD (wSl 6)) (wD (wC (.int 4))))) (wSeq (wSetI 3 (wD (wSl 10)) (wD (wOp boAdd (wD (wSubN 3 (wD (wSl 10)))) (wD (wSl 7))))) (wPass)) (wSeq (wIfS (wTest (wOp boEq (wD (wSl 6)) (wD (wC (.int 5))))) (wSeq (wSetI 3 (wD (wSl 10)) (wD (wCall 2 (W_law_pick ad) (wConsS 0 (wConsD (wD (wLst (wConsO (wO (wC (.int 100))) (wConsO (wO (wNeg (wD (wC (.int 100))))) (wConsO (wO (wC (.int 99))) (wConsO (wO (wNeg (wD (wC (.int 99))))) (wConsO (wO (wOp boPow (wD (wC (.int 10))) (wD (wC (.int 30))))) (wNilO)))))))) (wNilR)))))) (wPass)) (wSeq (wIfS (wTest (wOp boEq (wD (wSl 6)) (wD (wC (.int 6))))) (wSeq (wAsg 12 (wCall 2 (W_law_draw ad) (wConsS 0 (wConsD (wD (wB1 bLen (wSl 3))) (wNilR))))) (wSeq (wAsgT (gT 2 (gsCons (gI 3 (wD (wSl 10))) (gsCons (gI 3 (wD (wSl 12))) (gsNil)))) (wTup (wCons (wD (wSubN 3 (wD (wSl 12)))) (wCons (wD (wSubN 3 (wD (wSl 10)))) (wNil))))) (wPass))) (wSeq (wIfS (wTest (wOp boEq (wD (wSl 6)) (wD (wC (.int 7))))) (wSeq (wAsg 3 (wLc (wItSl 3) [13] (gN 13) (wYes) (wO (wOp boAdd (wD (wSl 13)) (wD (wSl 7)))))) (wPass)) (wSeq (wIfS (wTest (wOp boEq (wD (wSl 6)) (wD (wC (.int 8))))) (wSeq (wAsg 5 (wSubN 2 (wD (wOp boAdd (wD (wC (.int 1))) (wD (wSl 8)))))) (wSeq (wIfS (wTru (wSl 5)) (wSeq (wAsg 11 (wCall 2 (W_law_draw ad) (wConsS 0 (wConsD (wD (wB1 bLen (wSl 5))) (wNilR))))) (wSeq (wAsg 14 (wB1 bList (wSubN 5 (wD (wSl 11))))) (wSeq (wAsg 15 (wOp boSub (wD (wC (.int 2))) (wD (wOp boMul (wD (wB1 bInt (wOp boGt (wD (wSl 8)) (wD (wC (.int 0)))))) (wD (wCall 2 (W_law_draw ad) (wConsS 0 (wConsD (wD (wC (.int 2))) (wNilR))))))))) (wSeq (wAsg 16 (wLst (wConsO (wO (wC (.int 60))) (wConsO (wO (wC (.int 30))) (wConsO (wO (wC (.int 99))) (wNilO)))))) (wSeq (wAsg 17 (wLst (wConsO (wO (wC (.int 0))) (wConsO (wO (wC (.int 1))) (wConsO (wO (wNeg (wD (wC (.int 99))))) (wNilO)))))) (wSeq (wAsg 18 (wOp boMul (wD (wSl 15)) (wD (wB1 bInt (wOp boGt (wD (wSl 8)) (wD (wC (.int 0)))))))) (wSeq (wSetI 14 (wD (wSl 15)) (wD (wBL bMax2 (wCons (wD (wSubN 17 (wD (wSl 18)))) (wCons (wD (wBL bMin2 (wCons (wD (wSubN 16 (wD (wSl 18)))) (wCons (wD (wOp boAdd (wD (wSubN 14 (wD (wSl 15)))) (wD (wSl 7)))) (wNil))))) (wNil)))))) (wSeq (wSetI 5 (wD (wSl 11)) (wD (wTup (wCons (wD (wSubN 14 (wD (wC (.int 0))))) (wCons (wD (wSubN 14 (wD (wC (.int 1))))) (wCons (wD (wSubN 14 (wD (wC (.int 2))))) (wNil))))))) (wPass))))))))) (wPass)) (wPass))) (wPass)) (wPass))) (wPass))) (wPass))) (wPass))) (wPass))) (wSeq (wRet (wTup (wCons (wD (wSl 2)) (wCons (wD (wSl 3)) (wCons (wD (wSl 4)) (wNil)))))) (wPass)))))))))))
theorem ok_law_spoilt {P : Program} {w : World} {K : PySem.W.Frag} {mg : Str → Option Value} {base : Heap} {ad : Nat → Addr} {fd : FuncData} (B : Wd K mg ad) (F : FnP K "_law_spoilt" "_law_spoilt" (top 29) (ad 26) fd) : FnOk P w K mg base CX0 3 (ad 26) fd ["pool", "right"] (spW K 2 (W_law_spoilt ad)) := by
  obtain ⟨fd_law_draw, F_law_draw⟩ := B.fn_law_draw
  have O_law_draw := ok_law_draw (P := P) (w := w) (base := base) B F_law_draw
  have b_law_draw : Binds K fd_law_draw ["pool", "many"] [] := F_law_draw.bindsN fun _ _ _ _ _ _ us hl => match us, hl with | [_, _], _ => rfl
  obtain ⟨fd_law_pick, F_law_pick⟩ := B.fn_law_pick
  have O_law_pick := ok_law_pick (P := P) (w := w) (base := base) B F_law_pick
  have b_law_pick : Binds K fd_law_pick ["pool", "row"] [] := F_law_pick.bindsN fun _ _ _ _ _ _ us hl => match us, hl with | [_, _], _ => rfl
  obtain ⟨fd_law_made_good, F_law_made_good⟩ := B.fn_law_made_good
  have O_law_made_good := ok_law_made_good (P := P) (w := w) (base := base) B F_law_made_good
  have b_law_made_good : Binds K fd_law_made_good ["rows", "parts"] [] := F_law_made_good.bindsN fun _ _ _ _ _ _ us hl => match us, hl with | [_, _], _ => rfl
  exact fn_okW F sc_law_spoilt (by decide) fun cdv A outer s H E hr => (ss_cons (s_asg (ps_set (i := 2) sc_law_spoilt.nd rfl (Or.inl rfl) (d_lst (o_cons (rE_O (d_ixP (sx := (.c 0)) (d_subN (pv 1) (rE_D (d_c pe_int (fun _ => rep_int))) (fun _ _ => rfl)) pe_int (fun _ _ => rfl))) (o_cons (rE_O (d_t1 bs_list call_list_of rfl (B.free_list) boot_list (d_ixP (sx := (.c 1)) (d_subN (pv 1) (rE_D (d_c pe_int (fun _ => rep_int))) (fun _ _ => rfl)) pe_int (fun _ _ => rfl)) (by decide) rfl rfl)) (o_cons (rE_O (d_t1 bs_list call_list_of rfl (B.free_list) boot_list (d_ixP (sx := (.c 2)) (d_subN (pv 1) (rE_D (d_c pe_int (fun _ => rep_int))) (fun _ _ => rfl)) pe_int (fun _ _ => rfl)) (by decide) rfl rfl)) (o_cons (rE_O (d_t1 bs_list call_list_of rfl (B.free_list) boot_list (d_ixP (sx := (.c 3)) (d_subN (pv 1) (rE_D (d_c pe_int (fun _ => rep_int))) (fun _ _ => rfl)) pe_int (fun _ _ => rfl)) (by decide) rfl rfl)) o_nil rfl) rfl) rfl) rfl))) rfl) (ss_cons (s_asg (ps_set (i := 3) sc_law_spoilt.nd rfl (Or.inl rfl) (d_t1 bs_list call_list_of rfl (B.free_list) boot_list (d_subN (pv 1) (rE_D (d_c pe_int (fun _ => rep_int))) (fun _ _ => rfl)) (by decide) rfl rfl)) rfl) (ss_cons (s_asg (s_setLc (own := [("row", 5)]) (i := 4) (by decide) rfl sc_law_spoilt.nd rfl rfl (sw_true rfl rfl rfl rfl) (i_seq (d_subN (pv 1) (rE_D (d_c pe_int (fun _ => rep_int))) (fun _ _ => rfl))) (blkOk_by rfl) (fun _ _ _ _ _ => (gc_name (pg_name (i := 5) sc_law_spoilt.nd rfl (Or.inl rfl)) (by decide))) (fun _ _ _ _ _ => t_yes) (fun _ _ _ _ _ => (rE_O (d_t1 bs_list call_list_of rfl (B.free_list) boot_list (d_sl (pv 5)) (by decide) rfl rfl))) (fun _ => rfl)) rfl) (ss_cons (s_asg (ps_set (i := 6) sc_law_spoilt.nd rfl (Or.inl rfl) (d_call O_law_draw (hr.mono (by decide)) rfl (B.glo_law_draw) F_law_draw.kp b_law_draw (r_slot (pv 0) (r_data (rE_D (d_c pe_int (fun _ => rep_int))) r_nil rfl) rfl) rfl rfl rfl)) rfl) (ss_cons (s_asg (ps_set (i := 7) sc_law_spoilt.nd rfl (Or.inr rfl) (d_call O_law_pick (hr.mono (by decide)) rfl (B.glo_law_pick) F_law_pick.kp b_law_pick (r_slot (pv 0) (r_data (rE_D (d_lst (o_cons (rE_O (d_c pe_int (fun _ => rep_int))) (o_cons (rE_O (d_neg (rE_D (d_c pe_int (fun _ => rep_int))))) o_nil rfl) rfl))) r_nil rfl) rfl) rfl rfl rfl)) rfl) (ss_cons (s_asg (ps_set (i := 8) sc_law_spoilt.nd rfl (Or.inl rfl) (d_call O_law_draw (hr.mono (by decide)) rfl (B.glo_law_draw) F_law_draw.kp b_law_draw (r_slot (pv 0) (r_data (rE_D (d_c pe_int (fun _ => rep_int))) r_nil rfl) rfl) rfl rfl rfl)) rfl) (ss_cons (s_asg (ps_set (i := 9) sc_law_spoilt.nd rfl (Or.inl rfl) (d_subN (pv 4) (rE_D (d_sl (pv 8))) (fun _ _ => rfl))) rfl) (ss_cons (s_asg (ps_set (i := 10) sc_law_spoilt.nd rfl (Or.inl rfl) (d_call O_law_draw (hr.mono (by decide)) rfl (B.glo_law_draw) F_law_draw.kp b_law_draw (r_slot (pv 0) (r_data (rE_D (d_b1 bs_len call_len_seq rfl (B.free_len) boot_len (d_sl (pv 3)) (by decide) rfl rfl)) r_nil rfl) rfl) rfl rfl rfl)) rfl) (ss_cons (s_if (PW.pt (t_and (t_cmp op_lt s_lt (rE_D (d_sl (pv 6))) (rE_D (d_c pe_int (fun _ => rep_int))) rfl) (pw_and1 (t_tru (d_sl (pv 9)) (fun _ => rfl))))) (ss_cons (s_asg (ps_set (i := 11) sc_law_spoilt.nd rfl (Or.inl rfl) (d_call O_law_draw (hr.mono (by decide)) rfl (B.glo_law_draw) F_law_draw.kp b_law_draw (r_slot (pv 0) (r_data (rE_D (d_b1 bs_len call_len_seq rfl (B.free_len) boot_len (d_sl (pv 9)) (by decide) rfl rfl)) r_nil rfl) rfl) rfl rfl rfl)) rfl) (ss_cons (s_setI (ps_asg (rE_D (d_op op_addA s_add (rE_D (d_subN (pv 9) (rE_D (d_sl (pv 11))) (fun _ _ => rfl))) (rE_D (d_op op_mulA s_mul (rE_D (d_sl (pv 7))) (rE_D (d_call O_law_pick (hr.mono (by decide)) rfl (B.glo_law_pick) F_law_pick.kp b_law_pick (r_slot (pv 0) (r_data (rE_D (d_lst (o_cons (rE_O (d_c pe_int (fun _ => rep_int))) (o_cons (rE_O (d_c pe_int (fun _ => rep_int))) (o_cons (rE_O (d_c pe_int (fun _ => rep_int))) (o_cons (rE_O (d_c pe_int (fun _ => rep_int))) (o_cons (rE_O (d_op op_pow s_pow (rE_D (d_c pe_int (fun _ => rep_int))) (rE_D (d_c pe_int (fun _ => rep_int))))) o_nil rfl) rfl) rfl) rfl) rfl))) r_nil rfl) rfl) rfl rfl rfl)))))) (pg_sub (pv 9) (rE_D (d_sl (pv 11))) set_list))) (ss_cons (s_if (t_cmp op_gt s_gt (rE_D (d_sl (pv 6))) (rE_D (d_c pe_int (fun _ => rep_int))) rfl) (ss_cons (s_asg (ps_set (i := 4) sc_law_spoilt.nd rfl (Or.inl rfl) (d_call O_law_made_good (hr.mono (by decide)) rfl (B.glo_law_made_good) F_law_made_good.kp b_law_made_good (r_data (rE_D (d_sl (pv 2))) (r_slot (pv 4) r_nil rfl) rfl) rfl rfl rfl)) rfl) ss_nil) ss_nil) ss_nil))) (ss_cons (s_if (t_cmp (op_eqA hr.units) s_eq (rE_D (d_sl (pv 6))) (rE_D (d_c pe_int (fun _ => rep_int))) rfl) (ss_cons (s_setI (ps_asg (rE_D (d_op op_addA s_add (rE_D (d_subN (pv 3) (rE_D (d_sl (pv 10))) (fun _ _ => rfl))) (rE_D (d_sl (pv 7))))) (pg_sub (pv 3) (rE_D (d_sl (pv 10))) set_list))) ss_nil) (ss_cons (s_if (t_cmp (op_eqA hr.units) s_eq (rE_D (d_sl (pv 6))) (rE_D (d_c pe_int (fun _ => rep_int))) rfl) (ss_cons (s_setI (ps_asg (rE_D (d_call O_law_pick (hr.mono (by decide)) rfl (B.glo_law_pick) F_law_pick.kp b_law_pick (r_slot (pv 0) (r_data (rE_D (d_lst (o_cons (rE_O (d_c pe_int (fun _ => rep_int))) (o_cons (rE_O (d_neg (rE_D (d_c pe_int (fun _ => rep_int))))) (o_cons (rE_O (d_c pe_int (fun _ => rep_int))) (o_cons (rE_O (d_neg (rE_D (d_c pe_int (fun _ => rep_int))))) (o_cons (rE_O (d_op op_pow s_pow (rE_D (d_c pe_int (fun _ => rep_int))) (rE_D (d_c pe_int (fun _ => rep_int))))) o_nil rfl) rfl) rfl) rfl) rfl))) r_nil rfl) rfl) rfl rfl rfl)) (pg_sub (pv 3) (rE_D (d_sl (pv 10))) set_list))) ss_nil) (ss_cons (s_if (t_cmp (op_eqA hr.units) s_eq (rE_D (d_sl (pv 6))) (rE_D (d_c pe_int (fun _ => rep_int))) rfl) (ss_cons (s_asg (ps_set (i := 12) sc_law_spoilt.nd rfl (Or.inl rfl) (d_call O_law_draw (hr.mono (by decide)) rfl (B.glo_law_draw) F_law_draw.kp b_law_draw (r_slot (pv 0) (r_data (rE_D (d_b1 bs_len call_len_seq rfl (B.free_len) boot_len (d_sl (pv 3)) (by decide) rfl rfl)) r_nil rfl) rfl) rfl rfl rfl)) rfl) (ss_cons (s_asgT (ps_asg (rE_D (d_tup (l_cons (rE_D (d_subN (pv 3) (rE_D (d_sl (pv 12))) (fun _ _ => rfl))) (l_cons (rE_D (d_subN (pv 3) (rE_D (d_sl (pv 10))) (fun _ _ => rfl))) l_nil rfl) rfl))) (g_tup rfl (gs_cons (g_sub (pg_sub (pv 3) (rE_D (d_sl (pv 10))) set_list)) (gs_cons (g_sub (pg_sub (pv 3) (rE_D (d_sl (pv 12))) set_list)) gs_nil rfl) rfl) rfl rfl))) ss_nil)) (ss_cons (s_if (t_cmp (op_eqA hr.units) s_eq (rE_D (d_sl (pv 6))) (rE_D (d_c pe_int (fun _ => rep_int))) rfl) (ss_cons (s_asg (s_setLc (own := [("mark", 13)]) (i := 3) (by decide) rfl sc_law_spoilt.nd rfl rfl (sw_true rfl rfl rfl rfl) (i_slot (pv 3)) (blkOk_by rfl) (fun _ _ _ _ _ => (gc_name (pg_name (i := 13) sc_law_spoilt.nd rfl (Or.inl rfl)) (by decide))) (fun _ _ _ _ _ => t_yes) (fun _ _ _ _ _ => (rE_O (d_op op_addA s_add (rE_D (d_sl (pv 13))) (rE_D (d_sl (pv 7)))))) (fun _ => rfl)) rfl) ss_nil) (ss_cons (s_if (t_cmp (op_eqA hr.units) s_eq (rE_D (d_sl (pv 6))) (rE_D (d_c pe_int (fun _ => rep_int))) rfl) (ss_cons (s_asg (ps_set (i := 5) sc_law_spoilt.nd rfl (Or.inl rfl) (d_subN (pv 2) (rE_D (d_op op_addA s_add (rE_D (d_c pe_int (fun _ => rep_int))) (rE_D (d_sl (pv 8))))) (fun _ _ => rfl))) rfl) (ss_cons (s_if (t_tru (d_sl (pv 5)) (fun _ => rfl)) (ss_cons (s_asg (ps_set (i := 11) sc_law_spoilt.nd rfl (Or.inl rfl) (d_call O_law_draw (hr.mono (by decide)) rfl (B.glo_law_draw) F_law_draw.kp b_law_draw (r_slot (pv 0) (r_data (rE_D (d_b1 bs_len call_len_seq rfl (B.free_len) boot_len (d_sl (pv 5)) (by decide) rfl rfl)) r_nil rfl) rfl) rfl rfl rfl)) rfl) (ss_cons (s_asg (ps_set (i := 14) sc_law_spoilt.nd rfl (Or.inl rfl) (d_t1 bs_list call_list_of rfl (B.free_list) boot_list (d_subN (pv 5) (rE_D (d_sl (pv 11))) (fun _ _ => rfl)) (by decide) rfl rfl)) rfl) (ss_cons (s_asg (ps_set (i := 15) sc_law_spoilt.nd rfl (Or.inl rfl) (d_op op_sub s_sub (rE_D (d_c pe_int (fun _ => rep_int))) (rE_D (d_op op_mulA s_mul (rE_D (d_t1 bs_int call_int1 rfl (B.free_int) boot_int (d_cmp op_gt s_gt (rE_D (d_sl (pv 8))) (rE_D (d_c pe_int (fun _ => rep_int))) rfl) (by decide) rfl rfl)) (rE_D (d_call O_law_draw (hr.mono (by decide)) rfl (B.glo_law_draw) F_law_draw.kp b_law_draw (r_slot (pv 0) (r_data (rE_D (d_c pe_int (fun _ => rep_int))) r_nil rfl) rfl) rfl rfl rfl)))))) rfl) (ss_cons (s_asg (ps_set (i := 16) sc_law_spoilt.nd rfl (Or.inl rfl) (d_lst (o_cons (rE_O (d_c pe_int (fun _ => rep_int))) (o_cons (rE_O (d_c pe_int (fun _ => rep_int))) (o_cons (rE_O (d_c pe_int (fun _ => rep_int))) o_nil rfl) rfl) rfl))) rfl) (ss_cons (s_asg (ps_set (i := 17) sc_law_spoilt.nd rfl (Or.inl rfl) (d_lst (o_cons (rE_O (d_c pe_int (fun _ => rep_int))) (o_cons (rE_O (d_c pe_int (fun _ => rep_int))) (o_cons (rE_O (d_neg (rE_D (d_c pe_int (fun _ => rep_int))))) o_nil rfl) rfl) rfl))) rfl) (ss_cons (s_asg (ps_set (i := 18) sc_law_spoilt.nd rfl (Or.inl rfl) (d_op op_mulA s_mul (rE_D (d_sl (pv 15))) (rE_D (d_t1 bs_int call_int1 rfl (B.free_int) boot_int (d_cmp op_gt s_gt (rE_D (d_sl (pv 8))) (rE_D (d_c pe_int (fun _ => rep_int))) rfl) (by decide) rfl rfl)))) rfl) (ss_cons (s_setI (ps_asg (rE_D (d_bl cs_max2 (call_max2 rfl) rfl (B.free_max) boot_max (l_cons (rE_D (d_subN (pv 17) (rE_D (d_sl (pv 18))) (fun _ _ => rfl))) (l_cons (rE_D (d_bl cs_min2 (call_min2 rfl) rfl (B.free_min) boot_min (l_cons (rE_D (d_subN (pv 16) (rE_D (d_sl (pv 18))) (fun _ _ => rfl))) (l_cons (rE_D (d_op op_addA s_add (rE_D (d_subN (pv 14) (rE_D (d_sl (pv 15))) (fun _ _ => rfl))) (rE_D (d_sl (pv 7))))) l_nil rfl) rfl) (by decide) rfl rfl rfl)) l_nil rfl) rfl) (by decide) rfl rfl rfl)) (pg_sub (pv 14) (rE_D (d_sl (pv 15))) set_list))) (ss_cons (s_setI (ps_asg (rE_D (d_tup (l_cons (rE_D (d_subN (pv 14) (rE_D (d_c pe_int (fun _ => rep_int))) (fun _ _ => rfl))) (l_cons (rE_D (d_subN (pv 14) (rE_D (d_c pe_int (fun _ => rep_int))) (fun _ _ => rfl))) (l_cons (rE_D (d_subN (pv 14) (rE_D (d_c pe_int (fun _ => rep_int))) (fun _ _ => rfl))) l_nil rfl) rfl) rfl))) (pg_sub (pv 5) (rE_D (d_sl (pv 11))) set_list))) ss_nil)))))))) ss_nil) ss_nil)) ss_nil) ss_nil)) ss_nil)) ss_nil)) ss_nil)) ss_nil)) (ss_cons (s_ret (d_tup (l_cons (rE_D (d_sl (pv 2))) (l_cons (rE_D (d_sl (pv 3))) (l_cons (rE_D (d_sl (pv 4))) l_nil rfl) rfl) rfl))) ss_nil))))))))))
/-! trades_of -/
theorem sc_trades_of : FnScope ["market", "bids", "zone", "quantity", "price", "offers"] ["market"] (defScope (top 1)) := ⟨rfl, rfl, rfl, by decide +kernel, rfl, by decide +kernel, by decide +kernel⟩
def W_trades_of (ad : Nat → Addr) : WE := bodyW 1 6 (wSeq (wAsg 1 (wLc (wItD (wAttr (ao ad) (wSl 0) 16)) [2, 3, 4] (gT 3 (gsCons (gN 2) (gsCons (gN 3) (gsCons (gN 4) (gsNil))))) (wYes) (wO (wTup (wCons (wD (wSl 2)) (wCons (wD (wSl 4)) (wCons (wD (wNeg (wD (wSl 3)))) (wCons (wD (wC (.int 0))) (wNil))))))))) (wSeq (wAsg 5 (wLc (wItD (wAttr (ao ad) (wSl 0) 58)) [2, 3, 4] (gT 3 (gsCons (gN 2) (gsCons (gN 3) (gsCons (gN 4) (gsNil))))) (wYes) (wO (wTup (wCons (wD (wSl 2)) (wCons (wD (wSl 4)) (wCons (wD (wC (.int 0))) (wCons (wD (wSl 3)) (wNil))))))))) (wSeq (wRet (wOp boAdd (wD (wSl 1)) (wD (wSl 5)))) (wPass))))
theorem ok_trades_of {P : Program} {w : World} {K : PySem.W.Frag} {mg : Str → Option Value} {base : Heap} {ad : Nat → Addr} {fd : FuncData} (B : Wd K mg ad) (F : FnP K "trades_of" "trades_of" (top 1) (ad 0) fd) : FnOk P w K mg base CX0 1 (ad 0) fd ["market"] (spW K 1 (W_trades_of ad)) := by
  exact fn_okW F sc_trades_of (by decide) fun cdv A outer s H E hr => (ss_cons (s_asg (s_setLc (own := [("zone", 2), ("quantity", 3), ("price", 4)]) (i := 1) (by decide) rfl sc_trades_of.nd rfl rfl (sw_true rfl rfl rfl rfl) (i_seq (d_attr (k := 16) B.hao (d_sl (pv 0)) rfl)) (blkOk_by rfl) (fun _ _ _ _ _ => (gc_tup rfl (gcs_cons (gc_name (pg_name (i := 2) sc_trades_of.nd rfl (Or.inl rfl)) (by decide)) (gcs_cons (gc_name (pg_name (i := 3) sc_trades_of.nd rfl (Or.inl rfl)) (by decide)) (gcs_cons (gc_name (pg_name (i := 4) sc_trades_of.nd rfl (Or.inl rfl)) (by decide)) gcs_nil rfl) rfl) rfl) rfl rfl)) (fun _ _ _ _ _ => t_yes) (fun _ _ _ _ _ => (rE_O (d_tup (l_cons (rE_D (d_sl (pv 2))) (l_cons (rE_D (d_sl (pv 4))) (l_cons (rE_D (d_neg (rE_D (d_sl (pv 3))))) (l_cons (rE_D (d_c pe_int (fun _ => rep_int))) l_nil rfl) rfl) rfl) rfl)))) (fun _ => rfl)) rfl) (ss_cons (s_asg (s_setLc (own := [("zone", 2), ("quantity", 3), ("price", 4)]) (i := 5) (by decide) rfl sc_trades_of.nd rfl rfl (sw_true rfl rfl rfl rfl) (i_seq (d_attr (k := 58) B.hao (d_sl (pv 0)) rfl)) (blkOk_by rfl) (fun _ _ _ _ _ => (gc_tup rfl (gcs_cons (gc_name (pg_name (i := 2) sc_trades_of.nd rfl (Or.inl rfl)) (by decide)) (gcs_cons (gc_name (pg_name (i := 3) sc_trades_of.nd rfl (Or.inl rfl)) (by decide)) (gcs_cons (gc_name (pg_name (i := 4) sc_trades_of.nd rfl (Or.inl rfl)) (by decide)) gcs_nil rfl) rfl) rfl) rfl rfl)) (fun _ _ _ _ _ => t_yes) (fun _ _ _ _ _ => (rE_O (d_tup (l_cons (rE_D (d_sl (pv 2))) (l_cons (rE_D (d_sl (pv 4))) (l_cons (rE_D (d_c pe_int (fun _ => rep_int))) (l_cons (rE_D (d_sl (pv 3))) l_nil rfl) rfl) rfl) rfl)))) (fun _ => rfl)) rfl) (ss_cons (s_ret (d_op op_addA s_add (rE_D (d_sl (pv 1))) (rE_D (d_sl (pv 5))))) ss_nil)))
/-! is_balanced -/
theorem sc_is_balanced : FnScope ["market", "given", "flow", "left", "zone", "_", "low", "high", "units", "a", "b", "cap"] ["market", "given", "flow"] (defScope (top 2)) := ⟨rfl, rfl, rfl, by decide +kernel, rfl, by decide +kernel, by decide +kernel⟩
def W_is_balanced (ad : Nat → Addr) : WE := bodyW 3 12 (wSeq (wAsg 3 (wOp boMul (wD (wLst (wConsO (wO (wC (.int 0))) (wNilO)))) (wD (wAttr (ao ad) (wSl 0) 99)))) (wSeq (wForS (wZ2 (wCons (wD (wCall 1 (W_trades_of ad) (wConsS 0 (wNilR)))) (wCons (wD (wSl 1)) (wNil)))) (gT 2 (gsCons (gT 4 (gsCons (gN 4) (gsCons (gN 5) (gsCons (gN 6) (gsCons (gN 7) (gsNil)))))) (gsCons (gN 8) (gsNil)))) (wSeq (wIfS (wNotT (wTest (wChain boLe boLe (wD (wSl 6)) (wD (wSl 8)) (wD (wSl 7))))) (wSeq (wRet (wC (.bl false))) (wPass)) (wPass)) (wSeq (wAugI 3 true (wD (wSl 4)) (wD (wSl 8))) (wPass)))) (wSeq (wForS (wZ2 (wCons (wD (wAttr (ao ad) (wSl 0) 48)) (wCons (wD (wSl 2)) (wNil)))) (gT 2 (gsCons (gT 3 (gsCons (gN 9) (gsCons (gN 10) (gsCons (gN 11) (gsNil))))) (gsCons (gN 8) (gsNil)))) (wSeq (wIfS (wNotT (wTest (wChain boLe boLe (wD (wNeg (wD (wSl 11)))) (wD (wSl 8)) (wD (wSl 11))))) (wSeq (wRet (wC (.bl false))) (wPass)) (wPass)) (wSeq (wAugI 3 false (wD (wSl 9)) (wD (wSl 8))) (wSeq (wAugI 3 true (wD (wSl 10)) (wD (wSl 8))) (wPass))))) (wSeq (wRet (wOp boEq (wD (wSl 3)) (wD (wOp boMul (wD (wLst (wConsO (wO (wC (.int 0))) (wNilO)))) (wD (wAttr (ao ad) (wSl 0) 99)))))) (wPass)))))
theorem ok_is_balanced {P : Program} {w : World} {K : PySem.W.Frag} {mg : Str → Option Value} {base : Heap} {ad : Nat → Addr} {fd : FuncData} (B : Wd K mg ad) (F : FnP K "is_balanced" "is_balanced" (top 2) (ad 1) fd) : FnOk P w K mg base CX0 2 (ad 1) fd ["market", "given", "flow"] (spW K 3 (W_is_balanced ad)) := by
  obtain ⟨fd_trades_of, F_trades_of⟩ := B.fn_trades_of
  have O_trades_of := ok_trades_of (P := P) (w := w) (base := base) B F_trades_of
  have b_trades_of : Binds K fd_trades_of ["market"] [] := F_trades_of.bindsN fun _ _ _ _ _ _ us hl => match us, hl with | [_], _ => rfl
  exact fn_okW F sc_is_balanced (by decide) fun cdv A outer s H E hr => (ss_cons (s_asg (ps_set (i := 3) sc_is_balanced.nd rfl (Or.inl rfl) (d_op op_mulA s_mul (rE_D (d_lst (o_cons (rE_O (d_c pe_int (fun _ => rep_int))) o_nil rfl))) (rE_D (d_attr (k := 99) B.hao (d_sl (pv 0)) rfl)))) rfl) (ss_cons (s_for PassesOwn.never rfl (i_z2 rfl (B.free_zip) (l_cons (rE_D (d_call O_trades_of (hr.mono (by decide)) rfl (B.glo_trades_of) F_trades_of.kp b_trades_of (r_slot (pv 0) r_nil rfl) rfl rfl rfl)) (l_cons (rE_D (d_sl (pv 1))) l_nil rfl) rfl) rfl rfl) (g_tup rfl (gs_cons (g_tup rfl (gs_cons (g_name (pg_name (i := 4) sc_is_balanced.nd rfl (Or.inl rfl))) (gs_cons (g_name (pg_name (i := 5) sc_is_balanced.nd rfl (Or.inl rfl))) (gs_cons (g_name (pg_name (i := 6) sc_is_balanced.nd rfl (Or.inl rfl))) (gs_cons (g_name (pg_name (i := 7) sc_is_balanced.nd rfl (Or.inl rfl))) gs_nil rfl) rfl) rfl) rfl) rfl rfl) (gs_cons (g_name (pg_name (i := 8) sc_is_balanced.nd rfl (Or.inl rfl))) gs_nil rfl) rfl) rfl rfl) (ss_cons (s_if (t_not (t_chain op_le op_le s_le s_le (rE_D (d_sl (pv 6))) (rE_D (d_sl (pv 8))) (rE_D (d_sl (pv 7))) rfl)) (ss_cons (s_ret (d_c pe_bl (fun _ => rep_bl))) ss_nil) ss_nil) (ss_cons (s_augI (ps_augS (pv 3) (rE_D (d_sl (pv 4))) get_list (rE_D (d_sl (pv 8))) (ip_A true) set_list)) ss_nil)) (fun _ => rfl)) (ss_cons (s_for PassesOwn.never rfl (i_z2 rfl (B.free_zip) (l_cons (rE_D (d_attr (k := 48) B.hao (d_sl (pv 0)) rfl)) (l_cons (rE_D (d_sl (pv 2))) l_nil rfl) rfl) rfl rfl) (g_tup rfl (gs_cons (g_tup rfl (gs_cons (g_name (pg_name (i := 9) sc_is_balanced.nd rfl (Or.inl rfl))) (gs_cons (g_name (pg_name (i := 10) sc_is_balanced.nd rfl (Or.inl rfl))) (gs_cons (g_name (pg_name (i := 11) sc_is_balanced.nd rfl (Or.inl rfl))) gs_nil rfl) rfl) rfl) rfl rfl) (gs_cons (g_name (pg_name (i := 8) sc_is_balanced.nd rfl (Or.inl rfl))) gs_nil rfl) rfl) rfl rfl) (ss_cons (s_if (t_not (t_chain op_le op_le s_le s_le (rE_D (d_neg (rE_D (d_sl (pv 11))))) (rE_D (d_sl (pv 8))) (rE_D (d_sl (pv 11))) rfl)) (ss_cons (s_ret (d_c pe_bl (fun _ => rep_bl))) ss_nil) ss_nil) (ss_cons (s_augI (ps_augS (pv 3) (rE_D (d_sl (pv 9))) get_list (rE_D (d_sl (pv 8))) (ip_A false) set_list)) (ss_cons (s_augI (ps_augS (pv 3) (rE_D (d_sl (pv 10))) get_list (rE_D (d_sl (pv 8))) (ip_A true) set_list)) ss_nil))) (fun _ => rfl)) (ss_cons (s_ret (d_cmp (op_eqA hr.units) s_eq (rE_D (d_sl (pv 3))) (rE_D (d_op op_mulA s_mul (rE_D (d_lst (o_cons (rE_O (d_c pe_int (fun _ => rep_int))) o_nil rfl))) (rE_D (d_attr (k := 99) B.hao (d_sl (pv 0)) rfl)))) rfl)) ss_nil))))
/-! shows_clearing -/
theorem sc_shows_clearing : FnScope ["market", "clearing", "prices", "bought", "sold", "flow", "given", "units", "price", "zone", "low", "high", "a", "b", "cap"] ["market", "clearing", "prices"] (defScope (top 3)) := ⟨rfl, rfl, rfl, by decide +kernel, rfl, by decide +kernel, by decide +kernel⟩
def W_shows_clearing (ad : Nat → Addr) : WE := bodyW 3 15 (wSeq (wAsgT (gT 3 (gsCons (gN 3) (gsCons (gN 4) (gsCons (gN 5) (gsNil))))) (wSl 1)) (wSeq (wAsg 6 (wOp boAdd (wD (wLc (wItSl 3) [7] (gN 7) (wYes) (wO (wNeg (wD (wSl 7)))))) (wD (wB1 bList (wSl 4))))) (wSeq (wIfS (wNotT (wTru (wCall 3 (W_is_balanced ad) (wConsS 0 (wConsS 6 (wConsS 5 (wNilR))))))) (wSeq (wRet (wC (.bl false))) (wPass)) (wPass)) (wSeq (wForS (wItSl 2) (gN 8) (wSeq (wIfS (wNotT (wTest (wChain boLe boLe (wD (wNeg (wD (wC (.int 99))))) (wD (wSl 8)) (wD (wC (.int 99)))))) (wSeq (wRet (wC (.bl false))) (wPass)) (wPass)) (wPass))) (wSeq (wForS (wZ2 (wCons (wD (wCall 1 (W_trades_of ad) (wConsS 0 (wNilR)))) (wCons (wD (wSl 6)) (wNil)))) (gT 2 (gsCons (gT 4 (gsCons (gN 9) (gsCons (gN 8) (gsCons (gN 10) (gsCons (gN 11) (gsNil)))))) (gsCons (gN 7) (gsNil)))) (wSeq (wIfS (wOrT (wAndT (wTest (wOp boGt (wD (wSl 8)) (wD (wSubN 2 (wD (wSl 9)))))) (wTest (wOp boNe (wD (wSl 7)) (wD (wSl 10))))) (wAndT (wTest (wOp boLt (wD (wSl 8)) (wD (wSubN 2 (wD (wSl 9)))))) (wTest (wOp boNe (wD (wSl 7)) (wD (wSl 11)))))) (wSeq (wRet (wC (.bl false))) (wPass)) (wPass)) (wPass))) (wSeq (wForS (wZ2 (wCons (wD (wAttr (ao ad) (wSl 0) 48)) (wCons (wD (wSl 5)) (wNil)))) (gT 2 (gsCons (gT 3 (gsCons (gN 12) (gsCons (gN 13) (gsCons (gN 14) (gsNil))))) (gsCons (gN 7) (gsNil)))) (wSeq (wIfS (wOrT (wAndT (wTest (wOp boLt (wD (wSubN 2 (wD (wSl 12)))) (wD (wSubN 2 (wD (wSl 13)))))) (wTest (wOp boNe (wD (wSl 7)) (wD (wSl 14))))) (wAndT (wTest (wOp boGt (wD (wSubN 2 (wD (wSl 12)))) (wD (wSubN 2 (wD (wSl 13)))))) (wTest (wOp boNe (wD (wSl 7)) (wD (wNeg (wD (wSl 14)))))))) (wSeq (wRet (wC (.bl false))) (wPass)) (wPass)) (wPass))) (wSeq (wRet (wC (.bl true))) (wPass))))))))
theorem ok_shows_clearing {P : Program} {w : World} {K : PySem.W.Frag} {mg : Str → Option Value} {base : Heap} {ad : Nat → Addr} {fd : FuncData} (B : Wd K mg ad) (F : FnP K "shows_clearing" "shows_clearing" (top 3) (ad 2) fd) : FnOk P w K mg base CX0 3 (ad 2) fd ["market", "clearing", "prices"] (spW K 3 (W_shows_clearing ad)) := by
  obtain ⟨fd_trades_of, F_trades_of⟩ := B.fn_trades_of
  have O_trades_of := ok_trades_of (P := P) (w := w) (base := base) B F_trades_of
  have b_trades_of : Binds K fd_trades_of ["market"] [] := F_trades_of.bindsN fun _ _ _ _ _ _ us hl => match us, hl with | [_], _ => rfl
  obtain ⟨fd_is_balanced, F_is_balanced⟩ := B.fn_is_balanced
  have O_is_balanced := ok_is_balanced (P := P) (w := w) (base := base) B F_is_balanced
  have b_is_balanced : Binds K fd_is_balanced ["market", "given", "flow"] [] := F_is_balanced.bindsN fun _ _ _ _ _ _ us hl => match us, hl with | [_, _, _], _ => rfl
  exact fn_okW F sc_shows_clearing (by decide) fun cdv A outer s H E hr => (ss_cons (s_asgT (ps_asg (rE_D (d_sl (pv 1))) (g_tup rfl (gs_cons (g_name (pg_name (i := 3) sc_shows_clearing.nd rfl (Or.inl rfl))) (gs_cons (g_name (pg_name (i := 4) sc_shows_clearing.nd rfl (Or.inl rfl))) (gs_cons (g_name (pg_name (i := 5) sc_shows_clearing.nd rfl (Or.inl rfl))) gs_nil rfl) rfl) rfl) rfl rfl))) (ss_cons (s_asg (ps_set (i := 6) sc_shows_clearing.nd rfl (Or.inl rfl) (d_op op_addA s_add (rE_D (d_lc (own := [("units", 7)]) (by decide) rfl sc_shows_clearing.nd (i_slot (pv 3)) (blkOk_by rfl) (fun _ _ _ _ _ => (gc_name (pg_name (i := 7) sc_shows_clearing.nd rfl (Or.inl rfl)) (by decide))) (fun _ _ _ _ _ => t_yes) (fun _ _ _ _ _ => (rE_O (d_neg (rE_D (d_sl (pv 7)))))) (fun _ => rfl))) (rE_D (d_t1 bs_list call_list_of rfl (B.free_list) boot_list (d_sl (pv 4)) (by decide) rfl rfl)))) rfl) (ss_cons (s_if (t_not (t_tru (d_call O_is_balanced (hr.mono (by decide)) rfl (B.glo_is_balanced) F_is_balanced.kp b_is_balanced (r_slot (pv 0) (r_slot (pv 6) (r_slot (pv 5) r_nil rfl) rfl) rfl) rfl rfl rfl) (fun _ => rfl))) (ss_cons (s_ret (d_c pe_bl (fun _ => rep_bl))) ss_nil) ss_nil) (ss_cons (s_for PassesOwn.never rfl (i_slot (pv 2)) (g_name (pg_name (i := 8) sc_shows_clearing.nd rfl (Or.inl rfl))) (ss_cons (s_if (t_not (t_chain op_le op_le s_le s_le (rE_D (d_neg (rE_D (d_c pe_int (fun _ => rep_int))))) (rE_D (d_sl (pv 8))) (rE_D (d_c pe_int (fun _ => rep_int))) rfl)) (ss_cons (s_ret (d_c pe_bl (fun _ => rep_bl))) ss_nil) ss_nil) ss_nil) (fun _ => rfl)) (ss_cons (s_for PassesOwn.never rfl (i_z2 rfl (B.free_zip) (l_cons (rE_D (d_call O_trades_of (hr.mono (by decide)) rfl (B.glo_trades_of) F_trades_of.kp b_trades_of (r_slot (pv 0) r_nil rfl) rfl rfl rfl)) (l_cons (rE_D (d_sl (pv 6))) l_nil rfl) rfl) rfl rfl) (g_tup rfl (gs_cons (g_tup rfl (gs_cons (g_name (pg_name (i := 9) sc_shows_clearing.nd rfl (Or.inl rfl))) (gs_cons (g_name (pg_name (i := 8) sc_shows_clearing.nd rfl (Or.inl rfl))) (gs_cons (g_name (pg_name (i := 10) sc_shows_clearing.nd rfl (Or.inl rfl))) (gs_cons (g_name (pg_name (i := 11) sc_shows_clearing.nd rfl (Or.inl rfl))) gs_nil rfl) rfl) rfl) rfl) rfl rfl) (gs_cons (g_name (pg_name (i := 7) sc_shows_clearing.nd rfl (Or.inl rfl))) gs_nil rfl) rfl) rfl rfl) (ss_cons (s_if (PW.pt (t_or (PW.pt (t_and (t_cmp op_gt s_gt (rE_D (d_sl (pv 8))) (rE_D (d_subN (pv 2) (rE_D (d_sl (pv 9))) (fun _ _ => rfl))) rfl) (pw_and1 (t_cmp (op_neA hr.units) s_ne (rE_D (d_sl (pv 7))) (rE_D (d_sl (pv 10))) rfl)))) (pw_or1 (PW.pt (t_and (t_cmp op_lt s_lt (rE_D (d_sl (pv 8))) (rE_D (d_subN (pv 2) (rE_D (d_sl (pv 9))) (fun _ _ => rfl))) rfl) (pw_and1 (t_cmp (op_neA hr.units) s_ne (rE_D (d_sl (pv 7))) (rE_D (d_sl (pv 11))) rfl))))))) (ss_cons (s_ret (d_c pe_bl (fun _ => rep_bl))) ss_nil) ss_nil) ss_nil) (fun _ => rfl)) (ss_cons (s_for PassesOwn.never rfl (i_z2 rfl (B.free_zip) (l_cons (rE_D (d_attr (k := 48) B.hao (d_sl (pv 0)) rfl)) (l_cons (rE_D (d_sl (pv 5))) l_nil rfl) rfl) rfl rfl) (g_tup rfl (gs_cons (g_tup rfl (gs_cons (g_name (pg_name (i := 12) sc_shows_clearing.nd rfl (Or.inl rfl))) (gs_cons (g_name (pg_name (i := 13) sc_shows_clearing.nd rfl (Or.inl rfl))) (gs_cons (g_name (pg_name (i := 14) sc_shows_clearing.nd rfl (Or.inl rfl))) gs_nil rfl) rfl) rfl) rfl rfl) (gs_cons (g_name (pg_name (i := 7) sc_shows_clearing.nd rfl (Or.inl rfl))) gs_nil rfl) rfl) rfl rfl) (ss_cons (s_if (PW.pt (t_or (PW.pt (t_and (t_cmp op_lt s_lt (rE_D (d_subN (pv 2) (rE_D (d_sl (pv 12))) (fun _ _ => rfl))) (rE_D (d_subN (pv 2) (rE_D (d_sl (pv 13))) (fun _ _ => rfl))) rfl) (pw_and1 (t_cmp (op_neA hr.units) s_ne (rE_D (d_sl (pv 7))) (rE_D (d_sl (pv 14))) rfl)))) (pw_or1 (PW.pt (t_and (t_cmp op_gt s_gt (rE_D (d_subN (pv 2) (rE_D (d_sl (pv 12))) (fun _ _ => rfl))) (rE_D (d_subN (pv 2) (rE_D (d_sl (pv 13))) (fun _ _ => rfl))) rfl) (pw_and1 (t_cmp (op_neA hr.units) s_ne (rE_D (d_sl (pv 7))) (rE_D (d_neg (rE_D (d_sl (pv 14))))) rfl))))))) (ss_cons (s_ret (d_c pe_bl (fun _ => rep_bl))) ss_nil) ss_nil) ss_nil) (fun _ => rfl)) (ss_cons (s_ret (d_c pe_bl (fun _ => rep_bl))) ss_nil)))))))
/-! link_fits -/
theorem sc_link_fits : FnScope ["zones", "link", "a", "b", "cap"] ["zones", "link"] (defScope (top 8)) := ⟨rfl, rfl, rfl, by decide +kernel, rfl, by decide +kernel, by decide +kernel⟩
def W_link_fits (ad : Nat → Addr) : WE := bodyW 2 5 (wSeq (wAsgT (gT 3 (gsCons (gN 2) (gsCons (gN 3) (gsCons (gN 4) (gsNil))))) (wSl 1)) (wSeq (wRet (wAndV (wChain boLe boLt (wD (wC (.int 0))) (wD (wSl 2)) (wD (wSl 0))) (wAndV (wChain boLe boLt (wD (wC (.int 0))) (wD (wSl 3)) (wD (wSl 0))) (wAndV (wOp boNe (wD (wSl 2)) (wD (wSl 3))) (wChain boLe boLe (wD (wC (.int 0))) (wD (wSl 4)) (wD (wC (.int 60)))))))) (wPass)))
theorem ok_link_fits {P : Program} {w : World} {K : PySem.W.Frag} {mg : Str → Option Value} {base : Heap} {ad : Nat → Addr} {fd : FuncData} (B : Wd K mg ad) (F : FnP K "link_fits" "link_fits" (top 8) (ad 6) fd) : FnOk P w K mg base CX0 1 (ad 6) fd ["zones", "link"] (spW K 2 (W_link_fits ad)) := by
  exact fn_okW F sc_link_fits (by decide) fun cdv A outer s H E hr => (ss_cons (s_asgT (ps_asg (rE_D (d_sl (pv 1))) (g_tup rfl (gs_cons (g_name (pg_name (i := 2) sc_link_fits.nd rfl (Or.inl rfl))) (gs_cons (g_name (pg_name (i := 3) sc_link_fits.nd rfl (Or.inl rfl))) (gs_cons (g_name (pg_name (i := 4) sc_link_fits.nd rfl (Or.inl rfl))) gs_nil rfl) rfl) rfl) rfl rfl))) (ss_cons (s_ret (d_and (d_chain op_le op_lt s_le s_lt (rE_D (d_c pe_int (fun _ => rep_int))) (rE_D (d_sl (pv 2))) (rE_D (d_sl (pv 0))) rfl) (d_and (d_chain op_le op_lt s_le s_lt (rE_D (d_c pe_int (fun _ => rep_int))) (rE_D (d_sl (pv 3))) (rE_D (d_sl (pv 0))) rfl) (d_and (d_cmp (op_neA hr.units) s_ne (rE_D (d_sl (pv 2))) (rE_D (d_sl (pv 3))) rfl) (pe_one (d_chain op_le op_le s_le s_le (rE_D (d_c pe_int (fun _ => rep_int))) (rE_D (d_sl (pv 4))) (rE_D (d_c pe_int (fun _ => rep_int))) rfl)))))) ss_nil))
/-! trade_fits -/
theorem sc_trade_fits : FnScope ["zones", "trade", "zone", "quantity", "price"] ["zones", "trade"] (defScope (top 9)) := ⟨rfl, rfl, rfl, by decide +kernel, rfl, by decide +kernel, by decide +kernel⟩
def W_trade_fits (ad : Nat → Addr) : WE := bodyW 2 5 (wSeq (wAsgT (gT 3 (gsCons (gN 2) (gsCons (gN 3) (gsCons (gN 4) (gsNil))))) (wSl 1)) (wSeq (wRet (wAndV (wChain boLe boLt (wD (wC (.int 0))) (wD (wSl 2)) (wD (wSl 0))) (wAndV (wChain boLe boLe (wD (wC (.int 1))) (wD (wSl 3)) (wD (wC (.int 30)))) (wChain boLe boLe (wD (wNeg (wD (wC (.int 99))))) (wD (wSl 4)) (wD (wC (.int 99))))))) (wPass)))
theorem ok_trade_fits {P : Program} {w : World} {K : PySem.W.Frag} {mg : Str → Option Value} {base : Heap} {ad : Nat → Addr} {fd : FuncData} (B : Wd K mg ad) (F : FnP K "trade_fits" "trade_fits" (top 9) (ad 7) fd) : FnOk P w K mg base CX0 1 (ad 7) fd ["zones", "trade"] (spW K 2 (W_trade_fits ad)) := by
  exact fn_okW F sc_trade_fits (by decide) fun cdv A outer s H E hr => (ss_cons (s_asgT (ps_asg (rE_D (d_sl (pv 1))) (g_tup rfl (gs_cons (g_name (pg_name (i := 2) sc_trade_fits.nd rfl (Or.inl rfl))) (gs_cons (g_name (pg_name (i := 3) sc_trade_fits.nd rfl (Or.inl rfl))) (gs_cons (g_name (pg_name (i := 4) sc_trade_fits.nd rfl (Or.inl rfl))) gs_nil rfl) rfl) rfl) rfl rfl))) (ss_cons (s_ret (d_and (d_chain op_le op_lt s_le s_lt (rE_D (d_c pe_int (fun _ => rep_int))) (rE_D (d_sl (pv 2))) (rE_D (d_sl (pv 0))) rfl) (d_and (d_chain op_le op_le s_le s_le (rE_D (d_c pe_int (fun _ => rep_int))) (rE_D (d_sl (pv 3))) (rE_D (d_c pe_int (fun _ => rep_int))) rfl) (pe_one (d_chain op_le op_le s_le s_le (rE_D (d_neg (rE_D (d_c pe_int (fun _ => rep_int))))) (rE_D (d_sl (pv 4))) (rE_D (d_c pe_int (fun _ => rep_int))) rfl))))) ss_nil))
/-! bad_rows -/
theorem sc_bad_rows : FnScope ["field", "rows", "most", "fits", "zones", "number", "row"] ["field", "rows", "most", "fits", "zones"] (defScope (top 10)) := ⟨rfl, rfl, rfl, by decide +kernel, rfl, by decide +kernel, by decide +kernel⟩
def W_bad_rows (ad : Nat → Addr) : WE := bodyW 5 7 (wSeq (wIfS (wTest (wOp boGt (wD (wB1 bLen (wSl 1))) (wD (wSl 2)))) (wSeq (wRet (wTup (wCons (wD (wSl 0)) (wNil)))) (wPass)) (wPass)) (wSeq (wForS (wEn (wCons (wD (wSl 1)) (wNil))) (gT 2 (gsCons (gN 5) (gsCons (gN 6) (gsNil)))) (wSeq (wIfS (wNotT (wTru (wCallA 3 2 [(ad 6, W_link_fits ad), (ad 7, W_trade_fits ad)] (wConsS 4 (wConsS 6 (wNilR)))))) (wSeq (wRet (wTup (wCons (wD (wSl 0)) (wCons (wD (wSl 5)) (wNil))))) (wPass)) (wPass)) (wPass))) (wSeq (wRet (wC .non)) (wPass))))
theorem ok_bad_rows {P : Program} {w : World} {K : PySem.W.Frag} {mg : Str → Option Value} {base : Heap} {ad : Nat → Addr} {fd : FuncData} (B : Wd K mg ad) (F : FnP K "bad_rows" "bad_rows" (top 10) (ad 8) fd) : FnOk P w K mg base CX0 2 (ad 8) fd ["field", "rows", "most", "fits", "zones"] (spW K 5 (W_bad_rows ad)) := by
  obtain ⟨fd_link_fits, F_link_fits⟩ := B.fn_link_fits
  have O_link_fits := ok_link_fits (P := P) (w := w) (base := base) B F_link_fits
  have b_link_fits : Binds K fd_link_fits ["zones", "link"] [] := F_link_fits.bindsN fun _ _ _ _ _ _ us hl => match us, hl with | [_, _], _ => rfl
  obtain ⟨fd_trade_fits, F_trade_fits⟩ := B.fn_trade_fits
  have O_trade_fits := ok_trade_fits (P := P) (w := w) (base := base) B F_trade_fits
  have b_trade_fits : Binds K fd_trade_fits ["zones", "trade"] [] := F_trade_fits.bindsN fun _ _ _ _ _ _ us hl => match us, hl with | [_, _], _ => rfl
  have HL : ∀ (f : Addr) (fs : WE), (f, fs) ∈ [(ad 6, W_link_fits ad), (ad 7, W_trade_fits ad)] → ∃ fd ps, FnOk P w K mg base CX0 1 f fd ps (spW K 2 fs) ∧ PySem.W.keepIn K (.ref f) = true ∧ Binds K fd ps [] := by
    intro f fs hm
    simp only [List.mem_cons, Prod.mk.injEq, List.not_mem_nil, or_false] at hm
    rcases hm with ⟨rfl, rfl⟩ | ⟨rfl, rfl⟩
    · exact ⟨_, _, FnOk.mono O_link_fits (by decide), F_link_fits.kp, b_link_fits⟩
    · exact ⟨_, _, FnOk.mono O_trade_fits (by decide), F_trade_fits.kp, b_trade_fits⟩
  exact fn_okW F sc_bad_rows (by decide) fun cdv A outer s H E hr => (ss_cons (s_if (t_cmp op_gt s_gt (rE_D (d_b1 bs_len call_len_seq rfl (B.free_len) boot_len (d_sl (pv 1)) (by decide) rfl rfl)) (rE_D (d_sl (pv 2))) rfl) (ss_cons (s_ret (d_tup (l_cons (rE_D (d_sl (pv 0))) l_nil rfl))) ss_nil) ss_nil) (ss_cons (s_for PassesOwn.never rfl (i_en rfl (B.free_enumerate) (l_cons (rE_D (d_sl (pv 1))) l_nil rfl) rfl) (g_tup rfl (gs_cons (g_name (pg_name (i := 5) sc_bad_rows.nd rfl (Or.inl rfl))) (gs_cons (g_name (pg_name (i := 6) sc_bad_rows.nd rfl (Or.inl rfl))) gs_nil rfl) rfl) rfl rfl) (ss_cons (s_if (t_not (t_tru (d_callA (i := 3) HL (hr.mono (by decide)) rfl (Or.inl rfl) (r_slot (pv 4) (r_slot (pv 6) r_nil rfl) rfl) rfl rfl rfl rfl) (fun _ => rfl))) (ss_cons (s_ret (d_tup (l_cons (rE_D (d_sl (pv 0))) (l_cons (rE_D (d_sl (pv 5))) l_nil rfl) rfl))) ss_nil) ss_nil) ss_nil) (fun _ => rfl)) (ss_cons (s_ret (d_c pe_non (fun _ => rep_non))) ss_nil)))
/-! bad_field -/
theorem sc_bad_field : FnScope ["market", "places", "place"] ["market"] (defScope (top 11)) := ⟨rfl, rfl, rfl, by decide +kernel, rfl, by decide +kernel, by decide +kernel⟩
def W_bad_field (ad : Nat → Addr) : WE := bodyW 1 3 (wSeq (wIfS (wNotT (wTest (wChain boLe boLe (wD (wC (.int 1))) (wD (wAttr (ao ad) (wSl 0) 99)) (wD (wC (.int 6)))))) (wSeq (wRet (wTup (wCons (wD (wC (.str "zones"))) (wNil)))) (wPass)) (wPass)) (wSeq (wAsg 1 (wTup (wCons (wD (wCall 5 (W_bad_rows ad) (wConsD (wD (wC (.str "links"))) (wConsD (wD (wAttr (ao ad) (wSl 0) 48)) (wConsD (wD (wC (.int 8))) (wConsD (wD (wC (.adr (ad 6)))) (wConsD (wD (wAttr (ao ad) (wSl 0) 99)) (wNilR)))))))) (wCons (wD (wCall 5 (W_bad_rows ad) (wConsD (wD (wC (.str "bids"))) (wConsD (wD (wAttr (ao ad) (wSl 0) 16)) (wConsD (wD (wC (.int 12))) (wConsD (wD (wC (.adr (ad 7)))) (wConsD (wD (wAttr (ao ad) (wSl 0) 99)) (wNilR)))))))) (wCons (wD (wCall 5 (W_bad_rows ad) (wConsD (wD (wC (.str "offers"))) (wConsD (wD (wAttr (ao ad) (wSl 0) 58)) (wConsD (wD (wC (.int 12))) (wConsD (wD (wC (.adr (ad 7)))) (wConsD (wD (wAttr (ao ad) (wSl 0) 99)) (wNilR)))))))) (wNil)))))) (wSeq (wForS (wItSl 1) (gN 2) (wSeq (wIfS (wTest (wOp boIsNot (wD (wSl 2)) (wD (wC .non)))) (wSeq (wRet (wSl 2)) (wPass)) (wPass)) (wPass))) (wSeq (wRet (wC .non)) (wPass)))))
theorem ok_bad_field {P : Program} {w : World} {K : PySem.W.Frag} {mg : Str → Option Value} {base : Heap} {ad : Nat → Addr} {fd : FuncData} (B : Wd K mg ad) (F : FnP K "bad_field" "bad_field" (top 11) (ad 9) fd) : FnOk P w K mg base CX0 3 (ad 9) fd ["market"] (spW K 1 (W_bad_field ad)) := by
  obtain ⟨fd_link_fits, F_link_fits⟩ := B.fn_link_fits
  have O_link_fits := ok_link_fits (P := P) (w := w) (base := base) B F_link_fits
  have b_link_fits : Binds K fd_link_fits ["zones", "link"] [] := F_link_fits.bindsN fun _ _ _ _ _ _ us hl => match us, hl with | [_, _], _ => rfl
  obtain ⟨fd_trade_fits, F_trade_fits⟩ := B.fn_trade_fits
  have O_trade_fits := ok_trade_fits (P := P) (w := w) (base := base) B F_trade_fits
  have b_trade_fits : Binds K fd_trade_fits ["zones", "trade"] [] := F_trade_fits.bindsN fun _ _ _ _ _ _ us hl => match us, hl with | [_, _], _ => rfl
  obtain ⟨fd_bad_rows, F_bad_rows⟩ := B.fn_bad_rows
  have O_bad_rows := ok_bad_rows (P := P) (w := w) (base := base) B F_bad_rows
  have b_bad_rows : Binds K fd_bad_rows ["field", "rows", "most", "fits", "zones"] [] := F_bad_rows.bindsN fun _ _ _ _ _ _ us hl => match us, hl with | [_, _, _, _, _], _ => rfl
  exact fn_okW F sc_bad_field (by decide) fun cdv A outer s H E hr => (ss_cons (s_if (t_not (t_chain op_le op_le s_le s_le (rE_D (d_c pe_int (fun _ => rep_int))) (rE_D (d_attr (k := 99) B.hao (d_sl (pv 0)) rfl)) (rE_D (d_c pe_int (fun _ => rep_int))) rfl)) (ss_cons (s_ret (d_tup (l_cons (rE_D (d_c pe_str (fun _ => rep_str))) l_nil rfl))) ss_nil) ss_nil) (ss_cons (s_asg (ps_set (i := 1) sc_bad_field.nd rfl (Or.inl rfl) (d_tup (l_cons (rE_D (d_call O_bad_rows (hr.mono (by decide)) rfl (B.glo_bad_rows) F_bad_rows.kp b_bad_rows (r_data (rE_D (d_c pe_str (fun _ => rep_str))) (r_data (rE_D (d_attr (k := 48) B.hao (d_sl (pv 0)) rfl)) (r_data (rE_D (d_c pe_int (fun _ => rep_int))) (r_data (rE_D (d_c (pe_glob (v := .ref (ad 6)) rfl (B.glo_link_fits) rfl) (fun _ => rep_adr))) (r_data (rE_D (d_attr (k := 99) B.hao (d_sl (pv 0)) rfl)) r_nil rfl) rfl) rfl) rfl) rfl) rfl rfl rfl)) (l_cons (rE_D (d_call O_bad_rows (hr.mono (by decide)) rfl (B.glo_bad_rows) F_bad_rows.kp b_bad_rows (r_data (rE_D (d_c pe_str (fun _ => rep_str))) (r_data (rE_D (d_attr (k := 16) B.hao (d_sl (pv 0)) rfl)) (r_data (rE_D (d_c pe_int (fun _ => rep_int))) (r_data (rE_D (d_c (pe_glob (v := .ref (ad 7)) rfl (B.glo_trade_fits) rfl) (fun _ => rep_adr))) (r_data (rE_D (d_attr (k := 99) B.hao (d_sl (pv 0)) rfl)) r_nil rfl) rfl) rfl) rfl) rfl) rfl rfl rfl)) (l_cons (rE_D (d_call O_bad_rows (hr.mono (by decide)) rfl (B.glo_bad_rows) F_bad_rows.kp b_bad_rows (r_data (rE_D (d_c pe_str (fun _ => rep_str))) (r_data (rE_D (d_attr (k := 58) B.hao (d_sl (pv 0)) rfl)) (r_data (rE_D (d_c pe_int (fun _ => rep_int))) (r_data (rE_D (d_c (pe_glob (v := .ref (ad 7)) rfl (B.glo_trade_fits) rfl) (fun _ => rep_adr))) (r_data (rE_D (d_attr (k := 99) B.hao (d_sl (pv 0)) rfl)) r_nil rfl) rfl) rfl) rfl) rfl) rfl rfl rfl)) l_nil rfl) rfl) rfl))) rfl) (ss_cons (s_for PassesOwn.never rfl (i_slot (pv 1)) (g_name (pg_name (i := 2) sc_bad_field.nd rfl (Or.inl rfl))) (ss_cons (s_if (t_cmp op_isNotV s_isNot (rE_D (d_sl (pv 2))) (rE_D (d_c pe_non (fun _ => rep_non))) rfl) (ss_cons (s_ret (d_sl (pv 2))) ss_nil) ss_nil) ss_nil) (fun _ => rfl)) (ss_cons (s_ret (d_c pe_non (fun _ => rep_non))) ss_nil))))
/-! Market.__init__ -/
theorem sc_Market___init__ : FnScope ["self", "zones", "links", "bids", "offers", "place"] ["self", "zones", "links", "bids", "offers"] (defScope (mem (top 12) 0)) := ⟨rfl, rfl, rfl, by decide +kernel, rfl, by decide +kernel, by decide +kernel⟩
def W_Market___init__ (ad : Nat → Addr) : WE := bodyW 5 6 (wSeq (wSetA (ao ad) 0 99 (wD (wSl 1))) (wSeq (wSetA (ao ad) 0 48 (wD (wSl 2))) (wSeq (wSetA (ao ad) 0 16 (wD (wSl 3))) (wSeq (wSetA (ao ad) 0 58 (wD (wSl 4))) (wSeq (wAsg 5 (wCall 1 (W_bad_field ad) (wConsS 0 (wNilR)))) (wSeq (wIfS (wTest (wOp boIsNot (wD (wSl 5)) (wD (wC .non)))) (wNever) (wPass)) (wPass)))))))
theorem ok_Market___init__ {P : Program} {w : World} {K : PySem.W.Frag} {mg : Str → Option Value} {base : Heap} {ad : Nat → Addr} {fd : FuncData} (B : Wd K mg ad) (F : FnP K "__init__" "Market.__init__" (mem (top 12) 0) (ad 11) fd) : FnOk P w K mg base CX0 4 (ad 11) fd ["self", "zones", "links", "bids", "offers"] (spW K 5 (W_Market___init__ ad)) := by
  obtain ⟨fd_bad_field, F_bad_field⟩ := B.fn_bad_field
  have O_bad_field := ok_bad_field (P := P) (w := w) (base := base) B F_bad_field
  have b_bad_field : Binds K fd_bad_field ["market"] [] := F_bad_field.bindsN fun _ _ _ _ _ _ us hl => match us, hl with | [_], _ => rfl
  exact fn_okW F sc_Market___init__ (by decide) fun cdv A outer s H E hr => (ss_cons (s_setA (k := 99) B.hao (ps_fld (pv 0) (rE_D (d_sl (pv 1))) rfl)) (ss_cons (s_setA (k := 48) B.hao (ps_fld (pv 0) (rE_D (d_sl (pv 2))) rfl)) (ss_cons (s_setA (k := 16) B.hao (ps_fld (pv 0) (rE_D (d_sl (pv 3))) rfl)) (ss_cons (s_setA (k := 58) B.hao (ps_fld (pv 0) (rE_D (d_sl (pv 4))) rfl)) (ss_cons (s_asg (ps_set (i := 5) sc_Market___init__.nd rfl (Or.inl rfl) (d_call O_bad_field (hr.mono (by decide)) rfl (B.glo_bad_field) F_bad_field.kp b_bad_field (r_slot (pv 0) r_nil rfl) rfl rfl rfl)) rfl) (ss_cons (s_if (t_cmp op_isNotV s_isNot (rE_D (d_sl (pv 5))) (rE_D (d_c pe_non (fun _ => rep_non))) rfl) ss_never ss_nil) ss_nil))))))
theorem kb_Market___init__ {K : PySem.W.Frag} {ad : Nat → Addr} {fd : FuncData} (F : FnP K "__init__" "Market.__init__" (mem (top 12) 0) (ad 11) fd) : KBn K fd ["self", "zones", "links", "bids", "offers"] 1 ["zones", "links", "bids", "offers"] (fun us ws => us ++ ws) (fun us ws => us ++ ws) := by
  obtain ⟨oc, od, dV, kV, doc, pm, an, cdv, ct, osl, rfl, lk, hcd, hD, hK⟩ := F.ex
  rcases hD with ⟨_, rfl⟩ | ⟨e, _⟩
  · exact ⟨fun s us ws _ l1 l2 => match us, ws, l1, l2 with | [_], [_, _, _, _], _, _ => .of_eq rfl, fun r1 r2 => r1.append r2⟩
  · exact absurd rfl e
/-! settlement -/
theorem sc_settlement : FnScope ["market", "clearing", "prices", "bought", "sold", "flow", "payments", "zone", "_", "units", "receipts", "rents", "a", "b"] ["market", "clearing", "prices"] (defScope (top 14)) := ⟨rfl, rfl, rfl, by decide +kernel, rfl, by decide +kernel, by decide +kernel⟩
def W_settlement (ad : Nat → Addr) : WE := bodyW 3 14 (wSeq (wAsgT (gT 3 (gsCons (gN 3) (gsCons (gN 4) (gsCons (gN 5) (gsNil))))) (wSl 1)) (wSeq (wAsg 6 (wLc (wZ2 (wCons (wD (wAttr (ao ad) (wSl 0) 16)) (wCons (wD (wSl 3)) (wNil)))) [7, 8, 9] (gT 2 (gsCons (gT 3 (gsCons (gN 7) (gsCons (gN 8) (gsCons (gN 8) (gsNil))))) (gsCons (gN 9) (gsNil)))) (wYes) (wO (wOp boMul (wD (wSubN 2 (wD (wSl 7)))) (wD (wSl 9)))))) (wSeq (wAsg 10 (wLc (wZ2 (wCons (wD (wAttr (ao ad) (wSl 0) 58)) (wCons (wD (wSl 4)) (wNil)))) [7, 8, 9] (gT 2 (gsCons (gT 3 (gsCons (gN 7) (gsCons (gN 8) (gsCons (gN 8) (gsNil))))) (gsCons (gN 9) (gsNil)))) (wYes) (wO (wOp boMul (wD (wSubN 2 (wD (wSl 7)))) (wD (wSl 9)))))) (wSeq (wAsg 11 (wLc (wZ2 (wCons (wD (wAttr (ao ad) (wSl 0) 48)) (wCons (wD (wSl 5)) (wNil)))) [12, 13, 8, 9] (gT 2 (gsCons (gT 3 (gsCons (gN 12) (gsCons (gN 13) (gsCons (gN 8) (gsNil))))) (gsCons (gN 9) (gsNil)))) (wYes) (wO (wOp boMul (wD (wSl 9)) (wD (wOp boSub (wD (wSubN 2 (wD (wSl 13)))) (wD (wSubN 2 (wD (wSl 12)))))))))) (wSeq (wRet (wTup (wCons (wD (wB1 bTuple (wSl 6))) (wCons (wD (wB1 bTuple (wSl 10))) (wCons (wD (wB1 bTuple (wSl 11))) (wNil)))))) (wPass))))))
theorem ok_settlement {P : Program} {w : World} {K : PySem.W.Frag} {mg : Str → Option Value} {base : Heap} {ad : Nat → Addr} {fd : FuncData} (B : Wd K mg ad) (F : FnP K "settlement" "settlement" (top 14) (ad 12) fd) : FnOk P w K mg base CX0 1 (ad 12) fd ["market", "clearing", "prices"] (spW K 3 (W_settlement ad)) := by
  exact fn_okW F sc_settlement (by decide) fun cdv A outer s H E hr => (ss_cons (s_asgT (ps_asg (rE_D (d_sl (pv 1))) (g_tup rfl (gs_cons (g_name (pg_name (i := 3) sc_settlement.nd rfl (Or.inl rfl))) (gs_cons (g_name (pg_name (i := 4) sc_settlement.nd rfl (Or.inl rfl))) (gs_cons (g_name (pg_name (i := 5) sc_settlement.nd rfl (Or.inl rfl))) gs_nil rfl) rfl) rfl) rfl rfl))) (ss_cons (s_asg (s_setLc (own := [("zone", 7), ("_", 8), ("units", 9)]) (i := 6) (by decide) rfl sc_settlement.nd rfl rfl (sw_true rfl rfl rfl rfl) (i_z2 rfl (B.free_zip) (l_cons (rE_D (d_attr (k := 16) B.hao (d_sl (pv 0)) rfl)) (l_cons (rE_D (d_sl (pv 3))) l_nil rfl) rfl) rfl rfl) (blkOk_by rfl) (fun _ _ _ _ _ => (gc_tup rfl (gcs_cons (gc_tup rfl (gcs_cons (gc_name (pg_name (i := 7) sc_settlement.nd rfl (Or.inl rfl)) (by decide)) (gcs_cons (gc_name (pg_name (i := 8) sc_settlement.nd rfl (Or.inl rfl)) (by decide)) (gcs_cons (gc_name (pg_name (i := 8) sc_settlement.nd rfl (Or.inl rfl)) (by decide)) gcs_nil rfl) rfl) rfl) rfl rfl) (gcs_cons (gc_name (pg_name (i := 9) sc_settlement.nd rfl (Or.inl rfl)) (by decide)) gcs_nil rfl) rfl) rfl rfl)) (fun _ _ _ _ _ => t_yes) (fun _ _ _ _ _ => (rE_O (d_op op_mulA s_mul (rE_D (d_subN (pv 2) (rE_D (d_sl (pv 7))) (fun _ _ => rfl))) (rE_D (d_sl (pv 9)))))) (fun _ => rfl)) rfl) (ss_cons (s_asg (s_setLc (own := [("zone", 7), ("_", 8), ("units", 9)]) (i := 10) (by decide) rfl sc_settlement.nd rfl rfl (sw_true rfl rfl rfl rfl) (i_z2 rfl (B.free_zip) (l_cons (rE_D (d_attr (k := 58) B.hao (d_sl (pv 0)) rfl)) (l_cons (rE_D (d_sl (pv 4))) l_nil rfl) rfl) rfl rfl) (blkOk_by rfl) (fun _ _ _ _ _ => (gc_tup rfl (gcs_cons (gc_tup rfl (gcs_cons (gc_name (pg_name (i := 7) sc_settlement.nd rfl (Or.inl rfl)) (by decide)) (gcs_cons (gc_name (pg_name (i := 8) sc_settlement.nd rfl (Or.inl rfl)) (by decide)) (gcs_cons (gc_name (pg_name (i := 8) sc_settlement.nd rfl (Or.inl rfl)) (by decide)) gcs_nil rfl) rfl) rfl) rfl rfl) (gcs_cons (gc_name (pg_name (i := 9) sc_settlement.nd rfl (Or.inl rfl)) (by decide)) gcs_nil rfl) rfl) rfl rfl)) (fun _ _ _ _ _ => t_yes) (fun _ _ _ _ _ => (rE_O (d_op op_mulA s_mul (rE_D (d_subN (pv 2) (rE_D (d_sl (pv 7))) (fun _ _ => rfl))) (rE_D (d_sl (pv 9)))))) (fun _ => rfl)) rfl) (ss_cons (s_asg (s_setLc (own := [("a", 12), ("b", 13), ("_", 8), ("units", 9)]) (i := 11) (by decide) rfl sc_settlement.nd rfl rfl (sw_true rfl rfl rfl rfl) (i_z2 rfl (B.free_zip) (l_cons (rE_D (d_attr (k := 48) B.hao (d_sl (pv 0)) rfl)) (l_cons (rE_D (d_sl (pv 5))) l_nil rfl) rfl) rfl rfl) (blkOk_by rfl) (fun _ _ _ _ _ => (gc_tup rfl (gcs_cons (gc_tup rfl (gcs_cons (gc_name (pg_name (i := 12) sc_settlement.nd rfl (Or.inl rfl)) (by decide)) (gcs_cons (gc_name (pg_name (i := 13) sc_settlement.nd rfl (Or.inl rfl)) (by decide)) (gcs_cons (gc_name (pg_name (i := 8) sc_settlement.nd rfl (Or.inl rfl)) (by decide)) gcs_nil rfl) rfl) rfl) rfl rfl) (gcs_cons (gc_name (pg_name (i := 9) sc_settlement.nd rfl (Or.inl rfl)) (by decide)) gcs_nil rfl) rfl) rfl rfl)) (fun _ _ _ _ _ => t_yes) (fun _ _ _ _ _ => (rE_O (d_op op_mulA s_mul (rE_D (d_sl (pv 9))) (rE_D (d_op op_sub s_sub (rE_D (d_subN (pv 2) (rE_D (d_sl (pv 13))) (fun _ _ => rfl))) (rE_D (d_subN (pv 2) (rE_D (d_sl (pv 12))) (fun _ _ => rfl)))))))) (fun _ => rfl)) rfl) (ss_cons (s_ret (d_tup (l_cons (rE_D (d_t1 bs_tuple call_tuple_of rfl (B.free_tuple) boot_tuple (d_sl (pv 6)) (by decide) rfl rfl)) (l_cons (rE_D (d_t1 bs_tuple call_tuple_of rfl (B.free_tuple) boot_tuple (d_sl (pv 10)) (by decide) rfl rfl)) (l_cons (rE_D (d_t1 bs_tuple call_tuple_of rfl (B.free_tuple) boot_tuple (d_sl (pv 11)) (by decide) rfl rfl)) l_nil rfl) rfl) rfl))) ss_nil)))))
/-! _law_same -/
theorem sc_law_same : FnScope ["got", "due", "x"] ["got", "due"] (defScope (top 20)) := ⟨rfl, rfl, rfl, by decide +kernel, rfl, by decide +kernel, by decide +kernel⟩
def W_law_same (ad : Nat → Addr) : Nat → WE
  | 0 => fun _ _ => False
  | d + 1 => bodyW 2 3 (wSeq (wIfS (wTru (wIsi (wSl 1) .tuple)) (wSeq (wIfS (wOrT (wNotT (wTru (wIsi (wSl 0) .tuple))) (wTest (wOp boNe (wD (wB1 bLen (wSl 0))) (wD (wB1 bLen (wSl 1)))))) (wSeq (wRet (wC (.bl false))) (wPass)) (wPass)) (wSeq (wRet (wOp boEq (wD (wLc (wR1 (wCons (wD (wB1 bLen (wSl 1))) (wNil))) [2] (gN 2) (wNotT (wTru (wCall 2 (W_law_same ad d) (wConsD (wD (wSubN 0 (wD (wSl 2)))) (wConsD (wD (wSubN 1 (wD (wSl 2)))) (wNilR)))))) (wO (wSl 2)))) (wD (wLst (wNilO))))) (wPass))) (wPass)) (wSeq (wIfS (wTest (wOp boIs (wD (wSl 1)) (wD (wC .non)))) (wSeq (wRet (wOp boIs (wD (wSl 0)) (wD (wC .non)))) (wPass)) (wPass)) (wSeq (wIfS (wOrT (wTest (wOp boIs (wD (wSl 1)) (wD (wC (.bl true))))) (wTest (wOp boIs (wD (wSl 1)) (wD (wC (.bl false)))))) (wSeq (wRet (wAndV (wIsi (wSl 0) .bool) (wOp boEq (wD (wSl 0)) (wD (wSl 1))))) (wPass)) (wPass)) (wSeq (wIfS (wTru (wIsi (wSl 1) .str)) (wSeq (wRet (wAndV (wIsi (wSl 0) .str) (wOp boEq (wD (wSl 0)) (wD (wSl 1))))) (wPass)) (wPass)) (wSeq (wRet (wAndV (wIsi (wSl 0) .int) (wAndV (wNotV (wIsi (wSl 0) .bool)) (wOp boEq (wD (wSl 0)) (wD (wSl 1)))))) (wPass))))))
theorem ok_law_same {P : Program} {w : World} {K : PySem.W.Frag} {mg : Str → Option Value} {base : Heap} {ad : Nat → Addr} {fd : FuncData} (B : Wd K mg ad) (F : FnP K "_law_same" "_law_same" (top 20) (ad 17) fd) : ∀ d, FnOk P w K mg base CX0 (1 + d) (ad 17) fd ["got", "due"] (spW K 2 (W_law_same ad d))
  | 0 => ⟨fun _ _ _ _ h => h.1, fun _ _ _ _ _ _ _ _ _ _ _ _ _ h => by obtain ⟨_, _, _, _, _, _, _, _, h, _⟩ := h; exact h.elim⟩
  | d + 1 => by
    have O_law_same := ok_law_same (P := P) (w := w) (base := base) B F d
    have F_law_same := F
    have b_law_same : Binds K fd ["got", "due"] [] := F.bindsN fun _ _ _ _ _ _ us hl => match us, hl with | [_, _], _ => rfl
    exact fn_okW F sc_law_same (by decide) fun cdv A outer s H E hr => (ss_cons (s_if (t_tru (d_isi (t := .tuple) (by decide) boot_tuple rfl (B.free_isinstance) rfl (B.free_tuple) (by decide) rfl (d_sl (pv 1)) rfl) (fun _ => rfl)) (ss_cons (s_if (PW.pt (t_or (t_not (t_tru (d_isi (t := .tuple) (by decide) boot_tuple rfl (B.free_isinstance) rfl (B.free_tuple) (by decide) rfl (d_sl (pv 0)) rfl) (fun _ => rfl))) (pw_or1 (t_cmp (op_neA hr.units) s_ne (rE_D (d_b1 bs_len call_len_seq rfl (B.free_len) boot_len (d_sl (pv 0)) (by decide) rfl rfl)) (rE_D (d_b1 bs_len call_len_seq rfl (B.free_len) boot_len (d_sl (pv 1)) (by decide) rfl rfl)) rfl)))) (ss_cons (s_ret (d_c pe_bl (fun _ => rep_bl))) ss_nil) ss_nil) (ss_cons (s_ret (d_cmp (op_eqA hr.units) s_eq (rE_D (d_lc (own := [("x", 2)]) (by decide) rfl sc_law_same.nd (i_r1 rfl (B.free_range) (l_cons (rE_D (d_b1 bs_len call_len_seq rfl (B.free_len) boot_len (d_sl (pv 1)) (by decide) rfl rfl)) l_nil rfl) rfl) (blkOk_by rfl) (fun _ _ _ _ _ => (gc_name (pg_name (i := 2) sc_law_same.nd rfl (Or.inl rfl)) (by decide))) (fun _ _ _ _ _ => (t_one (t_not (t_tru (d_call O_law_same (hr.mono (Nat.le_refl _)) rfl (B.glo_law_same) F_law_same.kp b_law_same (r_data (rE_D (d_subN (pv 0) (rE_D (d_sl (pv 2))) (fun _ _ => rfl))) (r_data (rE_D (d_subN (pv 1) (rE_D (d_sl (pv 2))) (fun _ _ => rfl))) r_nil rfl) rfl) rfl rfl rfl) (fun _ => rfl))))) (fun _ _ _ _ _ => (rE_O (d_sl (pv 2)))) (fun _ => rfl))) (rE_D (d_lst o_nil)) rfl)) ss_nil)) ss_nil) (ss_cons (s_if (t_cmp op_isV s_is (rE_D (d_sl (pv 1))) (rE_D (d_c pe_non (fun _ => rep_non))) rfl) (ss_cons (s_ret (d_cmp op_isV s_is (rE_D (d_sl (pv 0))) (rE_D (d_c pe_non (fun _ => rep_non))) rfl)) ss_nil) ss_nil) (ss_cons (s_if (PW.pt (t_or (t_cmp op_isV s_is (rE_D (d_sl (pv 1))) (rE_D (d_c pe_bl (fun _ => rep_bl))) rfl) (pw_or1 (t_cmp op_isV s_is (rE_D (d_sl (pv 1))) (rE_D (d_c pe_bl (fun _ => rep_bl))) rfl)))) (ss_cons (s_ret (d_and (d_isi (t := .bool) (by decide) boot_bool rfl (B.free_isinstance) rfl (B.free_bool) (by decide) rfl (d_sl (pv 0)) rfl) (pe_one (d_cmp (op_eqA hr.units) s_eq (rE_D (d_sl (pv 0))) (rE_D (d_sl (pv 1))) rfl)))) ss_nil) ss_nil) (ss_cons (s_if (t_tru (d_isi (t := .str) (by decide) boot_str rfl (B.free_isinstance) rfl (B.free_str) (by decide) rfl (d_sl (pv 1)) rfl) (fun _ => rfl)) (ss_cons (s_ret (d_and (d_isi (t := .str) (by decide) boot_str rfl (B.free_isinstance) rfl (B.free_str) (by decide) rfl (d_sl (pv 0)) rfl) (pe_one (d_cmp (op_eqA hr.units) s_eq (rE_D (d_sl (pv 0))) (rE_D (d_sl (pv 1))) rfl)))) ss_nil) ss_nil) (ss_cons (s_ret (d_and (d_isi (t := .int) (by decide) boot_int rfl (B.free_isinstance) rfl (B.free_int) (by decide) rfl (d_sl (pv 0)) rfl) (d_and (d_not (d_isi (t := .bool) (by decide) boot_bool rfl (B.free_isinstance) rfl (B.free_bool) (by decide) rfl (d_sl (pv 0)) rfl)) (pe_one (d_cmp (op_eqA hr.units) s_eq (rE_D (d_sl (pv 0))) (rE_D (d_sl (pv 1))) rfl))))) ss_nil)))))
/-! _law_products -/
theorem sc_law_products : FnScope ["rows", "clearing", "marks", "pays", "x", "gets", "rents"] ["rows", "clearing", "marks"] (defScope (top 30)) := ⟨rfl, rfl, rfl, by decide +kernel, rfl, by decide +kernel, by decide +kernel⟩
def W_law_products (ad : Nat → Addr) : WE := bodyW 3 7 (wSeq (wAsg 3 (wLc (wR1 (wCons (wD (wB1 bLen (wSubN 0 (wD (wC (.int 2)))))) (wNil))) [4] (gN 4) (wYes) (wO (wOp boMul (wD (wSubN 2 (wD (wIxP (wIxP (wSubN 0 (wD (wC (.int 2)))) (.v 4)) (.c 0))))) (wD (wIxP (wSubN 1 (wD (wC (.int 0)))) (.v 4))))))) (wSeq (wAsg 5 (wLc (wR1 (wCons (wD (wB1 bLen (wSubN 0 (wD (wC (.int 3)))))) (wNil))) [4] (gN 4) (wYes) (wO (wOp boMul (wD (wSubN 2 (wD (wIxP (wIxP (wSubN 0 (wD (wC (.int 3)))) (.v 4)) (.c 0))))) (wD (wIxP (wSubN 1 (wD (wC (.int 1)))) (.v 4))))))) (wSeq (wAsg 6 (wLc (wR1 (wCons (wD (wB1 bLen (wSubN 0 (wD (wC (.int 1)))))) (wNil))) [4] (gN 4) (wYes) (wO (wOp boSub (wD (wOp boMul (wD (wIxP (wSubN 1 (wD (wC (.int 2)))) (.v 4))) (wD (wSubN 2 (wD (wIxP (wIxP (wSubN 0 (wD (wC (.int 1)))) (.v 4)) (.c 1))))))) (wD (wOp boMul (wD (wIxP (wSubN 1 (wD (wC (.int 2)))) (.v 4))) (wD (wSubN 2 (wD (wIxP (wIxP (wSubN 0 (wD (wC (.int 1)))) (.v 4)) (.c 0))))))))))) (wSeq (wRet (wTup (wCons (wD (wB1 bTuple (wSl 3))) (wCons (wD (wB1 bTuple (wSl 5))) (wCons (wD (wB1 bTuple (wSl 6))) (wNil)))))) (wPass)))))
theorem ok_law_products {P : Program} {w : World} {K : PySem.W.Frag} {mg : Str → Option Value} {base : Heap} {ad : Nat → Addr} {fd : FuncData} (B : Wd K mg ad) (F : FnP K "_law_products" "_law_products" (top 30) (ad 27) fd) : FnOk P w K mg base CX0 1 (ad 27) fd ["rows", "clearing", "marks"] (spW K 3 (W_law_products ad)) := by
  exact fn_okW F sc_law_products (by decide) fun cdv A outer s H E hr => (ss_cons (s_asg (s_setLc (own := [("x", 4)]) (i := 3) (by decide) rfl sc_law_products.nd rfl rfl (sw_true rfl rfl rfl rfl) (i_r1 rfl (B.free_range) (l_cons (rE_D (d_b1 bs_len call_len_seq rfl (B.free_len) boot_len (d_subN (pv 0) (rE_D (d_c pe_int (fun _ => rep_int))) (fun _ _ => rfl)) (by decide) rfl rfl)) l_nil rfl) rfl) (blkOk_by rfl) (fun _ _ _ _ _ => (gc_name (pg_name (i := 4) sc_law_products.nd rfl (Or.inl rfl)) (by decide))) (fun _ _ _ _ _ => t_yes) (fun _ _ _ _ _ => (rE_O (d_op op_mulA s_mul (rE_D (d_subN (pv 2) (rE_D (d_ixP (sx := (.c 0)) (d_ixP (sx := (.v 4)) (d_subN (pv 0) (rE_D (d_c pe_int (fun _ => rep_int))) (fun _ _ => rfl)) (pv 4) (fun _ _ => rfl)) pe_int (fun _ _ => rfl))) (fun _ _ => rfl))) (rE_D (d_ixP (sx := (.v 4)) (d_subN (pv 1) (rE_D (d_c pe_int (fun _ => rep_int))) (fun _ _ => rfl)) (pv 4) (fun _ _ => rfl)))))) (fun _ => rfl)) rfl) (ss_cons (s_asg (s_setLc (own := [("x", 4)]) (i := 5) (by decide) rfl sc_law_products.nd rfl rfl (sw_true rfl rfl rfl rfl) (i_r1 rfl (B.free_range) (l_cons (rE_D (d_b1 bs_len call_len_seq rfl (B.free_len) boot_len (d_subN (pv 0) (rE_D (d_c pe_int (fun _ => rep_int))) (fun _ _ => rfl)) (by decide) rfl rfl)) l_nil rfl) rfl) (blkOk_by rfl) (fun _ _ _ _ _ => (gc_name (pg_name (i := 4) sc_law_products.nd rfl (Or.inl rfl)) (by decide))) (fun _ _ _ _ _ => t_yes) (fun _ _ _ _ _ => (rE_O (d_op op_mulA s_mul (rE_D (d_subN (pv 2) (rE_D (d_ixP (sx := (.c 0)) (d_ixP (sx := (.v 4)) (d_subN (pv 0) (rE_D (d_c pe_int (fun _ => rep_int))) (fun _ _ => rfl)) (pv 4) (fun _ _ => rfl)) pe_int (fun _ _ => rfl))) (fun _ _ => rfl))) (rE_D (d_ixP (sx := (.v 4)) (d_subN (pv 1) (rE_D (d_c pe_int (fun _ => rep_int))) (fun _ _ => rfl)) (pv 4) (fun _ _ => rfl)))))) (fun _ => rfl)) rfl) (ss_cons (s_asg (s_setLc (own := [("x", 4)]) (i := 6) (by decide) rfl sc_law_products.nd rfl rfl (sw_true rfl rfl rfl rfl) (i_r1 rfl (B.free_range) (l_cons (rE_D (d_b1 bs_len call_len_seq rfl (B.free_len) boot_len (d_subN (pv 0) (rE_D (d_c pe_int (fun _ => rep_int))) (fun _ _ => rfl)) (by decide) rfl rfl)) l_nil rfl) rfl) (blkOk_by rfl) (fun _ _ _ _ _ => (gc_name (pg_name (i := 4) sc_law_products.nd rfl (Or.inl rfl)) (by decide))) (fun _ _ _ _ _ => t_yes) (fun _ _ _ _ _ => (rE_O (d_op op_sub s_sub (rE_D (d_op op_mulA s_mul (rE_D (d_ixP (sx := (.v 4)) (d_subN (pv 1) (rE_D (d_c pe_int (fun _ => rep_int))) (fun _ _ => rfl)) (pv 4) (fun _ _ => rfl))) (rE_D (d_subN (pv 2) (rE_D (d_ixP (sx := (.c 1)) (d_ixP (sx := (.v 4)) (d_subN (pv 0) (rE_D (d_c pe_int (fun _ => rep_int))) (fun _ _ => rfl)) (pv 4) (fun _ _ => rfl)) pe_int (fun _ _ => rfl))) (fun _ _ => rfl))))) (rE_D (d_op op_mulA s_mul (rE_D (d_ixP (sx := (.v 4)) (d_subN (pv 1) (rE_D (d_c pe_int (fun _ => rep_int))) (fun _ _ => rfl)) (pv 4) (fun _ _ => rfl))) (rE_D (d_subN (pv 2) (rE_D (d_ixP (sx := (.c 0)) (d_ixP (sx := (.v 4)) (d_subN (pv 0) (rE_D (d_c pe_int (fun _ => rep_int))) (fun _ _ => rfl)) (pv 4) (fun _ _ => rfl)) pe_int (fun _ _ => rfl))) (fun _ _ => rfl)))))))) (fun _ => rfl)) rfl) (ss_cons (s_ret (d_tup (l_cons (rE_D (d_t1 bs_tuple call_tuple_of rfl (B.free_tuple) boot_tuple (d_sl (pv 3)) (by decide) rfl rfl)) (l_cons (rE_D (d_t1 bs_tuple call_tuple_of rfl (B.free_tuple) boot_tuple (d_sl (pv 5)) (by decide) rfl rfl)) (l_cons (rE_D (d_t1 bs_tuple call_tuple_of rfl (B.free_tuple) boot_tuple (d_sl (pv 6)) (by decide) rfl rfl)) l_nil rfl) rfl) rfl))) ss_nil))))
/-! _law_case -/
theorem sc_law_case : FnScope ["case", "rows", "marks", "parts", "clearing", "told", "good", "hall", "got", "rent", "x"] ["case"] (defScope (top 31)) := ⟨rfl, rfl, rfl, by decide +kernel, rfl, by decide +kernel, by decide +kernel⟩
def W_law_case (ad : Nat → Addr) : WE := bodyW 1 11 (wSeq (wAsgT (gT 3 (gsCons (gN 1) (gsCons (gN 2) (gsCons (gN 3) (gsNil))))) (wSl 0)) (wSeq (wAsg 4 (wTup (wCons (wD (wB1 bTuple (wSubN 3 (wD (wC (.int 0)))))) (wCons (wD (wB1 bTuple (wSubN 3 (wD (wC (.int 1)))))) (wCons (wD (wB1 bTuple (wSubN 3 (wD (wC (.int 2)))))) (wNil)))))) (wSeq (wAsg 5 (wCall 3 (W_law_products ad) (wConsS 1 (wConsS 4 (wConsS 2 (wNilR)))))) (wSeq (wAsg 6 (wOp boEq (wD (wCall 3 (W_law_broken ad) (wConsS 1 (wConsS 4 (wConsS 2 (wNilR)))))) (wD (wLst (wNilO))))) (wSeq (wAsg 7 (wMake (ad 10) 4 (W_Market___init__ ad) (wCons (wD (wSubN 1 (wD (wC (.int 0))))) (wCons (wD (wB1 bTuple (wSubN 1 (wD (wC (.int 1)))))) (wCons (wD (wB1 bTuple (wSubN 1 (wD (wC (.int 2)))))) (wCons (wD (wB1 bTuple (wSubN 1 (wD (wC (.int 3)))))) (wNil))))))) (wSeq (wIfS (wNotT (wTru (wCall 2 (W_law_same ad 8) (wConsD (wD (wCall 3 (W_shows_clearing ad) (wConsS 7 (wConsS 4 (wConsD (wD (wB1 bTuple (wSl 2))) (wNilR)))))) (wConsS 6 (wNilR)))))) (wSeq (wRet (wC (.bl false))) (wPass)) (wPass)) (wSeq (wAsg 8 (wCall 3 (W_settlement ad) (wConsS 7 (wConsS 4 (wConsD (wD (wB1 bTuple (wSl 2))) (wNilR)))))) (wSeq (wIfS (wNotT (wTru (wCall 2 (W_law_same ad 8) (wConsS 8 (wConsS 5 (wNilR)))))) (wSeq (wRet (wC (.bl false))) (wPass)) (wPass)) (wSeq (wIfS (wTru (wSl 6)) (wSeq (wIfS (wOrT (wTest (wOp boNe (wD (wBL bSum (wCons (wD (wSubN 8 (wD (wC (.int 0))))) (wNil)))) (wD (wOp boAdd (wD (wBL bSum (wCons (wD (wSubN 8 (wD (wC (.int 1))))) (wNil)))) (wD (wBL bSum (wCons (wD (wSubN 8 (wD (wC (.int 2))))) (wNil)))))))) (wTru (wLc (wItD (wSubN 8 (wD (wC (.int 2))))) [9] (gN 9) (wTest (wOp boLt (wD (wSl 9)) (wD (wC (.int 0))))) (wO (wSl 9))))) (wSeq (wRet (wC (.bl false))) (wPass)) (wPass)) (wSeq (wIfS (wTru (wLc (wR1 (wCons (wD (wB1 bLen (wSubN 1 (wD (wC (.int 2)))))) (wNil))) [10] (gN 10) (wTest (wOp boGt (wD (wIxP (wSubN 8 (wD (wC (.int 0)))) (.v 10))) (wD (wOp boMul (wD (wIxP (wIxP (wSubN 1 (wD (wC (.int 2)))) (.v 10)) (.c 2))) (wD (wIxP (wSubN 4 (wD (wC (.int 0)))) (.v 10))))))) (wO (wSl 10)))) (wSeq (wRet (wC (.bl false))) (wPass)) (wPass)) (wSeq (wIfS (wTru (wLc (wR1 (wCons (wD (wB1 bLen (wSubN 1 (wD (wC (.int 3)))))) (wNil))) [10] (gN 10) (wTest (wOp boLt (wD (wIxP (wSubN 8 (wD (wC (.int 1)))) (.v 10))) (wD (wOp boMul (wD (wIxP (wIxP (wSubN 1 (wD (wC (.int 3)))) (.v 10)) (.c 2))) (wD (wIxP (wSubN 4 (wD (wC (.int 1)))) (.v 10))))))) (wO (wSl 10)))) (wSeq (wRet (wC (.bl false))) (wPass)) (wPass)) (wPass)))) (wPass)) (wSeq (wRet (wCall 2 (W_law_same ad 8) (wConsD (wD (wTup (wCons (wD (wAttr (ao ad) (wSl 7) 99)) (wCons (wD (wAttr (ao ad) (wSl 7) 48)) (wCons (wD (wAttr (ao ad) (wSl 7) 16)) (wCons (wD (wAttr (ao ad) (wSl 7) 58)) (wNil))))))) (wConsD (wD (wTup (wCons (wD (wSubN 1 (wD (wC (.int 0))))) (wCons (wD (wB1 bTuple (wSubN 1 (wD (wC (.int 1)))))) (wCons (wD (wB1 bTuple (wSubN 1 (wD (wC (.int 2)))))) (wCons (wD (wB1 bTuple (wSubN 1 (wD (wC (.int 3)))))) (wNil))))))) (wNilR))))) (wPass)))))))))))
theorem ok_law_case {P : Program} {w : World} {K : PySem.W.Frag} {mg : Str → Option Value} {base : Heap} {ad : Nat → Addr} {fd : FuncData} (B : Wd K mg ad) (F : FnP K "_law_case" "_law_case" (top 31) (ad 28) fd) : FnOk P w K mg base CX0 10 (ad 28) fd ["case"] (spW K 1 (W_law_case ad)) := by
  obtain ⟨fd_shows_clearing, F_shows_clearing⟩ := B.fn_shows_clearing
  have O_shows_clearing := ok_shows_clearing (P := P) (w := w) (base := base) B F_shows_clearing
  have b_shows_clearing : Binds K fd_shows_clearing ["market", "clearing", "prices"] [] := F_shows_clearing.bindsN fun _ _ _ _ _ _ us hl => match us, hl with | [_, _, _], _ => rfl
  obtain ⟨fd_Market___init__, F_Market___init__⟩ := B.fn_Market___init__
  have O_Market___init__ := ok_Market___init__ (P := P) (w := w) (base := base) B F_Market___init__
  have b_Market___init__ := kb_Market___init__ F_Market___init__
  obtain ⟨fd_settlement, F_settlement⟩ := B.fn_settlement
  have O_settlement := ok_settlement (P := P) (w := w) (base := base) B F_settlement
  have b_settlement : Binds K fd_settlement ["market", "clearing", "prices"] [] := F_settlement.bindsN fun _ _ _ _ _ _ us hl => match us, hl with | [_, _, _], _ => rfl
  obtain ⟨fd_law_same, F_law_same⟩ := B.fn_law_same
  have O_law_same := ok_law_same (P := P) (w := w) (base := base) B F_law_same 8
  have b_law_same : Binds K fd_law_same ["got", "due"] [] := F_law_same.bindsN fun _ _ _ _ _ _ us hl => match us, hl with | [_, _], _ => rfl
  obtain ⟨fd_law_broken, F_law_broken⟩ := B.fn_law_broken
  have O_law_broken := ok_law_broken (P := P) (w := w) (base := base) B F_law_broken
  have b_law_broken : Binds K fd_law_broken ["rows", "clearing", "marks"] [] := F_law_broken.bindsN fun _ _ _ _ _ _ us hl => match us, hl with | [_, _, _], _ => rfl
  obtain ⟨fd_law_products, F_law_products⟩ := B.fn_law_products
  have O_law_products := ok_law_products (P := P) (w := w) (base := base) B F_law_products
  have b_law_products : Binds K fd_law_products ["rows", "clearing", "marks"] [] := F_law_products.bindsN fun _ _ _ _ _ _ us hl => match us, hl with | [_, _, _], _ => rfl
  exact fn_okW F sc_law_case (by decide) fun cdv A outer s H E hr => (ss_cons (s_asgT (ps_asg (rE_D (d_sl (pv 0))) (g_tup rfl (gs_cons (g_name (pg_name (i := 1) sc_law_case.nd rfl (Or.inr rfl))) (gs_cons (g_name (pg_name (i := 2) sc_law_case.nd rfl (Or.inl rfl))) (gs_cons (g_name (pg_name (i := 3) sc_law_case.nd rfl (Or.inl rfl))) gs_nil rfl) rfl) rfl) rfl rfl))) (ss_cons (s_asg (ps_set (i := 4) sc_law_case.nd rfl (Or.inr rfl) (d_tup (l_cons (rE_D (d_t1 bs_tuple call_tuple_of rfl (B.free_tuple) boot_tuple (d_subN (pv 3) (rE_D (d_c pe_int (fun _ => rep_int))) (fun _ _ => rfl)) (by decide) rfl rfl)) (l_cons (rE_D (d_t1 bs_tuple call_tuple_of rfl (B.free_tuple) boot_tuple (d_subN (pv 3) (rE_D (d_c pe_int (fun _ => rep_int))) (fun _ _ => rfl)) (by decide) rfl rfl)) (l_cons (rE_D (d_t1 bs_tuple call_tuple_of rfl (B.free_tuple) boot_tuple (d_subN (pv 3) (rE_D (d_c pe_int (fun _ => rep_int))) (fun _ _ => rfl)) (by decide) rfl rfl)) l_nil rfl) rfl) rfl))) rfl) (ss_cons (s_asg (ps_set (i := 5) sc_law_case.nd rfl (Or.inl rfl) (d_call O_law_products (hr.mono (by decide)) rfl (B.glo_law_products) F_law_products.kp b_law_products (r_slot (pv 1) (r_slot (pv 4) (r_slot (pv 2) r_nil rfl) rfl) rfl) rfl rfl rfl)) rfl) (ss_cons (s_asg (ps_set (i := 6) sc_law_case.nd rfl (Or.inl rfl) (d_cmp (op_eqA hr.units) s_eq (rE_D (d_call O_law_broken (hr.mono (by decide)) rfl (B.glo_law_broken) F_law_broken.kp b_law_broken (r_slot (pv 1) (r_slot (pv 4) (r_slot (pv 2) r_nil rfl) rfl) rfl) rfl rfl rfl)) (rE_D (d_lst o_nil)) rfl)) rfl) (ss_cons (s_asg (ps_set (i := 7) sc_law_case.nd rfl (Or.inl rfl) (d_make rfl (fun _ _ => rfl) B.mk_Market O_Market___init__ (hr.mono (by decide)) rfl (B.glo_Market) (b_Market___init__) (k_cons (rE_D (d_subN (pv 1) (rE_D (d_c pe_int (fun _ => rep_int))) (fun _ _ => rfl))) (k_cons (rE_D (d_t1 bs_tuple call_tuple_of rfl (B.free_tuple) boot_tuple (d_subN (pv 1) (rE_D (d_c pe_int (fun _ => rep_int))) (fun _ _ => rfl)) (by decide) rfl rfl)) (k_cons (rE_D (d_t1 bs_tuple call_tuple_of rfl (B.free_tuple) boot_tuple (d_subN (pv 1) (rE_D (d_c pe_int (fun _ => rep_int))) (fun _ _ => rfl)) (by decide) rfl rfl)) (k_cons (rE_D (d_t1 bs_tuple call_tuple_of rfl (B.free_tuple) boot_tuple (d_subN (pv 1) (rE_D (d_c pe_int (fun _ => rep_int))) (fun _ _ => rfl)) (by decide) rfl rfl)) k_nil)))) rfl rfl rfl rfl)) rfl) (ss_cons (s_if (t_not (t_tru (d_call O_law_same (hr.mono (by decide)) rfl (B.glo_law_same) F_law_same.kp b_law_same (r_data (rE_D (d_call O_shows_clearing (hr.mono (by decide)) rfl (B.glo_shows_clearing) F_shows_clearing.kp b_shows_clearing (r_slot (pv 7) (r_slot (pv 4) (r_data (rE_D (d_t1 bs_tuple call_tuple_of rfl (B.free_tuple) boot_tuple (d_sl (pv 2)) (by decide) rfl rfl)) r_nil rfl) rfl) rfl) rfl rfl rfl)) (r_slot (pv 6) r_nil rfl) rfl) rfl rfl rfl) (fun _ => rfl))) (ss_cons (s_ret (d_c pe_bl (fun _ => rep_bl))) ss_nil) ss_nil) (ss_cons (s_asg (ps_set (i := 8) sc_law_case.nd rfl (Or.inr rfl) (d_call O_settlement (hr.mono (by decide)) rfl (B.glo_settlement) F_settlement.kp b_settlement (r_slot (pv 7) (r_slot (pv 4) (r_data (rE_D (d_t1 bs_tuple call_tuple_of rfl (B.free_tuple) boot_tuple (d_sl (pv 2)) (by decide) rfl rfl)) r_nil rfl) rfl) rfl) rfl rfl rfl)) rfl) (ss_cons (s_if (t_not (t_tru (d_call O_law_same (hr.mono (by decide)) rfl (B.glo_law_same) F_law_same.kp b_law_same (r_slot (pv 8) (r_slot (pv 5) r_nil rfl) rfl) rfl rfl rfl) (fun _ => rfl))) (ss_cons (s_ret (d_c pe_bl (fun _ => rep_bl))) ss_nil) ss_nil) (ss_cons (s_if (t_tru (d_sl (pv 6)) (fun _ => rfl)) (ss_cons (s_if (PW.pt (t_or (t_cmp (op_neA hr.units) s_ne (rE_D (d_bl cs_sum (cr_sumA rfl) rfl (B.free_sum) boot_sum (l_cons (rE_D (d_subN (pv 8) (rE_D (d_c pe_int (fun _ => rep_int))) (fun _ _ => rfl))) l_nil rfl) (by decide) rfl rfl rfl)) (rE_D (d_op op_addA s_add (rE_D (d_bl cs_sum (cr_sumA rfl) rfl (B.free_sum) boot_sum (l_cons (rE_D (d_subN (pv 8) (rE_D (d_c pe_int (fun _ => rep_int))) (fun _ _ => rfl))) l_nil rfl) (by decide) rfl rfl rfl)) (rE_D (d_bl cs_sum (cr_sumA rfl) rfl (B.free_sum) boot_sum (l_cons (rE_D (d_subN (pv 8) (rE_D (d_c pe_int (fun _ => rep_int))) (fun _ _ => rfl))) l_nil rfl) (by decide) rfl rfl rfl)))) rfl) (pw_or1 (t_tru (d_lc (own := [("rent", 9)]) (by decide) rfl sc_law_case.nd (i_seq (d_subN (pv 8) (rE_D (d_c pe_int (fun _ => rep_int))) (fun _ _ => rfl))) (blkOk_by rfl) (fun _ _ _ _ _ => (gc_name (pg_name (i := 9) sc_law_case.nd rfl (Or.inl rfl)) (by decide))) (fun _ _ _ _ _ => (t_one (t_cmp op_lt s_lt (rE_D (d_sl (pv 9))) (rE_D (d_c pe_int (fun _ => rep_int))) rfl))) (fun _ _ _ _ _ => (rE_O (d_sl (pv 9)))) (fun _ => rfl)) (fun _ => rfl))))) (ss_cons (s_ret (d_c pe_bl (fun _ => rep_bl))) ss_nil) ss_nil) (ss_cons (s_if (t_tru (d_lc (own := [("x", 10)]) (by decide) rfl sc_law_case.nd (i_r1 rfl (B.free_range) (l_cons (rE_D (d_b1 bs_len call_len_seq rfl (B.free_len) boot_len (d_subN (pv 1) (rE_D (d_c pe_int (fun _ => rep_int))) (fun _ _ => rfl)) (by decide) rfl rfl)) l_nil rfl) rfl) (blkOk_by rfl) (fun _ _ _ _ _ => (gc_name (pg_name (i := 10) sc_law_case.nd rfl (Or.inl rfl)) (by decide))) (fun _ _ _ _ _ => (t_one (t_cmp op_gt s_gt (rE_D (d_ixP (sx := (.v 10)) (d_subN (pv 8) (rE_D (d_c pe_int (fun _ => rep_int))) (fun _ _ => rfl)) (pv 10) (fun _ _ => rfl))) (rE_D (d_op op_mulA s_mul (rE_D (d_ixP (sx := (.c 2)) (d_ixP (sx := (.v 10)) (d_subN (pv 1) (rE_D (d_c pe_int (fun _ => rep_int))) (fun _ _ => rfl)) (pv 10) (fun _ _ => rfl)) pe_int (fun _ _ => rfl))) (rE_D (d_ixP (sx := (.v 10)) (d_subN (pv 4) (rE_D (d_c pe_int (fun _ => rep_int))) (fun _ _ => rfl)) (pv 10) (fun _ _ => rfl))))) rfl))) (fun _ _ _ _ _ => (rE_O (d_sl (pv 10)))) (fun _ => rfl)) (fun _ => rfl)) (ss_cons (s_ret (d_c pe_bl (fun _ => rep_bl))) ss_nil) ss_nil) (ss_cons (s_if (t_tru (d_lc (own := [("x", 10)]) (by decide) rfl sc_law_case.nd (i_r1 rfl (B.free_range) (l_cons (rE_D (d_b1 bs_len call_len_seq rfl (B.free_len) boot_len (d_subN (pv 1) (rE_D (d_c pe_int (fun _ => rep_int))) (fun _ _ => rfl)) (by decide) rfl rfl)) l_nil rfl) rfl) (blkOk_by rfl) (fun _ _ _ _ _ => (gc_name (pg_name (i := 10) sc_law_case.nd rfl (Or.inl rfl)) (by decide))) (fun _ _ _ _ _ => (t_one (t_cmp op_lt s_lt (rE_D (d_ixP (sx := (.v 10)) (d_subN (pv 8) (rE_D (d_c pe_int (fun _ => rep_int))) (fun _ _ => rfl)) (pv 10) (fun _ _ => rfl))) (rE_D (d_op op_mulA s_mul (rE_D (d_ixP (sx := (.c 2)) (d_ixP (sx := (.v 10)) (d_subN (pv 1) (rE_D (d_c pe_int (fun _ => rep_int))) (fun _ _ => rfl)) (pv 10) (fun _ _ => rfl)) pe_int (fun _ _ => rfl))) (rE_D (d_ixP (sx := (.v 10)) (d_subN (pv 4) (rE_D (d_c pe_int (fun _ => rep_int))) (fun _ _ => rfl)) (pv 10) (fun _ _ => rfl))))) rfl))) (fun _ _ _ _ _ => (rE_O (d_sl (pv 10)))) (fun _ => rfl)) (fun _ => rfl)) (ss_cons (s_ret (d_c pe_bl (fun _ => rep_bl))) ss_nil) ss_nil) ss_nil))) ss_nil) (ss_cons (s_ret (d_call O_law_same (hr.mono (by decide)) rfl (B.glo_law_same) F_law_same.kp b_law_same (r_data (rE_D (d_tup (l_cons (rE_D (d_attr (k := 99) B.hao (d_sl (pv 7)) rfl)) (l_cons (rE_D (d_attr (k := 48) B.hao (d_sl (pv 7)) rfl)) (l_cons (rE_D (d_attr (k := 16) B.hao (d_sl (pv 7)) rfl)) (l_cons (rE_D (d_attr (k := 58) B.hao (d_sl (pv 7)) rfl)) l_nil rfl) rfl) rfl) rfl))) (r_data (rE_D (d_tup (l_cons (rE_D (d_subN (pv 1) (rE_D (d_c pe_int (fun _ => rep_int))) (fun _ _ => rfl))) (l_cons (rE_D (d_t1 bs_tuple call_tuple_of rfl (B.free_tuple) boot_tuple (d_subN (pv 1) (rE_D (d_c pe_int (fun _ => rep_int))) (fun _ _ => rfl)) (by decide) rfl rfl)) (l_cons (rE_D (d_t1 bs_tuple call_tuple_of rfl (B.free_tuple) boot_tuple (d_subN (pv 1) (rE_D (d_c pe_int (fun _ => rep_int))) (fun _ _ => rfl)) (by decide) rfl rfl)) (l_cons (rE_D (d_t1 bs_tuple call_tuple_of rfl (B.free_tuple) boot_tuple (d_subN (pv 1) (rE_D (d_c pe_int (fun _ => rep_int))) (fun _ _ => rfl)) (by decide) rfl rfl)) l_nil rfl) rfl) rfl) rfl))) r_nil rfl) rfl) rfl rfl rfl)) ss_nil))))))))))
/-! law -/
theorem sc_law : FnScope ["script", "pool", "right", "cases", "turn", "rows", "marks", "parts", "x"] ["script"] (defScope (top 32)) := ⟨rfl, rfl, rfl, by decide +kernel, rfl, by decide +kernel, by decide +kernel⟩
def W_law (ad : Nat → Addr) : WE := bodyW 1 9 (wSeq (wAsg 1 (wCall 2 (W_law_pool ad) (wConsS 0 (wConsD (wD (wC (.int 0))) (wNilR))))) (wSeq (wAsg 2 (wCall 1 (W_law_right ad) (wConsS 1 (wNilR)))) (wSeq (wAsg 3 (wLst (wConsO (wO (wSl 2)) (wNilO)))) (wSeq (wForS (wR1 (wCons (wD (wC (.int 6))) (wNil))) (gN 4) (wSeq (wEx (wApp 3 (wD (wCall 2 (W_law_spoilt ad) (wConsS 1 (wConsS 2 (wNilR))))))) (wPass))) (wSeq (wAsgT (gT 3 (gsCons (gN 5) (gsCons (gN 6) (gsCons (gN 7) (gsNil))))) (wSl 2)) (wSeq (wIfS (wTru (wCall 3 (W_law_broken ad) (wConsS 5 (wConsD (wD (wTup (wCons (wD (wB1 bTuple (wSubN 7 (wD (wC (.int 0)))))) (wCons (wD (wB1 bTuple (wSubN 7 (wD (wC (.int 1)))))) (wCons (wD (wB1 bTuple (wSubN 7 (wD (wC (.int 2)))))) (wNil)))))) (wConsS 6 (wNilR)))))) (wSeq (wRet (wC (.bl false))) (wPass)) (wPass)) (wSeq (wForS (wItD (wLst (wConsO (wO (wC (.int 0))) (wConsO (wO (wC (.int 1))) (wConsO (wO (wC (.int 2))) (wConsO (wO (wC (.int 3))) (wConsO (wO (wC (.int 4))) (wConsO (wO (wC (.int 5))) (wConsO (wO (wC (.int 6))) (wConsO (wO (wC (.int 0))) (wNilO))))))))))) (gN 8) (wSeq (wIfS (wNotT (wTru (wCall 1 (W_law_case ad) (wConsD (wD (wSubN 3 (wD (wSl 8)))) (wNilR))))) (wSeq (wRet (wC (.bl false))) (wPass)) (wPass)) (wPass))) (wSeq (wRet (wC (.bl true))) (wPass)))))))))
theorem ok_law {P : Program} {w : World} {K : PySem.W.Frag} {mg : Str → Option Value} {base : Heap} {ad : Nat → Addr} {fd : FuncData} (B : Wd K mg ad) (F : FnP K "law" "law" (top 32) (ad 29) fd) : FnOk P w K mg base CX0 11 (ad 29) fd ["script"] (spW K 1 (W_law ad)) := by
  obtain ⟨fd_law_pool, F_law_pool⟩ := B.fn_law_pool
  have O_law_pool := ok_law_pool (P := P) (w := w) (base := base) B F_law_pool
  have b_law_pool : Binds K fd_law_pool ["script", "place"] [] := F_law_pool.bindsN fun _ _ _ _ _ _ us hl => match us, hl with | [_, _], _ => rfl
  obtain ⟨fd_law_right, F_law_right⟩ := B.fn_law_right
  have O_law_right := ok_law_right (P := P) (w := w) (base := base) B F_law_right
  have b_law_right : Binds K fd_law_right ["pool"] [] := F_law_right.bindsN fun _ _ _ _ _ _ us hl => match us, hl with | [_], _ => rfl
  obtain ⟨fd_law_broken, F_law_broken⟩ := B.fn_law_broken
  have O_law_broken := ok_law_broken (P := P) (w := w) (base := base) B F_law_broken
  have b_law_broken : Binds K fd_law_broken ["rows", "clearing", "marks"] [] := F_law_broken.bindsN fun _ _ _ _ _ _ us hl => match us, hl with | [_, _, _], _ => rfl
  obtain ⟨fd_law_spoilt, F_law_spoilt⟩ := B.fn_law_spoilt
  have O_law_spoilt := ok_law_spoilt (P := P) (w := w) (base := base) B F_law_spoilt
  have b_law_spoilt : Binds K fd_law_spoilt ["pool", "right"] [] := F_law_spoilt.bindsN fun _ _ _ _ _ _ us hl => match us, hl with | [_, _], _ => rfl
  obtain ⟨fd_law_case, F_law_case⟩ := B.fn_law_case
  have O_law_case := ok_law_case (P := P) (w := w) (base := base) B F_law_case
  have b_law_case : Binds K fd_law_case ["case"] [] := F_law_case.bindsN fun _ _ _ _ _ _ us hl => match us, hl with | [_], _ => rfl
  exact fn_okW F sc_law (by decide) fun cdv A outer s H E hr => (ss_cons (s_asg (ps_set (i := 1) sc_law.nd rfl (Or.inl rfl) (d_call O_law_pool (hr.mono (by decide)) rfl (B.glo_law_pool) F_law_pool.kp b_law_pool (r_slot (pv 0) (r_data (rE_D (d_c pe_int (fun _ => rep_int))) r_nil rfl) rfl) rfl rfl rfl)) rfl) (ss_cons (s_asg (ps_set (i := 2) sc_law.nd rfl (Or.inl rfl) (d_call O_law_right (hr.mono (by decide)) rfl (B.glo_law_right) F_law_right.kp b_law_right (r_slot (pv 1) r_nil rfl) rfl rfl rfl)) rfl) (ss_cons (s_asg (ps_set (i := 3) sc_law.nd rfl (Or.inl rfl) (d_lst (o_cons (rE_O (d_sl (pv 2))) o_nil rfl))) rfl) (ss_cons (s_for PassesOwn.never rfl (i_r1 rfl (B.free_range) (l_cons (rE_D (d_c pe_int (fun _ => rep_int))) l_nil rfl) rfl) (g_name (pg_name (i := 4) sc_law.nd rfl (Or.inl rfl))) (ss_cons (s_ex (d_app (pe_bm PySem.F.plainAttrs_list PySem.F.slot_list_append PySem.F.type_list_append mt_append (pv 3) (pa_cons (rE_D (d_call O_law_spoilt (hr.mono (by decide)) rfl (B.glo_law_spoilt) F_law_spoilt.kp b_law_spoilt (r_slot (pv 1) (r_slot (pv 2) r_nil rfl) rfl) rfl rfl rfl)) pa_nil))) rfl) ss_nil) (fun _ => rfl)) (ss_cons (s_asgT (ps_asg (rE_D (d_sl (pv 2))) (g_tup rfl (gs_cons (g_name (pg_name (i := 5) sc_law.nd rfl (Or.inl rfl))) (gs_cons (g_name (pg_name (i := 6) sc_law.nd rfl (Or.inl rfl))) (gs_cons (g_name (pg_name (i := 7) sc_law.nd rfl (Or.inl rfl))) gs_nil rfl) rfl) rfl) rfl rfl))) (ss_cons (s_if (t_tru (d_call O_law_broken (hr.mono (by decide)) rfl (B.glo_law_broken) F_law_broken.kp b_law_broken (r_slot (pv 5) (r_data (rE_D (d_tup (l_cons (rE_D (d_t1 bs_tuple call_tuple_of rfl (B.free_tuple) boot_tuple (d_subN (pv 7) (rE_D (d_c pe_int (fun _ => rep_int))) (fun _ _ => rfl)) (by decide) rfl rfl)) (l_cons (rE_D (d_t1 bs_tuple call_tuple_of rfl (B.free_tuple) boot_tuple (d_subN (pv 7) (rE_D (d_c pe_int (fun _ => rep_int))) (fun _ _ => rfl)) (by decide) rfl rfl)) (l_cons (rE_D (d_t1 bs_tuple call_tuple_of rfl (B.free_tuple) boot_tuple (d_subN (pv 7) (rE_D (d_c pe_int (fun _ => rep_int))) (fun _ _ => rfl)) (by decide) rfl rfl)) l_nil rfl) rfl) rfl))) (r_slot (pv 6) r_nil rfl) rfl) rfl) rfl rfl rfl) (fun _ => rfl)) (ss_cons (s_ret (d_c pe_bl (fun _ => rep_bl))) ss_nil) ss_nil) (ss_cons (s_for PassesOwn.never rfl (i_seq (d_lst (o_cons (rE_O (d_c pe_int (fun _ => rep_int))) (o_cons (rE_O (d_c pe_int (fun _ => rep_int))) (o_cons (rE_O (d_c pe_int (fun _ => rep_int))) (o_cons (rE_O (d_c pe_int (fun _ => rep_int))) (o_cons (rE_O (d_c pe_int (fun _ => rep_int))) (o_cons (rE_O (d_c pe_int (fun _ => rep_int))) (o_cons (rE_O (d_c pe_int (fun _ => rep_int))) (o_cons (rE_O (d_c pe_int (fun _ => rep_int))) o_nil rfl) rfl) rfl) rfl) rfl) rfl) rfl) rfl))) (g_name (pg_name (i := 8) sc_law.nd rfl (Or.inl rfl))) (ss_cons (s_if (t_not (t_tru (d_call O_law_case (hr.mono (by decide)) rfl (B.glo_law_case) F_law_case.kp b_law_case (r_data (rE_D (d_subN (pv 3) (rE_D (d_sl (pv 8))) (fun _ _ => rfl))) r_nil rfl) rfl rfl rfl) (fun _ => rfl))) (ss_cons (s_ret (d_c pe_bl (fun _ => rep_bl))) ss_nil) ss_nil) ss_nil) (fun _ => rfl)) (ss_cons (s_ret (d_c pe_bl (fun _ => rep_bl))) ss_nil))))))))
end K84
end SW84
section SH84
set_option linter.all false
set_option Elab.async false
set_option maxRecDepth 100000
set_option maxHeartbeats 0
open PySem PySem.Spec PyProof.Rows L2
namespace K84
open Bv
def d_law_pool : He.DefD := ⟨("_law_pool", none), "_law_pool", "_law_pool", defArgs (top 16), defBody (top 16), defScope (top 16), [], []⟩
def d_law_draw : He.DefD := ⟨("_law_draw", none), "_law_draw", "_law_draw", defArgs (top 17), defBody (top 17), defScope (top 17), [], []⟩
def d_law_pick : He.DefD := ⟨("_law_pick", none), "_law_pick", "_law_pick", defArgs (top 18), defBody (top 18), defScope (top 18), [], []⟩
def d_law_up : He.DefD := ⟨("_law_up", none), "_law_up", "_law_up", defArgs (top 19), defBody (top 19), defScope (top 19), [], []⟩
def d_law_price : He.DefD := ⟨("_law_price", none), "_law_price", "_law_price", defArgs (top 21), defBody (top 21), defScope (top 21), [], []⟩
def d_law_trade : He.DefD := ⟨("_law_trade", none), "_law_trade", "_law_trade", defArgs (top 22), defBody (top 22), defScope (top 22), [], []⟩
def d_law_tie : He.DefD := ⟨("_law_tie", none), "_law_tie", "_law_tie", defArgs (top 23), defBody (top 23), defScope (top 23), [], []⟩
def d_law_filled : He.DefD := ⟨("_law_filled", none), "_law_filled", "_law_filled", defArgs (top 24), defBody (top 24), defScope (top 24), [], []⟩
def d_law_net : He.DefD := ⟨("_law_net", none), "_law_net", "_law_net", defArgs (top 25), defBody (top 25), defScope (top 25), [], []⟩
def d_law_right : He.DefD := ⟨("_law_right", none), "_law_right", "_law_right", defArgs (top 26), defBody (top 26), defScope (top 26), [], []⟩
def d_law_broken : He.DefD := ⟨("_law_broken", none), "_law_broken", "_law_broken", defArgs (top 27), defBody (top 27), defScope (top 27), [], []⟩
def d_law_made_good : He.DefD := ⟨("_law_made_good", none), "_law_made_good", "_law_made_good", defArgs (top 28), defBody (top 28), defScope (top 28), [], []⟩
def d_law_spoilt : He.DefD := ⟨("_law_spoilt", none), "_law_spoilt", "_law_spoilt", defArgs (top 29), defBody (top 29), defScope (top 29), [], []⟩
def d_trades_of : He.DefD := ⟨("trades_of", none), "trades_of", "trades_of", defArgs (top 1), defBody (top 1), defScope (top 1), [], []⟩
def d_is_balanced : He.DefD := ⟨("is_balanced", none), "is_balanced", "is_balanced", defArgs (top 2), defBody (top 2), defScope (top 2), [], []⟩
def d_shows_clearing : He.DefD := ⟨("shows_clearing", none), "shows_clearing", "shows_clearing", defArgs (top 3), defBody (top 3), defScope (top 3), [], []⟩
def d_link_fits : He.DefD := ⟨("link_fits", none), "link_fits", "link_fits", defArgs (top 8), defBody (top 8), defScope (top 8), [], []⟩
def d_trade_fits : He.DefD := ⟨("trade_fits", none), "trade_fits", "trade_fits", defArgs (top 9), defBody (top 9), defScope (top 9), [], []⟩
def d_bad_rows : He.DefD := ⟨("bad_rows", none), "bad_rows", "bad_rows", defArgs (top 10), defBody (top 10), defScope (top 10), [], []⟩
def d_bad_field : He.DefD := ⟨("bad_field", none), "bad_field", "bad_field", defArgs (top 11), defBody (top 11), defScope (top 11), [], []⟩
def d_Market___init__ : He.DefD := ⟨("Market", some "__init__"), "__init__", "Market.__init__", defArgs (mem (top 12) 0), defBody (mem (top 12) 0), defScope (mem (top 12) 0), [], []⟩
def d_settlement : He.DefD := ⟨("settlement", none), "settlement", "settlement", defArgs (top 14), defBody (top 14), defScope (top 14), [], []⟩
def d_law_same : He.DefD := ⟨("_law_same", none), "_law_same", "_law_same", defArgs (top 20), defBody (top 20), defScope (top 20), [], []⟩
def d_law_products : He.DefD := ⟨("_law_products", none), "_law_products", "_law_products", defArgs (top 30), defBody (top 30), defScope (top 30), [], []⟩
def d_law_case : He.DefD := ⟨("_law_case", none), "_law_case", "_law_case", defArgs (top 31), defBody (top 31), defScope (top 31), [], []⟩
def d_law : He.DefD := ⟨("law", none), "law", "law", defArgs (top 32), defBody (top 32), defScope (top 32), [], []⟩
def adK (K : PySem.W.Frag) : Nat → Addr := fun k => match k with
  | 13 => He.fAd K ("_law_pool", none)
  | 14 => He.fAd K ("_law_draw", none)
  | 15 => He.fAd K ("_law_pick", none)
  | 16 => He.fAd K ("_law_up", none)
  | 18 => He.fAd K ("_law_price", none)
  | 19 => He.fAd K ("_law_trade", none)
  | 20 => He.fAd K ("_law_tie", none)
  | 21 => He.fAd K ("_law_filled", none)
  | 22 => He.fAd K ("_law_net", none)
  | 23 => He.fAd K ("_law_right", none)
  | 24 => He.fAd K ("_law_broken", none)
  | 25 => He.fAd K ("_law_made_good", none)
  | 26 => He.fAd K ("_law_spoilt", none)
  | 0 => He.fAd K ("trades_of", none)
  | 1 => He.fAd K ("is_balanced", none)
  | 2 => He.fAd K ("shows_clearing", none)
  | 6 => He.fAd K ("link_fits", none)
  | 7 => He.fAd K ("trade_fits", none)
  | 8 => He.fAd K ("bad_rows", none)
  | 9 => He.fAd K ("bad_field", none)
  | 11 => He.fAd K ("Market", some "__init__")
  | 12 => He.fAd K ("settlement", none)
  | 17 => He.fAd K ("_law_same", none)
  | 27 => He.fAd K ("_law_products", none)
  | 28 => He.fAd K ("_law_case", none)
  | 29 => He.fAd K ("law", none)
  | 10 => He.ga K "Market"
  | _ => 0
def fn : List He.DefD := [d_law_pool, d_law_draw, d_law_pick, d_law_up, d_law_price, d_law_trade, d_law_tie, d_law_filled, d_law_net, d_law_right, d_law_broken, d_law_made_good, d_law_spoilt, d_trades_of, d_is_balanced, d_shows_clearing, d_link_fits, d_trade_fits, d_bad_rows, d_bad_field, d_Market___init__, d_settlement, d_law_same, d_law_products, d_law_case, d_law]
def fa : List He.Fa := [.glo "_law_pool", .glo "_law_draw", .glo "_law_pick", .glo "_law_up", .glo "_law_price", .glo "_law_trade", .glo "_law_tie", .glo "_law_filled", .glo "_law_net", .glo "_law_right", .glo "_law_broken", .glo "_law_made_good", .glo "_law_spoilt", .glo "trades_of", .glo "is_balanced", .glo "shows_clearing", .glo "link_fits", .glo "trade_fits", .glo "bad_rows", .glo "bad_field", .glo "settlement", .glo "_law_same", .glo "_law_products", .glo "_law_case", .glo "law", .glo "Market", .cls "Market", .mkr "Market", .noat "Market" "zones", .noat "Market" "links", .noat "Market" "bids", .noat "Market" "offers", .free "abs", .free "bool", .free "enumerate", .free "int", .free "isinstance", .free "len", .free "list", .free "max", .free "min", .free "range", .free "str", .free "sum", .free "tuple", .free "zip"]
abbrev R : PySem.W.OpenRow := PySem.W.OpenLaw.row PySem.Challenge.rw_gridstead_k84_clearing_judge_and_settlem
abbrev hk : PySem.W.Hook := He.hookD 6 fa fn
def ob (s : PySem.W.SharedT) : He.AlD := He.obsDG 6 fa fn (HandSHeadRun.getT s)
theorem ob_eq (s : PySem.W.SharedT) : ob s = hk.obs s.abs := He.obsDG_eq (HandSHeadRun.getT_eq s)
def loose : List Str := ["trades_of", "is_balanced", "shows_clearing", "GridError", "BadMarket", "link_fits", "trade_fits", "bad_rows", "bad_field", "Market", "settlement", "_law_pool", "_law_draw", "_law_pick", "_law_up", "_law_same", "_law_price", "_law_trade", "_law_tie", "_law_filled", "_law_net", "_law_right", "_law_broken", "_law_made_good", "_law_spoilt", "_law_products", "_law_case"]
theorem run (w : World) : HandSHeadRun.RunEq R (PySem.W.view R.prog [32]) hk ob 3000 loose w := by
  intro os
  kernel_rfl
theorem wd_of {K : PySem.W.Frag} {h : Heap} {mg : Str → Option Value} (X : K.In h) (G : h.Ns mainGlobals mg) (c : He.SaysD fa fn K) : Wd K mg (adK K) where
  fn_law_pool := c.def_ 0 (d := d_law_pool) rfl
  glo_law_pool := He.glo_ok X G (c.fact 0 (f := .glo "_law_pool") rfl)
  fn_law_draw := c.def_ 1 (d := d_law_draw) rfl
  glo_law_draw := He.glo_ok X G (c.fact 1 (f := .glo "_law_draw") rfl)
  fn_law_pick := c.def_ 2 (d := d_law_pick) rfl
  glo_law_pick := He.glo_ok X G (c.fact 2 (f := .glo "_law_pick") rfl)
  fn_law_up := c.def_ 3 (d := d_law_up) rfl
  glo_law_up := He.glo_ok X G (c.fact 3 (f := .glo "_law_up") rfl)
  fn_law_price := c.def_ 4 (d := d_law_price) rfl
  glo_law_price := He.glo_ok X G (c.fact 4 (f := .glo "_law_price") rfl)
  fn_law_trade := c.def_ 5 (d := d_law_trade) rfl
  glo_law_trade := He.glo_ok X G (c.fact 5 (f := .glo "_law_trade") rfl)
  fn_law_tie := c.def_ 6 (d := d_law_tie) rfl
  glo_law_tie := He.glo_ok X G (c.fact 6 (f := .glo "_law_tie") rfl)
  fn_law_filled := c.def_ 7 (d := d_law_filled) rfl
  glo_law_filled := He.glo_ok X G (c.fact 7 (f := .glo "_law_filled") rfl)
  fn_law_net := c.def_ 8 (d := d_law_net) rfl
  glo_law_net := He.glo_ok X G (c.fact 8 (f := .glo "_law_net") rfl)
  fn_law_right := c.def_ 9 (d := d_law_right) rfl
  glo_law_right := He.glo_ok X G (c.fact 9 (f := .glo "_law_right") rfl)
  fn_law_broken := c.def_ 10 (d := d_law_broken) rfl
  glo_law_broken := He.glo_ok X G (c.fact 10 (f := .glo "_law_broken") rfl)
  fn_law_made_good := c.def_ 11 (d := d_law_made_good) rfl
  glo_law_made_good := He.glo_ok X G (c.fact 11 (f := .glo "_law_made_good") rfl)
  fn_law_spoilt := c.def_ 12 (d := d_law_spoilt) rfl
  glo_law_spoilt := He.glo_ok X G (c.fact 12 (f := .glo "_law_spoilt") rfl)
  fn_trades_of := c.def_ 13 (d := d_trades_of) rfl
  glo_trades_of := He.glo_ok X G (c.fact 13 (f := .glo "trades_of") rfl)
  fn_is_balanced := c.def_ 14 (d := d_is_balanced) rfl
  glo_is_balanced := He.glo_ok X G (c.fact 14 (f := .glo "is_balanced") rfl)
  fn_shows_clearing := c.def_ 15 (d := d_shows_clearing) rfl
  glo_shows_clearing := He.glo_ok X G (c.fact 15 (f := .glo "shows_clearing") rfl)
  fn_link_fits := c.def_ 16 (d := d_link_fits) rfl
  glo_link_fits := He.glo_ok X G (c.fact 16 (f := .glo "link_fits") rfl)
  fn_trade_fits := c.def_ 17 (d := d_trade_fits) rfl
  glo_trade_fits := He.glo_ok X G (c.fact 17 (f := .glo "trade_fits") rfl)
  fn_bad_rows := c.def_ 18 (d := d_bad_rows) rfl
  glo_bad_rows := He.glo_ok X G (c.fact 18 (f := .glo "bad_rows") rfl)
  fn_bad_field := c.def_ 19 (d := d_bad_field) rfl
  glo_bad_field := He.glo_ok X G (c.fact 19 (f := .glo "bad_field") rfl)
  fn_Market___init__ := c.def_ 20 (d := d_Market___init__) rfl
  fn_settlement := c.def_ 21 (d := d_settlement) rfl
  glo_settlement := He.glo_ok X G (c.fact 20 (f := .glo "settlement") rfl)
  fn_law_same := c.def_ 22 (d := d_law_same) rfl
  glo_law_same := He.glo_ok X G (c.fact 21 (f := .glo "_law_same") rfl)
  fn_law_products := c.def_ 23 (d := d_law_products) rfl
  glo_law_products := He.glo_ok X G (c.fact 22 (f := .glo "_law_products") rfl)
  fn_law_case := c.def_ 24 (d := d_law_case) rfl
  glo_law_case := He.glo_ok X G (c.fact 23 (f := .glo "_law_case") rfl)
  fn_law := c.def_ 25 (d := d_law) rfl
  glo_law := He.glo_ok X G (c.fact 24 (f := .glo "law") rfl)
  glo_Market := He.glo_ok X G (c.fact 25 (f := .glo "Market") rfl)
  mk_Market := He.mkr_ok (c.fact 27 (f := .mkr "Market") rfl)
  free_abs := He.free_ok X G (c.fact 32 (f := .free "abs") rfl)
  free_bool := He.free_ok X G (c.fact 33 (f := .free "bool") rfl)
  free_enumerate := He.free_ok X G (c.fact 34 (f := .free "enumerate") rfl)
  free_int := He.free_ok X G (c.fact 35 (f := .free "int") rfl)
  free_isinstance := He.free_ok X G (c.fact 36 (f := .free "isinstance") rfl)
  free_len := He.free_ok X G (c.fact 37 (f := .free "len") rfl)
  free_list := He.free_ok X G (c.fact 38 (f := .free "list") rfl)
  free_max := He.free_ok X G (c.fact 39 (f := .free "max") rfl)
  free_min := He.free_ok X G (c.fact 40 (f := .free "min") rfl)
  free_range := He.free_ok X G (c.fact 41 (f := .free "range") rfl)
  free_str := He.free_ok X G (c.fact 42 (f := .free "str") rfl)
  free_sum := He.free_ok X G (c.fact 43 (f := .free "sum") rfl)
  free_tuple := He.free_ok X G (c.fact 44 (f := .free "tuple") rfl)
  free_zip := He.free_ok X G (c.fact 45 (f := .free "zip") rfl)
  hao := fun C k h0 => by
    have h : ao (adK K) C k := h0
    clear h0
    unfold ao at h
    obtain ⟨rfl, h⟩ := h
    · simp only [List.mem_cons, List.not_mem_nil, or_false] at h
      rcases h with rfl | rfl | rfl | rfl
      · exact ⟨by decide, He.cls_ok (x := "Market") (c.fact 26 (f := .cls "Market") rfl), He.noat_ok (x := "Market") (f := "zones") (c.fact 28 (f := .noat "Market" "zones") rfl)⟩
      · exact ⟨by decide, He.cls_ok (x := "Market") (c.fact 26 (f := .cls "Market") rfl), He.noat_ok (x := "Market") (f := "links") (c.fact 29 (f := .noat "Market" "links") rfl)⟩
      · exact ⟨by decide, He.cls_ok (x := "Market") (c.fact 26 (f := .cls "Market") rfl), He.noat_ok (x := "Market") (f := "bids") (c.fact 30 (f := .noat "Market" "bids") rfl)⟩
      · exact ⟨by decide, He.cls_ok (x := "Market") (c.fact 26 (f := .cls "Market") rfl), He.noat_ok (x := "Market") (f := "offers") (c.fact 31 (f := .noat "Market" "offers") rfl)⟩

/-- the law's meaning holds for every script: then the row does -/
def Good : Prop := ∀ (ad : Nat → Addr) (ns : List Int), ns.length ≤ 63 → W_law ad [.t (.d (.lsk (ns.map .int)))] fun ev _ => ev = .d (.bl true)
theorem sp_law (hG : Good) {K : PySem.W.Frag} {ad : Nat → Addr} {H : Hp} {a : Addr} {ns : List Int} {E : XK} (hl : ns.length ≤ 63) (hS : SqL K H a (ns.map V.int)) : spW K 1 (W_law ad) [.ref a] H (fun v _ => v = .bl true) E := by
  have R : RepL K H (ns.map .int) (ns.map V.int) := by
    clear hl hS
    induction ns with
    | nil => exact RepL.nil
    | cons n ns ih => exact RepL.cons (by simp only [Rep]) ih
  refine ⟨rfl, fun _ => none, H, [.t (.d (.lsk (ns.map .int)))], fun _ => [], fun ev _ => ev = .d (.bl true), fun sv h => ⟨_, List.mem_singleton.mp h⟩, ⟨fun _ _ e => e, (fun _ _ e => nomatch e), fun _ => List.nodup_nil, (fun _ _ _ h => nomatch h), fun i => ?_, rfl⟩, hG ad ns hl, fun ev v outs G' H' _ evs e => ?_⟩
  · cases i with
    | zero =>
      refine ⟨.ref a, rfl, ?_⟩
      simp only [TR, Rep]
      exact ⟨⟨a, _, rfl, hS, R⟩, trivial⟩
    | succ i => exact rfl
  · subst e
    obtain ⟨_, r⟩ := evs
    simpa only [Rep] using r
theorem facts (hG : Good) {P : Program} {w : World} {K : PySem.W.Frag} {h : Heap} {mg : Str → Option Value} {f : Addr} (X : K.In h) (G : h.Ns mainGlobals mg) (hfa : mg ("law" : Str) = some (.ref f)) (c : He.SaysD fa fn K) :
    ∃ fd : FuncData, (∀ (s : Shared) (v : Value), BindsTo s fd ⟨[v], []⟩ [("script", v)]) ∧ ∀ base : Heap, K.In base → base.Ns mainGlobals mg → FnOk P w K mg base CX0 11 f fd ["script"] (spW K 1 (W_law (adK K))) := by
  have B := wd_of X G c
  obtain ⟨fd, F⟩ := B.fn_law
  have e := hfa.symm.trans B.glo_law
  cases e
  have b := FunD.bindsA (ps := ["script"]) F fun _ _ _ _ _ _ us hl => match us, hl with | [_], _ => rfl
  exact ⟨fd, fun s v => b s [v] rfl, fun base _ _ => ok_law B F⟩
open PySem PySem.W PySem.Calls PyProof.Rows in
theorem holds (hG : Good) : PySem.Challenge.rw_gridstead_k84_clearing_judge_and_settlem.Holds := by
  w_on; o_law
  refine HandSHeadRun.head_any (r := OpenLaw.row PySem.Challenge.rw_gridstead_k84_clearing_judge_and_settlem) (q := view (OpenLaw.row PySem.Challenge.rw_gridstead_k84_clearing_judge_and_settlem).prog [32]) (H := hk) (ob := ob) (M := 3000) (loose := loose) (d := HandSHeadRun.topDef (OpenLaw.row PySem.Challenge.rw_gridstead_k84_clearing_judge_and_settlem).prog 32) (kwd := []) ob_eq
    (by kernel_rfl) (fun s => by kernel_rfl) run (by kernel_rfl) (by kernel_rfl) (by kernel_rfl) (by rfl) (by first | assumption | decide +kernel) (by decide +kernel) ⟨rfl, rfl, rfl, rfl, rfl, by decide +kernel⟩ ?hw ?hc
  case hw => w_witness2
  case hc =>
    refine L2.walk_ofE (l := PySem.Challenge.rw_gridstead_k84_clearing_judge_and_settlem) (n := 63) (k := 11) (x := "script") (CX := L2.CX0) rfl (by decide) (by kernel_rfl) ⟨rfl, by decide, by decide⟩ ?F (fun _ _ _ _ z => z)
    intro w mg fa h Y G hmg0
    obtain ⟨K, KX, c⟩ := Y
    have hmg : mg ("law" : PySem.Str) = some (.ref fa) := by
      have e : (HandSHeadRun.topDef (OpenLaw.row PySem.Challenge.rw_gridstead_k84_clearing_judge_and_settlem).prog 32).name = ("law" : PySem.Str) := by kernel_rfl
      rw [← e]
      exact hmg0
    obtain ⟨fd, hb, hF⟩ := facts hG (P := (PySem.Challenge.rw_gridstead_k84_clearing_judge_and_settlem).prog) (w := w) KX G hmg c
    exact ⟨K, fd, spW K 1 (W_law (adK K)), KX, hb, fun H a ns hl _ hS => sp_law hG hl hS, hF⟩
end K84
end SH84
section SP84a
set_option linter.all false
set_option Elab.async false
open PySem PySem.Spec PyProof.Rows L2
namespace K84
open Bv
theorem cdl {z : Int} : CDiv z 8 := ⟨by decide, by decide⟩
local macro_rules | `(tactic| eq_refl) => `(tactic| first | refine ⟨rfl, ?_⟩ | refine ⟨_, rfl, ?_⟩ | refine ⟨⟨⟩, ?_⟩ | (apply Gf.mk; try simp only [frameE, argF, List.map_cons, List.map_nil, List.cons_append, List.nil_append, List.length_cons, List.length_nil, Nat.reduceAdd, Nat.reduceSub, List.replicate, sset, clr, clr1, mutE, treeOf, sget, SV.put, nodeSet, clrx, clrx1, hideR, restE, keepD, Int.toNat_zero, Int.reduceToNat, List.set_cons_zero, List.set_cons_succ, reduceIte, Nat.reduceEqDiff, reduceCtorEq, sx]) | refine ⟨cdl, ?_⟩ | refine ⟨by first | decide | (dsimp only; decide), ?_⟩ | refine ⟨Or.inr ⟨by decide, by decide⟩, ?_⟩ | refine ⟨Or.inl ⟨by decide, by decide⟩, ?_⟩ | refine ⟨nd1, ?_⟩ | refine ⟨nd0, ?_⟩ | refine ⟨Nat.le_of_ble_eq_true rfl, ?_⟩)
abbrev BEnv := Bv.Env
/-- the pool -/
abbrev pl (a b c : Int) : OT := .l [.d (.int a), .d (.int b), .d (.int c)]
theorem S_draw {ad : Nat → Addr} {a b c many : Int} {Q : EV → BEnv → Prop} (ha : 0 ≤ a) (hb : 0 ≤ b) (hc : 0 ≤ c) (hm : 0 < many) (hm2 : many < 1000000)
  (h : ∀ a b c r, 0 ≤ a → 0 ≤ b → 0 ≤ c → 0 ≤ r → r < many → Q (.d (.int r)) [SV.t (pl a b c), SV.no]) :
   W_law_draw ad [.t (pl a b c), .t (.d (.int many))] Q := by
  repeat eq_refl
  refine .dec (fun h1 => ?_) (fun h1 => ?_)
  · repeat eq_refl
    refine mod_ hm fun r r0 r1 => ?_
    repeat eq_refl
    refine ⟨⟨hm, by omega⟩, ?_⟩
    repeat eq_refl
    exact h _ _ _ _ (Int.ediv_nonneg ha (by omega)) hb hc r0 r1
  · repeat eq_refl
    refine modI (j := 2147483647) (by decide) fun x x0 x1 => ?_
    repeat eq_refl
    refine ⟨mulS x0 x1, ?_⟩
    repeat eq_refl
    refine modI (j := 2147483629) (by decide) fun y y0 y1 => ?_
    repeat eq_refl
    refine ⟨mulS y0 (by omega), ?_⟩
    repeat eq_refl
    refine modI (j := 2147483587) (by decide) fun z z0 z1 => ?_
    repeat eq_refl
    refine mod_ hm fun r r0 r1 => ?_
    repeat eq_refl
    exact h _ _ _ _ ha hb (by omega) r0 r1
end K84
end SP84a
section SP84b
set_option linter.all false
set_option Elab.async false
open PySem PySem.Spec PyProof.Rows L2
namespace K84
open Bv
local macro_rules | `(tactic| eq_refl) => `(tactic| first | refine ⟨rfl, ?_⟩ | refine ⟨_, rfl, ?_⟩ | refine ⟨⟨⟩, ?_⟩ | (apply Gf.mk; try simp only [frameE, argF, List.map_cons, List.map_nil, List.cons_append, List.nil_append, List.length_cons, List.length_nil, Nat.reduceAdd, Nat.reduceSub, List.replicate, sset, clr, clr1, mutE, treeOf, sget, SV.put, nodeSet, clrx, clrx1, hideR, restE, keepD, refs, Int.toNat_zero, Int.reduceToNat, List.set_cons_zero, List.set_cons_succ, reduceIte, Nat.reduceEqDiff, reduceCtorEq, sx]) | refine ⟨by first | decide | (dsimp only; decide), ?_⟩ | refine ⟨Or.inr ⟨by decide, by decide⟩, ?_⟩ | refine ⟨Or.inl ⟨by decide, by decide⟩, ?_⟩ | refine ⟨nd1, ?_⟩ | refine ⟨nd0, ?_⟩ | refine ⟨Nat.le_of_ble_eq_true rfl, ?_⟩)
theorem S_pick {ad : Nat → Addr} {a b c : Int} {xs : List D} {Q : EV → BEnv → Prop} (ha : 0 ≤ a) (hb : 0 ≤ b) (hc : 0 ≤ c) (h0 : 0 < xs.length) (h1 : xs.length < 1000000)
  (h : ∀ a b c x, 0 ≤ a → 0 ≤ b → 0 ≤ c → x ∈ xs → Q (.d x) [SV.t (pl a b c), SV.no]) : W_law_pick ad [.t (pl a b c), .t (.d (.lst xs))] Q := by
  repeat eq_refl
  refine .mk (S_draw ha hb hc ?_ ?_ fun a b c r ha hb hc r0 r1 => ?_)
  · simp; omega
  · simp; omega
  repeat eq_refl
  obtain ⟨x, hx⟩ := int_get (xs := xs) r0 (by simpa using r1)
  refine ixS_at r0 (map_get hx) ?_
  repeat eq_refl
  exact h _ _ _ _ ha hb hc (List.mem_of_getElem? hx)
theorem S_up {ad : Nat → Addr} {a b c few many : Int} {Q : EV → BEnv → Prop} (ha : 0 ≤ a) (hb : 0 ≤ b) (hc : 0 ≤ c) (hf : 0 < few) (hf2 : few < 1000000) (hm : 0 < many) (hm2 : many < 1000000)
  (h : ∀ a b c r, 0 ≤ a → 0 ≤ b → 0 ≤ c → 0 ≤ r → (r < few ∨ r < many) → Q (.d (.int r)) [SV.t (pl a b c), SV.no, SV.no]) : W_law_up ad [.t (pl a b c), .t (.d (.int few)), .t (.d (.int many))] Q := by
  repeat eq_refl
  refine .mk (S_draw ha hb hc (by decide) (by decide) fun a b c r ha hb hc r0 r1 => ?_)
  repeat eq_refl
  refine .dec (fun _ => ?_) (fun _ => ?_)
  · repeat eq_refl
    refine .mk (S_draw ha hb hc hf hf2 fun a b c r ha hb hc r0 r1 => ?_)
    repeat eq_refl
    exact h _ _ _ _ ha hb hc r0 (.inl r1)
  · repeat eq_refl
    refine .mk (S_draw ha hb hc hm hm2 fun a b c r ha hb hc r0 r1 => ?_)
    repeat eq_refl
    exact h _ _ _ _ ha hb hc r0 (.inr r1)
theorem S_price {ad : Nat → Addr} {a b c mark : Int} {Q : EV → BEnv → Prop} (ha : 0 ≤ a) (hb : 0 ≤ b) (hc : 0 ≤ c)
  (h : ∀ a b c r, 0 ≤ a → 0 ≤ b → 0 ≤ c → -99 ≤ r → r ≤ 99 → Q (.d (.int r)) [SV.t (pl a b c), SV.no]) : W_law_price ad [.t (pl a b c), .t (.d (.int mark))] Q := by
  repeat eq_refl
  refine .mk (S_draw ha hb hc (by decide) (by decide) fun a b c r ha hb hc r0 r1 => ?_)
  repeat eq_refl
  refine .mk (S_pick ha hb hc (xs := [.int mark, .int mark, .int (mark + 1), .int (mark - 1), .int (r - 99)]) (by simp) (by simp) fun a b c x ha hb hc hx => ?_)
  obtain ⟨n, rfl⟩ : ∃ n, x = .int n := by
    simp only [List.mem_cons, List.not_mem_nil, or_false] at hx
    rcases hx with h | h | h | h | h <;> exact ⟨_, h⟩
  repeat eq_refl
  refine h _ _ _ _ ha hb hc ?_ ?_
  · split <;> (try split) <;> omega
  · split <;> (try split) <;> omega
/-- a trade with what is taken of it -/
def trdOk (ms : List Int) (side s u p part : Int) : Prop := ∃ m, 0 ≤ s ∧ ms[s.toNat]? = some m ∧ 1 ≤ u ∧ u ≤ 30 ∧ -99 ≤ p ∧ p ≤ 99 ∧ 0 ≤ part ∧ part ≤ u ∧ (side * p > side * m → part = u) ∧ (side * p < side * m → part = 0)
abbrev dTrd (s u p part : Int) : D := .tup [.tup [.int s, .int u, .int p], .int part]
theorem S_trade {ad : Nat → Addr} {a b c side : Int} {ms : List Int} {Q : EV → BEnv → Prop} (ha : 0 ≤ a) (hb : 0 ≤ b) (hc : 0 ≤ c) (h0 : 0 < ms.length) (h1 : ms.length < 1000) (hs : side = 1 ∨ side = -1)
  (h : ∀ a b c s u p part, 0 ≤ a → 0 ≤ b → 0 ≤ c → trdOk ms side s u p part → Q (.d (dTrd s u p part)) [SV.t (pl a b c), SV.t (.l (ti ms)), SV.no]) :
    W_law_trade ad [.t (pl a b c), .t (.l (ti ms)), .t (.d (.int side))] Q := by
  have hs1 : -(2 ^ 64) < side ∧ side < 2 ^ 64 := by omega
  have tl : (ti ms).length = ms.length := ti_len
  repeat eq_refl
  refine .mk (S_draw ha hb hc (by rw [tl]; omega) (by rw [tl]; omega) fun a b c s ha hb hc s0 s1 => ?_)
  obtain ⟨m, hm⟩ := int_get (xs := ms) s0 (by rw [tl] at s1; exact s1)
  repeat eq_refl
  refine .mk (S_up ha hb hc (by decide) (by decide) (by decide) (by decide) fun a b c u ha hb hc u0 u1 => ?_)
  repeat eq_refl
  refine ixS_at s0 (ti_get hm) ?_
  repeat eq_refl
  refine .mk (S_price ha hb hc fun a b c p ha hb hc p0 p1 => ?_)
  repeat eq_refl
  refine .mk (S_draw ha hb hc (by omega) (by omega) fun a b c r ha hb hc r0 r1 => ?_)
  repeat eq_refl
  refine .mk (S_pick ha hb hc (xs := [.int 0, .int (1 + u), .int r]) (by simp) (by simp) fun a b c x ha hb hc hx => ?_)
  obtain ⟨n, rfl, n0, n1⟩ : ∃ n, x = .int n ∧ 0 ≤ n ∧ n ≤ 1 + u := by
    simp only [List.mem_cons, List.not_mem_nil, or_false] at hx
    rcases hx with h | h | h <;> exact ⟨_, h, by omega, by omega⟩
  repeat eq_refl
  refine ⟨mulL hs1.1 hs1.2, ?_⟩
  repeat eq_refl
  refine ixS_at s0 (ti_get hm) ?_
  repeat eq_refl
  refine ⟨mulL hs1.1 hs1.2, ?_⟩
  repeat eq_refl
  refine .dec (fun g1 => ?_) (fun g1 => ?_)
  all_goals
    repeat eq_refl
    refine ⟨mulL hs1.1 hs1.2, ?_⟩
    repeat eq_refl
    refine ixS_at s0 (ti_get hm) ?_
    repeat eq_refl
    refine ⟨mulL hs1.1 hs1.2, ?_⟩
    repeat eq_refl
    refine .dec (fun g2 => ?_) (fun g2 => ?_)
  all_goals
    repeat eq_refl
    refine h _ _ _ _ _ _ _ ha hb hc ⟨m, s0, hm, by omega, by omega, p0, p1, by omega, by omega, fun g => ?_, fun g => ?_⟩
    all_goals omega
end K84
end SP84b
section SP84c
set_option linter.all false
set_option Elab.async false
set_option maxHeartbeats 1000000
open PySem PySem.Spec PyProof.Rows L2
namespace K84
open Bv
local macro_rules | `(tactic| eq_refl) => `(tactic| first | refine ⟨rfl, ?_⟩ | refine ⟨_, rfl, ?_⟩ | refine ⟨⟨⟩, ?_⟩ | (apply Gf.mk; try simp only [frameE, argF, List.map_cons, List.map_nil, List.cons_append, List.nil_append, List.length_cons, List.length_nil, Nat.reduceAdd, Nat.reduceSub, List.replicate, sset, clr, clr1, mutE, treeOf, sget, SV.put, nodeSet, clrx, clrx1, hideR, restE, keepD, refs, Int.toNat_zero, Int.reduceToNat, List.set_cons_zero, List.set_cons_succ, reduceIte, Nat.reduceEqDiff, reduceCtorEq, sx]) | refine ⟨by first | decide | (dsimp only; decide), ?_⟩ | refine ⟨Or.inr ⟨by decide, by decide⟩, ?_⟩ | refine ⟨Or.inl ⟨by decide, by decide⟩, ?_⟩ | refine ⟨nd1, ?_⟩ | refine ⟨nd0, ?_⟩ | refine ⟨Nat.le_of_ble_eq_true rfl, ?_⟩)
theorem mod_wrap {x L : Int} (h0 : 0 ≤ x) (h1 : x < 2 * L) : x % L = if x < L then x else x - L := by
  by_cases h : x < L
  · rw [if_pos h, Int.emod_eq_of_lt h0 h]
  · rw [if_neg h, ← Int.sub_emod_right, Int.emod_eq_of_lt (by omega) (by omega)]
/-- a link with what flows -/
def tieOk (ms : List Int) (s t p q : Int) : Prop := ∃ m n, 0 ≤ s ∧ ms[s.toNat]? = some m ∧ 0 ≤ t ∧ ms[t.toNat]? = some n ∧ s ≠ t ∧ 0 ≤ p ∧ p ≤ 60 ∧ -p ≤ q ∧ q ≤ p ∧ (m < n → q = p) ∧ (n < m → q = -p)
theorem S_tie {ad : Nat → Addr} {a b c : Int} {ms : List Int} {Q : EV → BEnv → Prop} (ha : 0 ≤ a) (hb : 0 ≤ b) (hc : 0 ≤ c) (h0 : 1 < ms.length) (h1 : ms.length < 1000)
  (h : ∀ a b c s t p q, 0 ≤ a → 0 ≤ b → 0 ≤ c → tieOk ms s t p q → Q (.d (dTrd s t p q)) [SV.t (pl a b c), SV.t (.l (ti ms))]) :
    W_law_tie ad [.t (pl a b c), .t (.l (ti ms))] Q := by
  have tl : (ti ms).length = ms.length := ti_len
  repeat eq_refl
  refine .mk (S_draw ha hb hc (by rw [tl]; omega) (by rw [tl]; omega) fun a b c s ha hb hc s0 s1 => ?_)
  rw [tl] at s1
  obtain ⟨m, hm⟩ := int_get (xs := ms) s0 s1
  repeat eq_refl
  refine .mk (S_draw ha hb hc (by rw [tl]; omega) (by rw [tl]; omega) fun a b c r ha hb hc r0 r1 => ?_)
  rw [tl] at r1
  repeat eq_refl
  refine ⟨by rw [tl]; omega, fun t ht => ?_⟩
  have ht : t = (s + 1 + r) % (ms.length : Int) := by rw [← tl]; exact ht
  rw [mod_wrap (by omega) (by omega)] at ht
  have t0 : 0 ≤ t := by split at ht <;> omega
  have t1 : t < ms.length := by split at ht <;> omega
  have tn : s ≠ t := by split at ht <;> omega
  obtain ⟨n, hn⟩ := int_get (xs := ms) t0 t1
  repeat eq_refl
  refine .mk (S_draw ha hb hc (by decide) (by decide) fun a b c v ha hb hc v0 v1 => ?_)
  repeat eq_refl
  refine .mk (S_pick ha hb hc (xs := [.int 0, .int 1, .int 1, .int 2, .int 9, .int v]) (by simp) (by simp) fun a b c x ha hb hc hx => ?_)
  obtain ⟨p, rfl, p0, p1⟩ : ∃ n, x = .int n ∧ 0 ≤ n ∧ n ≤ 60 := by
    simp only [List.mem_cons, List.not_mem_nil, or_false] at hx
    rcases hx with h | h | h | h | h | h <;> exact ⟨_, h, by omega, by omega⟩
  repeat eq_refl
  refine .mk (S_draw ha hb hc (by omega) (by omega) fun a b c w ha hb hc w0 w1 => ?_)
  repeat eq_refl
  refine .mk (S_pick ha hb hc (xs := [.int 0, .int p, .int (0 - p), .int (w - p)]) (by simp) (by simp) fun a b c x ha hb hc hx => ?_)
  obtain ⟨q, rfl, q0, q1⟩ : ∃ n, x = .int n ∧ -p ≤ n ∧ n ≤ p := by
    simp only [List.mem_cons, List.not_mem_nil, or_false] at hx
    rcases hx with h | h | h | h <;> exact ⟨_, h, by omega, by omega⟩
  repeat eq_refl
  refine ixS_at s0 (ti_get hm) ?_
  repeat eq_refl
  refine ixS_at t0 (ti_get hn) ?_
  repeat eq_refl
  refine .dec (fun g1 => ?_) (fun g1 => ?_)
  all_goals
    repeat eq_refl
    refine ixS_at s0 (ti_get hm) ?_
    repeat eq_refl
    refine ixS_at t0 (ti_get hn) ?_
    repeat eq_refl
    refine .dec (fun g2 => ?_) (fun g2 => ?_)
  all_goals
    repeat eq_refl
    refine h _ _ _ _ _ _ _ ha hb hc ⟨m, n, s0, hm, t0, hn, tn, by omega, by omega, by omega, by omega, fun g => ?_, fun g => ?_⟩
    all_goals omega
/-! trades as numbers -/
structure Tr where
  s : Int
  u : Int
  p : Int
  q : Int
def dT (t : Tr) : D := .tup [.tup [.int t.s, .int t.u, .int t.p], .int t.q]
def tts (ts : List Tr) : List OT := ts.map fun t => .d (dT t)
def sumAt (ts : List Tr) (z : Int) : Int := (ts.map fun t => if t.s = z then t.q else 0).sum
theorem sumAt_ins {ts : List Tr} {t : Tr} {z : Int} (k : Nat) : sumAt (ts.take k ++ [t] ++ ts.drop k) z = sumAt ts z + if t.s = z then t.q else 0 := by
  have e : sumAt ts z = sumAt (ts.take k ++ ts.drop k) z := by rw [List.take_append_drop]
  rw [e]
  simp only [sumAt, List.map_append, List.sum_append, List.map_cons, List.map_nil, List.sum_cons, List.sum_nil]
  omega
theorem tts_len {ts : List Tr} : (tts ts).length = ts.length := by simp [tts]
theorem tts_ins {ts : List Tr} {t : Tr} {k : Nat} : (tts ts).take k ++ [.d (dT t)] ++ (tts ts).drop k = tts (ts.take k ++ [t] ++ ts.drop k) := by simp [tts]
inductive T4 : List SV → Prop where
  | n : T4 [SV.no, SV.no, SV.no, SV.no]
  | i (d : D) : T4 [SV.t (.d d), SV.no, SV.no, SV.no]
  | f (d1 d2 d3 d4 : D) : T4 [SV.t (.d d1), SV.t (.d d2), SV.t (.d d3), SV.t (.d d4)]
def flI (ms : List Int) (spot side many : Int) (ts : List Tr) (n : Nat) (E : Int → List Tr → Prop) (e : BEnv) : Prop := ∃ a b c m' ts' tail, e = [SV.a (pl a b c), SV.a (.l (ti ms)), SV.t (.d (.int spot)), SV.a (.l (tts ts')), SV.t (.d (.int m')), SV.t (.d (.int side))] ++ tail ∧
  T4 tail ∧ 0 ≤ a ∧ 0 ≤ b ∧ 0 ≤ c ∧ 0 ≤ m' ∧ E m' ts' ∧
  ts'.length + n ≤ ts.length + 13 ∧ (∀ t ∈ ts', t ∈ ts ∨ trdOk ms side t.s t.u t.p t.q) ∧ (∀ z, sumAt ts' z + (if spot = z then m' else 0) = sumAt ts z + if spot = z then many else 0) ∧ ts.length ≤ ts'.length
theorem S_filled {ad : Nat → Addr} {a b c spot side many : Int} {ms : List Int} {ts : List Tr} {m : Int} {Q : EV → BEnv → Prop} (ha : 0 ≤ a) (hb : 0 ≤ b) (hc : 0 ≤ c) (s0 : 0 ≤ spot) (hm : ms[spot.toNat]? = some m) (m0 : -99 ≤ m) (m1 : m ≤ 99) (hs : side = 1 ∨ side = -1) (hy : 0 ≤ many) (hl : ts.length ≤ 1000)
  (h : ∀ a b c ts', 0 ≤ a → 0 ≤ b → 0 ≤ c → ts'.length ≤ ts.length + 13 → (∀ t ∈ ts', t ∈ ts ∨ trdOk ms side t.s t.u t.p t.q) → (13 ≤ ts'.length ∨ ∀ z, sumAt ts' z = sumAt ts z + if spot = z then many else 0) → ts.length ≤ ts'.length →
    Q (.s 3) [SV.t (pl a b c), SV.t (.l (ti ms)), SV.no, SV.t (.l (tts ts')), SV.no, SV.no]) :
    W_law_filled ad [.t (pl a b c), .t (.l (ti ms)), .t (.d (.int spot)), .t (.l (tts ts)), .t (.d (.int many)), .t (.d (.int side))] Q := by
  refine ⟨⟨by decide, by decide⟩, ?_⟩
  refine ⟨?_⟩
  refine for_gen (flI ms spot side many ts 0 fun m' ts' => m' = 0 ∨ 13 ≤ ts'.length) (fun C hC hn => ?_) ?_
  · refine for_ind2 (fun items => flI ms spot side many ts items.length fun _ ts' => 13 ≤ items.length + ts'.length) ?_ ?_ ?_
    · rintro x r e C' ⟨a, b, c, m', ts', tail, rfl, ht, ha, hb, hc, hm0, hlo, hhi, hok, hsum, hge⟩ cr cb ih ih2 fg fg2
      simp only [List.length_cons] at hlo hhi
      cases ht
      all_goals
        simp only [List.cons_append, List.nil_append]
        refine ⟨⟨⟩, ?_⟩
        repeat eq_refl
        refine .dec (fun g => ?_) (fun g => ?_)
        · repeat eq_refl
          rw [cb]
          refine hn _ ⟨a, b, c, m', ts', _, rfl, ?_, ha, hb, hc, hm0, .inl g, by omega, hok, hsum, hge⟩
          first | exact .i _ | exact .f _ _ _ _
        · repeat eq_refl
          generalize hp : (if m' < 30 then m' else 30) = pt
          have p1 : 1 ≤ pt ∧ pt ≤ 30 ∧ pt ≤ m' := by split at hp <;> omega
          refine ixS_at s0 (ti_get hm) ?_
          repeat eq_refl
          refine .mk (S_draw ha hb hc (by decide) (by decide) fun a b c r ha hb hc r0 r1 => ?_)
          repeat eq_refl
          refine ⟨mulL (by omega) (by omega), ?_⟩
          repeat eq_refl
          generalize hq : (if (if m + side * r < 99 then m + side * r else 99) > -99 then (if m + side * r < 99 then m + side * r else 99) else -99) = pr
          have q1 : -99 ≤ pr ∧ pr ≤ 99 ∧ (side = 1 → m ≤ pr) ∧ (side = -1 → pr ≤ m) := by
            rcases hs with rfl | rfl <;> (split at hq <;> split at hq <;> omega)
          refine ixS_at s0 (ti_get hm) ?_
          repeat eq_refl
          refine .dec (fun g3 => ?_) (fun g3 => ?_)
          · repeat eq_refl
            refine .mk (S_draw ha hb hc (by omega) (by omega) fun a b c v ha hb hc v0 v1 => ?_)
            repeat eq_refl
            refine .mk (S_pick ha hb hc (xs := [.int 0, .int (30 - pt), .int v]) (by simp) (by simp) fun a b c x ha hb hc hx => ?_)
            obtain ⟨n, rfl, n0, n1⟩ : ∃ n, x = .int n ∧ 0 ≤ n ∧ n ≤ 30 - pt := by
              simp only [List.mem_cons, List.not_mem_nil, or_false] at hx
              rcases hx with h | h | h <;> exact ⟨_, h, by omega, by omega⟩
            repeat eq_refl
            refine .mk (S_draw ha hb hc (by rw [tts_len]; omega) (by rw [tts_len]; omega) fun a b c k ha hb hc k0 k1 => ?_)
            rw [tts_len] at k1
            repeat eq_refl
            refine ⟨by rw [tts_len]; omega, k0, by omega, ?_⟩
            repeat eq_refl
            refine ih _ ⟨a, b, c, m' - pt, ts'.take k.toNat ++ [⟨spot, pt + n, pr, pt⟩] ++ ts'.drop k.toNat, _, ?_, .f x (.int pt) (.int pr) (.int (pt + n)), ha, hb, hc, by omega, ?_, ?_, ?_, ?_, ?_⟩
            · rw [← tts_ins]; exact rfl
            · simp only [List.length_append, List.length_cons, List.length_nil, List.length_take, List.length_drop]; omega
            · simp only [List.length_append, List.length_cons, List.length_nil, List.length_take, List.length_drop]; omega
            · intro t ht
              rcases List.mem_append.mp ht with ht | ht
              · rcases List.mem_append.mp ht with ht | ht
                · exact hok t (List.mem_of_mem_take ht)
                · have := List.mem_singleton.mp ht
                  subst this
                  right
                  refine ⟨m, s0, hm, ?_, ?_, q1.1, q1.2.1, ?_, ?_, fun g => ?_, fun g => ?_⟩
                  all_goals dsimp only at *
                  all_goals rcases hs with hs | hs
                  all_goals subst hs
                  all_goals omega
              · exact hok t (List.mem_of_mem_drop ht)
            · intro z
              rw [sumAt_ins]
              have := hsum z
              dsimp only
              by_cases hz : spot = z
              · simp only [hz, if_true] at this ⊢; omega
              · simp only [hz, if_false] at this ⊢; omega
            · simp only [List.length_append, List.length_cons, List.length_nil, List.length_take, List.length_drop]; omega
          · repeat eq_refl
            refine .mk (S_draw ha hb hc (by rw [tts_len]; omega) (by rw [tts_len]; omega) fun a b c k ha hb hc k0 k1 => ?_)
            rw [tts_len] at k1
            repeat eq_refl
            refine ⟨by rw [tts_len]; omega, k0, by omega, ?_⟩
            repeat eq_refl
            refine ih _ ⟨a, b, c, m' - pt, ts'.take k.toNat ++ [⟨spot, pt, pr, pt⟩] ++ ts'.drop k.toNat, _, ?_, .f x (.int pt) (.int pr) (.int pt), ha, hb, hc, by omega, ?_, ?_, ?_, ?_, ?_⟩
            · rw [← tts_ins]; exact rfl
            · simp only [List.length_append, List.length_cons, List.length_nil, List.length_take, List.length_drop]; omega
            · simp only [List.length_append, List.length_cons, List.length_nil, List.length_take, List.length_drop]; omega
            · intro t ht
              rcases List.mem_append.mp ht with ht | ht
              · rcases List.mem_append.mp ht with ht | ht
                · exact hok t (List.mem_of_mem_take ht)
                · have := List.mem_singleton.mp ht
                  subst this
                  right
                  refine ⟨m, s0, hm, ?_, ?_, q1.1, q1.2.1, ?_, ?_, fun g => ?_, fun g => ?_⟩
                  all_goals dsimp only at *
                  all_goals rcases hs with hs | hs
                  all_goals subst hs
                  all_goals omega
              · exact hok t (List.mem_of_mem_drop ht)
            · intro z
              rw [sumAt_ins]
              have := hsum z
              dsimp only
              by_cases hz : spot = z
              · simp only [hz, if_true] at this ⊢; omega
              · simp only [hz, if_false] at this ⊢; omega
            · simp only [List.length_append, List.length_cons, List.length_nil, List.length_take, List.length_drop]; omega
    · rintro e ⟨a, b, c, m', ts', tail, rfl, ht, ha, hb, hc, hm0, hlo, hhi, hok, hsum, hge⟩
      exact ⟨⟨⟩, hn _ ⟨a, b, c, m', ts', tail, rfl, ht, ha, hb, hc, hm0, .inr (by simpa using hlo), hhi, hok, hsum, hge⟩⟩
    · refine ⟨a, b, c, many, ts, _, rfl, .n, ha, hb, hc, hy, ?_, ?_, fun t ht => .inl ht, fun z => rfl, Nat.le_refl _⟩
      · rw [ups_length]; show 13 ≤ 13 + ts.length; omega
      · rw [ups_length]; exact Nat.le_refl _
  · rintro e ⟨a, b, c, m', ts', tail, rfl, ht, ha, hb, hc, hm0, hlo, hhi, hok, hsum, hge⟩
    cases ht
    all_goals
      simp only [List.cons_append, List.nil_append]
      repeat eq_refl
      refine h _ _ _ _ ha hb hc (by omega) hok ?_ hge
      rcases hlo with q | q
      · subst q
        exact .inr fun z => by have := hsum z; simpa using this
      · exact .inl q
end K84
end SP84c
section SP84d
set_option linter.all false
set_option Elab.async false
set_option maxHeartbeats 1000000
open PySem PySem.Spec PyProof.Rows L2
namespace K84
open Bv

local macro_rules | `(tactic| eq_refl) => `(tactic| first | refine ⟨rfl, ?_⟩ | refine ⟨_, rfl, ?_⟩ | refine ⟨⟨⟩, ?_⟩ | (apply Gf.mk; try simp only [frameE, argF, List.map_cons, List.map_nil, List.cons_append, List.nil_append, List.length_cons, List.length_nil, Nat.reduceAdd, Nat.reduceSub, List.replicate, sset, clr, clr1, mutE, treeOf, sget, SV.put, nodeSet, clrx, clrx1, hideR, restE, keepD, refs, Int.toNat_zero, Int.reduceToNat, List.set_cons_zero, List.set_cons_succ, reduceIte, Nat.reduceEqDiff, reduceCtorEq, sx]) | refine ⟨by first | decide | (dsimp only; decide), ?_⟩ | refine ⟨Or.inr ⟨by decide, by decide⟩, ?_⟩ | refine ⟨Or.inl ⟨by decide, by decide⟩, ?_⟩ | refine ⟨nd1, ?_⟩ | refine ⟨nd0, ?_⟩ | refine ⟨Nat.le_of_ble_eq_true rfl, ?_⟩)


def addAt (l : List Int) (i v : Int) : List Int := l.set i.toNat ((l[i.toNat]?.getD 0) + v)
def nTie (n : List Int) (t : Tr) : List Int := addAt (addAt n t.s (-t.q)) t.u t.q
def nAsk (n : List Int) (t : Tr) : List Int := addAt n t.s (-t.q)
def nOff (n : List Int) (t : Tr) : List Int := addAt n t.s t.q
def netF (z : Int) (ties asks offs : List Tr) : List Int := offs.foldl nOff (asks.foldl nAsk (ties.foldl nTie (List.replicate z.toNat 0)))
theorem addAt_len {l : List Int} {i v : Int} : (addAt l i v).length = l.length := by simp [addAt]
theorem addAt_eq {l : List Int} {i v w : Int} (h : l[i.toNat]? = some w) : addAt l i v = l.set i.toNat (w + v) := by simp [addAt, h]
def fl : Option D → SV
  | none => .no
  | some d => .t (.d d)
theorem allD_tts {ts : List Tr} : allD (tts ts) = some (ts.map dT) := by
  have : tts ts = (ts.map dT).map .d := by simp [tts]
  rw [this]; exact allD_map _
theorem fold_len {α : Type} {f : List Int → α → List Int} (h : ∀ n t, (f n t).length = n.length) : ∀ (ts : List α) (n : List Int), (ts.foldl f n).length = n.length
  | [], _ => rfl
  | t :: ts, n => (fold_len h ts (f n t)).trans (h n t)
theorem gate2 {A : BEnv → Prop} {e : BEnv} (h : A e) : Gf A e := .mk h
def inZ (z : Int) (t : Tr) : Prop := 0 ≤ t.s ∧ t.s < z

def JD (z : Int) (ties asks offs : List Tr) (net : List Int) (o : Nat) (e : BEnv) : Prop := ∃ o1 o2 o3 o4, e = [SV.t (.d (.int z)), SV.t (.d (.lst (ties.map dT))), SV.t (.d (.lst (asks.map dT))), SV.t (.d (.lst (offs.map dT))), SV.t (.l (ti net)), SV.no, fl o1, fl o2, fl o3, fl o4] ∧ (o ≤ 1 → o3 = none) ∧ (o ≤ 2 → o4 = none)
def ID (z : Int) (ties asks offs : List Tr) (f : List Int → Tr → List Int) (goal : List Int) (ok : Tr → Prop) (o : Nat) (items : List D) (e : BEnv) : Prop := ∃ (ts : List Tr) (net : List Int), items = ts.map dT ∧ ts.foldl f net = goal ∧ net.length = z.toNat ∧ (∀ t ∈ ts, ok t) ∧ JD z ties asks offs net o e
theorem S_netD {ad : Nat → Addr} {z : Int} {ties asks offs : List Tr} {Q : EV → BEnv → Prop} (hz : 0 ≤ z) (hz2 : z ≤ 1000) (h1 : ∀ t ∈ ties, inZ z t ∧ 0 ≤ t.u ∧ t.u < z) (h2 : ∀ t ∈ asks, inZ z t) (h3 : ∀ t ∈ offs, inZ z t)
  (h : Q (.o (.l (ti (netF z ties asks offs)))) [SV.no, SV.no, SV.no, SV.no]) :
    W_law_net ad [SV.t (.d (.int z)), SV.t (.d (.lst (ties.map dT))), SV.t (.d (.lst (asks.map dT))), SV.t (.d (.lst (offs.map dT)))] Q := by
  repeat eq_refl
  refine ⟨⟨by omega, by omega⟩, ?_⟩
  refine ⟨?_⟩
  refine lc_ind (fun items acc e => e = [SV.t (.d (.int z)), SV.t (.d (.lst (ties.map dT))), SV.t (.d (.lst (asks.map dT))), SV.t (.d (.lst (offs.map dT))), SV.no, SV.no, SV.no, SV.no, SV.no, SV.no] ∧ ∃ k, acc = ti (List.replicate k 0) ∧ k + items.length = z.toNat) ?_ ?_ ⟨rfl, 0, rfl, by rw [ups_length]; simp⟩
  · rintro x r acc e ⟨rfl, k, rfl, hk⟩ ih
    refine ⟨⟨⟩, ?_⟩
    repeat eq_refl
    refine .t rfl ?_
    repeat eq_refl
    refine ⟨by rw [ti_len, List.length_replicate]; simp only [List.length_cons] at hk; omega, ?_⟩
    refine ih _ _ ⟨rfl, k + 1, ?_, by simp only [List.length_cons] at hk; omega⟩
    simp [ti, List.replicate_succ']
  rintro acc e ⟨rfl, k, rfl, hk⟩
  have hk : k = z.toNat := by simpa using hk
  subst hk
  refine ⟨⟨⟩, ?_⟩
  repeat eq_refl
  refine ⟨?_⟩
  refine for_gen (JD z ties asks offs (ties.foldl nTie (List.replicate z.toNat 0)) 1) (fun C hC hn => ?_) ?_
  · refine for_ind2 (ID z ties asks offs nTie (ties.foldl nTie (List.replicate z.toNat 0)) (fun t => inZ z t ∧ 0 ≤ t.u ∧ t.u < z) 1) ?_ ?_ ⟨ties, _, rfl, rfl, by simp, h1, none, none, none, none, rfl, fun _ => rfl, fun _ => rfl⟩
    · rintro x r e C' ⟨ts, net, hi, hf, hl, hok, o1, o2, o3, o4, rfl, h3, h4⟩ cr cb ih ih2 fg fg2
      cases ts with
      | nil => cases hi
      | cons t ts =>
        cases hi
        cases h3 (by decide); cases h4 (by decide)
        obtain ⟨⟨a0, a1⟩, a2, a3⟩ := hok t List.mem_cons_self
        obtain ⟨v, hv⟩ := int_get (xs := net) a0 (by omega)
        have e1 : net.set t.s.toNat (v - t.q) = addAt net t.s (-t.q) := by rw [addAt_eq hv, Int.sub_eq_add_neg]
        obtain ⟨w, hw⟩ := int_get (xs := addAt net t.s (-t.q)) a2 (by rw [addAt_len]; omega)
        have e2 : (addAt net t.s (-t.q)).set t.u.toNat (w + t.q) = nTie net t := by rw [nTie, addAt_eq hw]
        cases o1 <;> cases o2
        all_goals
          simp only [fl]
          refine ⟨⟨⟩, ?_⟩
          repeat eq_refl
          refine ixS_at a0 (ti_get hv) ?_
          repeat eq_refl
          refine ixS_at a0 (ti_get hv) ?_
          repeat eq_refl
          rw [ti_set, e1]
          refine ixS_at a2 (ti_get hw) ?_
          repeat eq_refl
          refine ixS_at a2 (ti_get hw) ?_
          repeat eq_refl
          refine ih _ ⟨ts, nTie net t, rfl, hf, by simp only [nTie, addAt_len]; exact hl, fun y hy => hok y (List.mem_cons_of_mem _ hy), ?_⟩
          rw [ti_set, e2]
          exact ⟨some _, some _, none, none, rfl, fun _ => rfl, fun _ => rfl⟩
    · rintro e ⟨ts, net, hi, hf, hl, hok, hJ⟩
      cases ts with
      | cons t ts => cases hi
      | nil =>
        refine ⟨⟨⟩, hn _ ?_⟩
        rw [← hf]; exact hJ
  rintro e ⟨o1, o2, o3, o4, rfl, h3', h4'⟩
  cases h3' (by decide); cases h4' (by decide)
  have l1 : (ties.foldl nTie (List.replicate z.toNat 0)).length = z.toNat := fold_len (fun n t => by simp [nTie, addAt_len]) _ _ |>.trans (by simp)
  generalize hg1 : ties.foldl nTie (List.replicate z.toNat 0) = N1 at l1
  refine gate2 ⟨?_⟩
  refine for_gen (JD z ties asks offs (asks.foldl nAsk N1) 2) (fun C hC hn => ?_) ?_
  · refine for_ind2 (ID z ties asks offs nAsk (asks.foldl nAsk N1) (inZ z) 2) ?_ ?_ ⟨asks, _, rfl, rfl, l1, h2, o1, o2, none, none, rfl, fun _ => rfl, fun _ => rfl⟩
    · rintro x r e C' ⟨ts, net, hi, hf, hl, hok, o1, o2, o3, o4, rfl, h3, h4⟩ cr cb ih ih2 fg fg2
      cases ts with
      | nil => cases hi
      | cons t ts =>
        cases hi
        cases h4 (by decide)
        obtain ⟨a0, a1⟩ := hok t List.mem_cons_self
        obtain ⟨v, hv⟩ := int_get (xs := net) a0 (by omega)
        have e1 : net.set t.s.toNat (v - t.q) = nAsk net t := by rw [nAsk, addAt_eq hv, Int.sub_eq_add_neg]
        cases o1 <;> cases o2 <;> cases o3
        all_goals
          simp only [fl]
          refine ⟨⟨⟩, ?_⟩
          repeat eq_refl
          refine ixS_at a0 (ti_get hv) ?_
          repeat eq_refl
          refine ixS_at a0 (ti_get hv) ?_
          repeat eq_refl
          refine ih _ ⟨ts, nAsk net t, rfl, hf, by simp only [nAsk, addAt_len]; exact hl, fun y hy => hok y (List.mem_cons_of_mem _ hy), ?_⟩
          rw [ti_set, e1]
          first
            | exact ⟨none, some _, some _, none, rfl, (fun h => absurd h (by decide)), fun _ => rfl⟩
            | exact ⟨some _, some _, some _, none, rfl, (fun h => absurd h (by decide)), fun _ => rfl⟩
    · rintro e ⟨ts, net, hi, hf, hl, hok, hJ⟩
      cases ts with
      | cons t ts => cases hi
      | nil =>
        refine ⟨⟨⟩, hn _ ?_⟩
        rw [← hf]; exact hJ
  rintro e ⟨o1, o2, o3, o4, rfl, h3', h4'⟩
  cases h4' (by decide)
  have l2 : (asks.foldl nAsk N1).length = z.toNat := fold_len (fun n t => by simp [nAsk, addAt_len]) _ _ |>.trans l1
  generalize hg2 : asks.foldl nAsk N1 = N2 at l2
  refine gate2 ⟨?_⟩
  refine for_gen (JD z ties asks offs (offs.foldl nOff N2) 3) (fun C hC hn => ?_) ?_
  · refine for_ind2 (ID z ties asks offs nOff (offs.foldl nOff N2) (inZ z) 3) ?_ ?_ ⟨offs, _, rfl, rfl, l2, h3, o1, o2, o3, none, rfl, (fun h => absurd h (by decide)), fun _ => rfl⟩
    · rintro x r e C' ⟨ts, net, hi, hf, hl, hok, o1, o2, o3, o4, rfl, h3, h4⟩ cr cb ih ih2 fg fg2
      cases ts with
      | nil => cases hi
      | cons t ts =>
        cases hi
        obtain ⟨a0, a1⟩ := hok t List.mem_cons_self
        obtain ⟨v, hv⟩ := int_get (xs := net) a0 (by omega)
        have e1 : net.set t.s.toNat (v + t.q) = nOff net t := by rw [nOff, addAt_eq hv]
        cases o1 <;> cases o2 <;> cases o3 <;> cases o4
        all_goals
          simp only [fl]
          refine ⟨⟨⟩, ?_⟩
          repeat eq_refl
          refine ixS_at a0 (ti_get hv) ?_
          repeat eq_refl
          refine ixS_at a0 (ti_get hv) ?_
          repeat eq_refl
          refine ih _ ⟨ts, nOff net t, rfl, hf, by simp only [nOff, addAt_len]; exact hl, fun y hy => hok y (List.mem_cons_of_mem _ hy), ?_⟩
          rw [ti_set, e1]
          first
            | exact ⟨none, some _, none, some _, rfl, (fun h => absurd h (by decide)), (fun h => absurd h (by decide))⟩
            | exact ⟨none, some _, some _, some _, rfl, (fun h => absurd h (by decide)), (fun h => absurd h (by decide))⟩
            | exact ⟨some _, some _, none, some _, rfl, (fun h => absurd h (by decide)), (fun h => absurd h (by decide))⟩
            | exact ⟨some _, some _, some _, some _, rfl, (fun h => absurd h (by decide)), (fun h => absurd h (by decide))⟩
    · rintro e ⟨ts, net, hi, hf, hl, hok, hJ⟩
      cases ts with
      | cons t ts => cases hi
      | nil =>
        refine ⟨⟨⟩, hn _ ?_⟩
        rw [← hf]; exact hJ
  rintro e ⟨o1, o2, o3, o4, rfl, h3', h4'⟩
  refine gate2 ?_
  repeat eq_refl
  have : netF z ties asks offs = offs.foldl nOff N2 := by rw [netF, hg1, hg2]
  rw [← this]
  exact h

end K84
end SP84d
section SP84e
set_option linter.all false
set_option Elab.async false
set_option maxHeartbeats 1000000
open PySem PySem.Spec PyProof.Rows L2
namespace K84
open Bv

local macro_rules | `(tactic| eq_refl) => `(tactic| first | refine ⟨rfl, ?_⟩ | refine ⟨_, rfl, ?_⟩ | refine ⟨⟨⟩, ?_⟩ | (apply Gf.mk; try simp only [frameE, argF, List.map_cons, List.map_nil, List.cons_append, List.nil_append, List.length_cons, List.length_nil, Nat.reduceAdd, Nat.reduceSub, List.replicate, sset, clr, clr1, mutE, treeOf, sget, SV.put, nodeSet, clrx, clrx1, hideR, restE, keepD, refs, Int.toNat_zero, Int.reduceToNat, List.set_cons_zero, List.set_cons_succ, reduceIte, Nat.reduceEqDiff, reduceCtorEq, sx]) | refine ⟨by first | decide | (dsimp only; decide), ?_⟩ | refine ⟨Or.inr ⟨by decide, by decide⟩, ?_⟩ | refine ⟨Or.inl ⟨by decide, by decide⟩, ?_⟩ | refine ⟨nd1, ?_⟩ | refine ⟨nd0, ?_⟩ | refine ⟨Nat.le_of_ble_eq_true rfl, ?_⟩)


theorem seqFor {i : WI} {g : WG} {b r : WS} {e : BEnv} {P : PP} (h : i e fun items Q e' => Lp (wFor g b Q items e' { P with nx := Gf fun e => r e P })) : wSeq (wForS i g b) r e P := h
theorem itSl_own {j : Nat} {e : BEnv} {ts : List Tr} {QI : List D → (BEnv → Prop) → BEnv → Prop} (h : sget e j = SV.a (.l (tts ts))) (q : QI (ts.map dT) (fun e' => sget e' j = SV.a (.l (tts ts))) e) : wItSl j e QI := by
  unfold wItSl
  rw [h]
  show (match allD (tts ts) with | some xs => QI xs (fun e' => sget e' j = SV.a (.l (tts ts))) e | none => False)
  rw [allD_tts]
  exact q

def JO (z : Int) (ties asks offs : List Tr) (net : List Int) (o : Nat) (e : BEnv) : Prop := ∃ o1 o2 o3 o4, e = [SV.t (.d (.int z)), SV.a (.l (tts ties)), SV.a (.l (tts asks)), SV.a (.l (tts offs)), SV.t (.l (ti net)), SV.no, fl o1, fl o2, fl o3, fl o4] ∧ (o ≤ 1 → o3 = none) ∧ (o ≤ 2 → o4 = none)
def IO (z : Int) (ties asks offs : List Tr) (f : List Int → Tr → List Int) (goal : List Int) (ok : Tr → Prop) (o : Nat) (items : List D) (e : BEnv) : Prop := ∃ (ts : List Tr) (net : List Int), items = ts.map dT ∧ ts.foldl f net = goal ∧ net.length = z.toNat ∧ (∀ t ∈ ts, ok t) ∧ JO z ties asks offs net o e
theorem S_netO {ad : Nat → Addr} {z : Int} {ties asks offs : List Tr} {Q : EV → BEnv → Prop} (hz : 0 ≤ z) (hz2 : z ≤ 1000) (h1 : ∀ t ∈ ties, inZ z t ∧ 0 ≤ t.u ∧ t.u < z) (h2 : ∀ t ∈ asks, inZ z t) (h3 : ∀ t ∈ offs, inZ z t)
  (h : Q (.o (.l (ti (netF z ties asks offs)))) [SV.no, SV.t (.l (tts ties)), SV.t (.l (tts asks)), SV.t (.l (tts offs))]) :
    W_law_net ad [SV.t (.d (.int z)), SV.t (.l (tts ties)), SV.t (.l (tts asks)), SV.t (.l (tts offs))] Q := by
  repeat eq_refl
  refine ⟨⟨by omega, by omega⟩, ?_⟩
  refine ⟨?_⟩
  refine lc_ind (fun items acc e => e = [SV.t (.d (.int z)), SV.a (.l (tts ties)), SV.a (.l (tts asks)), SV.a (.l (tts offs)), SV.no, SV.no, SV.no, SV.no, SV.no, SV.no] ∧ ∃ k, acc = ti (List.replicate k 0) ∧ k + items.length = z.toNat) ?_ ?_ ⟨rfl, 0, rfl, by rw [ups_length]; simp⟩
  · rintro x r acc e ⟨rfl, k, rfl, hk⟩ ih
    refine ⟨⟨⟩, ?_⟩
    repeat eq_refl
    refine .t rfl ?_
    repeat eq_refl
    refine ⟨by rw [ti_len, List.length_replicate]; simp only [List.length_cons] at hk; omega, ?_⟩
    refine ih _ _ ⟨rfl, k + 1, ?_, by simp only [List.length_cons] at hk; omega⟩
    simp [ti, List.replicate_succ']
  rintro acc e ⟨rfl, k, rfl, hk⟩
  have hk : k = z.toNat := by simpa using hk
  subst hk
  refine ⟨⟨⟩, ?_⟩
  repeat eq_refl
  refine seqFor (itSl_own (ts := ties) rfl ?_)
  refine ⟨?_⟩
  refine for_gen (JO z ties asks offs (ties.foldl nTie (List.replicate z.toNat 0)) 1) (fun C hC hn => ?_) ?_
  · refine for_ind2 (IO z ties asks offs nTie (ties.foldl nTie (List.replicate z.toNat 0)) (fun t => inZ z t ∧ 0 ≤ t.u ∧ t.u < z) 1) ?_ ?_ ⟨ties, _, rfl, rfl, by simp, h1, none, none, none, none, rfl, fun _ => rfl, fun _ => rfl⟩
    · rintro x r e C' ⟨ts, net, hi, hf, hl, hok, o1, o2, o3, o4, rfl, h3, h4⟩ cr cb ih ih2 fg fg2
      cases ts with
      | nil => cases hi
      | cons t ts =>
        cases hi
        cases h3 (by decide); cases h4 (by decide)
        obtain ⟨⟨a0, a1⟩, a2, a3⟩ := hok t List.mem_cons_self
        obtain ⟨v, hv⟩ := int_get (xs := net) a0 (by omega)
        have e1 : net.set t.s.toNat (v - t.q) = addAt net t.s (-t.q) := by rw [addAt_eq hv, Int.sub_eq_add_neg]
        obtain ⟨w, hw⟩ := int_get (xs := addAt net t.s (-t.q)) a2 (by rw [addAt_len]; omega)
        have e2 : (addAt net t.s (-t.q)).set t.u.toNat (w + t.q) = nTie net t := by rw [nTie, addAt_eq hw]
        cases o1 <;> cases o2
        all_goals
          simp only [fl]
          refine ⟨rfl, ?_⟩
          repeat eq_refl
          refine ixS_at a0 (ti_get hv) ?_
          repeat eq_refl
          refine ixS_at a0 (ti_get hv) ?_
          repeat eq_refl
          rw [ti_set, e1]
          refine ixS_at a2 (ti_get hw) ?_
          repeat eq_refl
          refine ixS_at a2 (ti_get hw) ?_
          repeat eq_refl
          refine ih _ ⟨ts, nTie net t, rfl, hf, by simp only [nTie, addAt_len]; exact hl, fun y hy => hok y (List.mem_cons_of_mem _ hy), ?_⟩
          rw [ti_set, e2]
          exact ⟨some _, some _, none, none, rfl, fun _ => rfl, fun _ => rfl⟩
    · rintro e ⟨ts, net, hi, hf, hl, hok, hJ⟩
      cases ts with
      | cons t ts => cases hi
      | nil =>
        rw [← hf] at hn
        refine ⟨?_, hn _ hJ⟩
        obtain ⟨o1, o2, o3, o4, rfl, _, _⟩ := hJ
        exact rfl
  rintro e ⟨o1, o2, o3, o4, rfl, h3', h4'⟩
  cases h3' (by decide); cases h4' (by decide)
  have l1 : (ties.foldl nTie (List.replicate z.toNat 0)).length = z.toNat := fold_len (fun n t => by simp [nTie, addAt_len]) _ _ |>.trans (by simp)
  generalize hg1 : ties.foldl nTie (List.replicate z.toNat 0) = N1 at l1
  refine gate2 ?_
  refine seqFor (itSl_own (ts := asks) rfl ?_)
  refine ⟨?_⟩
  refine for_gen (JO z ties asks offs (asks.foldl nAsk N1) 2) (fun C hC hn => ?_) ?_
  · refine for_ind2 (IO z ties asks offs nAsk (asks.foldl nAsk N1) (inZ z) 2) ?_ ?_ ⟨asks, _, rfl, rfl, l1, h2, o1, o2, none, none, rfl, fun _ => rfl, fun _ => rfl⟩
    · rintro x r e C' ⟨ts, net, hi, hf, hl, hok, o1, o2, o3, o4, rfl, h3, h4⟩ cr cb ih ih2 fg fg2
      cases ts with
      | nil => cases hi
      | cons t ts =>
        cases hi
        cases h4 (by decide)
        obtain ⟨a0, a1⟩ := hok t List.mem_cons_self
        obtain ⟨v, hv⟩ := int_get (xs := net) a0 (by omega)
        have e1 : net.set t.s.toNat (v - t.q) = nAsk net t := by rw [nAsk, addAt_eq hv, Int.sub_eq_add_neg]
        cases o1 <;> cases o2 <;> cases o3
        all_goals
          simp only [fl]
          refine ⟨rfl, ?_⟩
          repeat eq_refl
          refine ixS_at a0 (ti_get hv) ?_
          repeat eq_refl
          refine ixS_at a0 (ti_get hv) ?_
          repeat eq_refl
          refine ih _ ⟨ts, nAsk net t, rfl, hf, by simp only [nAsk, addAt_len]; exact hl, fun y hy => hok y (List.mem_cons_of_mem _ hy), ?_⟩
          rw [ti_set, e1]
          first
            | exact ⟨none, some _, some _, none, rfl, (fun h => absurd h (by decide)), fun _ => rfl⟩
            | exact ⟨some _, some _, some _, none, rfl, (fun h => absurd h (by decide)), fun _ => rfl⟩
    · rintro e ⟨ts, net, hi, hf, hl, hok, hJ⟩
      cases ts with
      | cons t ts => cases hi
      | nil =>
        rw [← hf] at hn
        refine ⟨?_, hn _ hJ⟩
        obtain ⟨o1, o2, o3, o4, rfl, _, _⟩ := hJ
        exact rfl
  rintro e ⟨o1, o2, o3, o4, rfl, h3', h4'⟩
  cases h4' (by decide)
  have l2 : (asks.foldl nAsk N1).length = z.toNat := fold_len (fun n t => by simp [nAsk, addAt_len]) _ _ |>.trans l1
  generalize hg2 : asks.foldl nAsk N1 = N2 at l2
  refine gate2 ?_
  refine seqFor (itSl_own (ts := offs) rfl ?_)
  refine ⟨?_⟩
  refine for_gen (JO z ties asks offs (offs.foldl nOff N2) 3) (fun C hC hn => ?_) ?_
  · refine for_ind2 (IO z ties asks offs nOff (offs.foldl nOff N2) (inZ z) 3) ?_ ?_ ⟨offs, _, rfl, rfl, l2, h3, o1, o2, o3, none, rfl, (fun h => absurd h (by decide)), fun _ => rfl⟩
    · rintro x r e C' ⟨ts, net, hi, hf, hl, hok, o1, o2, o3, o4, rfl, h3, h4⟩ cr cb ih ih2 fg fg2
      cases ts with
      | nil => cases hi
      | cons t ts =>
        cases hi
        obtain ⟨a0, a1⟩ := hok t List.mem_cons_self
        obtain ⟨v, hv⟩ := int_get (xs := net) a0 (by omega)
        have e1 : net.set t.s.toNat (v + t.q) = nOff net t := by rw [nOff, addAt_eq hv]
        cases o1 <;> cases o2 <;> cases o3 <;> cases o4
        all_goals
          simp only [fl]
          refine ⟨rfl, ?_⟩
          repeat eq_refl
          refine ixS_at a0 (ti_get hv) ?_
          repeat eq_refl
          refine ixS_at a0 (ti_get hv) ?_
          repeat eq_refl
          refine ih _ ⟨ts, nOff net t, rfl, hf, by simp only [nOff, addAt_len]; exact hl, fun y hy => hok y (List.mem_cons_of_mem _ hy), ?_⟩
          rw [ti_set, e1]
          first
            | exact ⟨none, some _, none, some _, rfl, (fun h => absurd h (by decide)), (fun h => absurd h (by decide))⟩
            | exact ⟨none, some _, some _, some _, rfl, (fun h => absurd h (by decide)), (fun h => absurd h (by decide))⟩
            | exact ⟨some _, some _, none, some _, rfl, (fun h => absurd h (by decide)), (fun h => absurd h (by decide))⟩
            | exact ⟨some _, some _, some _, some _, rfl, (fun h => absurd h (by decide)), (fun h => absurd h (by decide))⟩
    · rintro e ⟨ts, net, hi, hf, hl, hok, hJ⟩
      cases ts with
      | cons t ts => cases hi
      | nil =>
        rw [← hf] at hn
        refine ⟨?_, hn _ hJ⟩
        obtain ⟨o1, o2, o3, o4, rfl, _, _⟩ := hJ
        exact rfl
  rintro e ⟨o1, o2, o3, o4, rfl, h3', h4'⟩
  refine gate2 ?_
  repeat eq_refl
  have : netF z ties asks offs = offs.foldl nOff N2 := by rw [netF, hg1, hg2]
  rw [← this]
  exact h

end K84
end SP84e
section SP84m
set_option linter.all false
set_option Elab.async false
open PySem PySem.Spec PyProof.Rows L2
namespace K84
open Bv
theorem addAt_get {l : List Int} {i v j : Int} (hi : 0 ≤ i) (hj : 0 ≤ j) : (addAt l i v)[j.toNat]? = (l[j.toNat]?).map fun w => w + if i = j then v else 0 := by
  unfold addAt
  by_cases h : i = j
  · subst h
    rw [List.getElem?_set_self']
    cases l[i.toNat]? with
    | none => rfl
    | some w => simp
  · have : i.toNat ≠ j.toNat := by omega
    rw [List.getElem?_set_ne this]
    cases l[j.toNat]? with
    | none => rfl
    | some w => simp [h]
def tieAt (ts : List Tr) (j : Int) : Int := (ts.map fun t => (if t.s = j then -t.q else 0) + if t.u = j then t.q else 0).sum
theorem ask_get {j : Int} (hj : 0 ≤ j) : ∀ {ts : List Tr} {net : List Int}, (∀ t ∈ ts, 0 ≤ t.s) → (ts.foldl nAsk net)[j.toNat]? = (net[j.toNat]?).map fun w => w - sumAt ts j
  | [], net, _ => by simp [sumAt]
  | t :: ts, net, h => by
    show (ts.foldl nAsk (nAsk net t))[j.toNat]? = _
    rw [ask_get hj fun y hy => h y (List.mem_cons_of_mem _ hy), nAsk, addAt_get (h t List.mem_cons_self) hj]
    cases net[j.toNat]? with
    | none => rfl
    | some w =>
      simp only [Option.map_some, Option.some.injEq, sumAt, List.map_cons, List.sum_cons]
      split <;> omega
theorem off_get {j : Int} (hj : 0 ≤ j) : ∀ {ts : List Tr} {net : List Int}, (∀ t ∈ ts, 0 ≤ t.s) → (ts.foldl nOff net)[j.toNat]? = (net[j.toNat]?).map fun w => w + sumAt ts j
  | [], net, _ => by simp [sumAt]
  | t :: ts, net, h => by
    show (ts.foldl nOff (nOff net t))[j.toNat]? = _
    rw [off_get hj fun y hy => h y (List.mem_cons_of_mem _ hy), nOff, addAt_get (h t List.mem_cons_self) hj]
    cases net[j.toNat]? with
    | none => rfl
    | some w =>
      simp only [Option.map_some, Option.some.injEq, sumAt, List.map_cons, List.sum_cons]
      split <;> omega
theorem tie_get {j : Int} (hj : 0 ≤ j) : ∀ {ts : List Tr} {net : List Int}, (∀ t ∈ ts, 0 ≤ t.s ∧ 0 ≤ t.u) → (ts.foldl nTie net)[j.toNat]? = (net[j.toNat]?).map fun w => w + tieAt ts j
  | [], net, _ => by simp [tieAt]
  | t :: ts, net, h => by
    show (ts.foldl nTie (nTie net t))[j.toNat]? = _
    rw [tie_get hj fun y hy => h y (List.mem_cons_of_mem _ hy), nTie, addAt_get (h t List.mem_cons_self).2 hj, addAt_get (h t List.mem_cons_self).1 hj]
    cases net[j.toNat]? with
    | none => rfl
    | some w =>
      simp only [Option.map_some, Option.some.injEq, tieAt, List.map_cons, List.sum_cons]
      split <;> split <;> omega
theorem net_get {z j : Int} {ties asks offs : List Tr} (hj : 0 ≤ j) (hz : j < z) (h1 : ∀ t ∈ ties, 0 ≤ t.s ∧ 0 ≤ t.u) (h2 : ∀ t ∈ asks, 0 ≤ t.s) (h3 : ∀ t ∈ offs, 0 ≤ t.s) :
    (netF z ties asks offs)[j.toNat]? = some (tieAt ties j - sumAt asks j + sumAt offs j) := by
  rw [netF, off_get hj h3, ask_get hj h2, tie_get hj h1]
  have : (List.replicate z.toNat (0 : Int))[j.toNat]? = some 0 := by rw [List.getElem?_replicate]; simp; omega
  rw [this]
  simp
theorem netF_len {z : Int} {ties asks offs : List Tr} : (netF z ties asks offs).length = z.toNat := by
  rw [netF]
  refine (fold_len (fun n t => by simp [nOff, addAt_len]) _ _).trans ((fold_len (fun n t => by simp [nAsk, addAt_len]) _ _).trans ((fold_len (fun n t => by simp [nTie, addAt_len]) _ _).trans (by simp)))
end K84
end SP84m
section SP84n
set_option linter.all false
set_option Elab.async false
set_option maxHeartbeats 1000000
open PySem PySem.Spec PyProof.Rows L2
namespace K84
open Bv
local macro_rules | `(tactic| eq_refl) => `(tactic| first | refine ⟨rfl, ?_⟩ | refine ⟨_, rfl, ?_⟩ | refine ⟨⟨⟩, ?_⟩ | (apply Gf.mk; try simp only [frameE, argF, List.map_cons, List.map_nil, List.cons_append, List.nil_append, List.length_cons, List.length_nil, Nat.reduceAdd, Nat.reduceSub, List.replicate, sset, clr, clr1, mutE, treeOf, sget, SV.put, nodeSet, clrx, clrx1, hideR, restE, keepD, refs, Int.toNat_zero, Int.reduceToNat, List.set_cons_zero, List.set_cons_succ, reduceIte, Nat.reduceEqDiff, reduceCtorEq, sx]) | refine ⟨by first | decide | (dsimp only; decide), ?_⟩ | refine ⟨Or.inr ⟨by decide, by decide⟩, ?_⟩ | refine ⟨Or.inl ⟨by decide, by decide⟩, ?_⟩ | refine ⟨nd1, ?_⟩ | refine ⟨nd0, ?_⟩ | refine ⟨Nat.le_of_ble_eq_true rfl, ?_⟩)

theorem resL_tts : ∀ {ts : List Tr}, resL (tts ts) = ts.map dT
  | [] => rfl
  | t :: ts => by show dT t :: resL (tts ts) = _; rw [resL_tts]; exact rfl
theorem sset_sset : ∀ {e : BEnv} {n : Nat} {x y : SV}, sset (sset e n x) n y = sset e n y
  | [], n, _, _ => by cases n <;> exact rfl
  | _ :: _, 0, _, _ => rfl
  | z :: r, n + 1, x, y => by show z :: sset (sset r n x) n y = z :: sset r n y; rw [sset_sset]
theorem clr_sset {m : Nat} {o : OT} : ∀ {e : BEnv} {n : Nat}, clr m (sset e n (.t o)) = sset (clr m e) n (.t o)
  | [], n => by cases n <;> exact rfl
  | _ :: _, 0 => rfl
  | z :: r, n + 1 => by show clr1 m z :: clr m (sset r n (.t o)) = clr1 m z :: sset (clr m r) n (.t o); rw [clr_sset]
/-- [pair[i] for pair in ..] -/
theorem proj_ok {n i : Nat} {f : Tr → D} {e : BEnv} {Q : List OT → BEnv → Prop} (hf : ∀ t, ∃ a b, dT t = .tup [a, b] ∧ (([a, b] : List D)[i]?) = some (f t)) (hi : i < 2) (h1 : clr n e = e) (h2 : sset e n .no = e) (h3 : n < e.length) (h4 : sget e n = .no)  :
    ∀ (ts : List Tr) (acc : List OT), acc.length + ts.length < 1000000 → Q (acc ++ ts.map fun t => .d (f t)) e → wLcG [n] (gN n) wYes (wO (wSubN n (wD (wC (.int (i : Int)))))) pTrue (ts.map dT) acc e Q
  | [], acc, _, q => ⟨⟨⟩, by simpa using q⟩
  | t :: ts, acc, hl, q => by
    simp only [List.length_cons] at hl
    obtain ⟨a, b, e1, e2⟩ := hf t
    have hs : sset (clr n e) n (.t (.d (dT t))) = sset e n (.t (.d (dT t))) := by rw [h1]
    refine ⟨⟨⟩, h3, by rw [h4]; exact rfl, ?_⟩
    rw [hs]
    refine .t rfl ?_
    have g1 : sget (sset e n (.t (.d (dT t)))) n = .t (.d (dT t)) := sget_sset_self h3
    show isNo (sget (sset e n (.t (.d (dT t)))) n) = false ∧ subNQ n _ (.int (i : Int)) (sset e n (.t (.d (dT t))))
    have g2 : nodeOf (sset e n (.t (.d (dT t)))) (.s n) = some (.d (dT t)) := by simp only [nodeOf, g1]
    have hh : hideR (sset e n (.t (.d (dT t)))) [n] = e := by
      show sset (clr n (sset e n (.t (.d (dT t))))) n .no = e
      rw [clr_sset, h1, sset_sset, h2]
    refine ⟨by rw [g1]; exact rfl, ?_⟩
    unfold subNQ
    rw [g2]
    rw [e1] at hh ⊢
    refine ixS_at (o := .d (f t)) (by omega) (map_get (f := OT.d) (xs := [a, b]) (k := i) e2) ?_
    refine ⟨by omega, ?_⟩
    rw [hh]
    exact proj_ok hf hi h1 h2 h3 h4 ts _ (by simp; omega) (by simpa using q)
end K84
end SP84n
section SP84f
set_option linter.all false
set_option Elab.async false
set_option maxHeartbeats 1000000
open PySem PySem.Spec PyProof.Rows L2
namespace K84
open Bv
local macro_rules | `(tactic| eq_refl) => `(tactic| first | refine ⟨rfl, ?_⟩ | refine ⟨_, rfl, ?_⟩ | refine ⟨⟨⟩, ?_⟩ | (apply Gf.mk; try simp only [frameE, argF, List.map_cons, List.map_nil, List.cons_append, List.nil_append, List.length_cons, List.length_nil, Nat.reduceAdd, Nat.reduceSub, List.replicate, sset, clr, clr1, mutE, treeOf, sget, SV.put, nodeSet, clrx, clrx1, hideR, restE, keepD, refs, Int.toNat_zero, Int.reduceToNat, List.set_cons_zero, List.set_cons_succ, reduceIte, Nat.reduceEqDiff, reduceCtorEq, sx]) | refine ⟨by first | decide | (dsimp only; decide), ?_⟩ | refine ⟨Or.inr ⟨by decide, by decide⟩, ?_⟩ | refine ⟨Or.inl ⟨by decide, by decide⟩, ?_⟩ | refine ⟨nd1, ?_⟩ | refine ⟨nd0, ?_⟩ | refine ⟨Nat.le_of_ble_eq_true rfl, ?_⟩)
local macro_rules | `(tactic| infer_instance) => `(tactic| simp only [frameE, argF, List.map_cons, List.map_nil, List.cons_append, List.nil_append, List.length_cons, List.length_nil, Nat.reduceAdd, Nat.reduceSub, List.replicate, sset, clr, clr1, mutE, treeOf, sget, SV.put, nodeSet, clrx, clrx1, hideR, restE, keepD, refs, Int.toNat_zero, Int.reduceToNat, List.set_cons_zero, List.set_cons_succ, reduceIte, Nat.reduceEqDiff, reduceCtorEq, sx, res, forgetL, forget])

def dRow (t : Tr) : D := .tup [.int t.s, .int t.u, .int t.p]
structure Cs where
  z : Int
  ties : List Tr
  asks : List Tr
  offs : List Tr
  ms : List Int
def rowsD (c : Cs) : D := .lst [.int c.z, .lst (c.ties.map dRow), .lst (c.asks.map dRow), .lst (c.offs.map dRow)]
def partsD (c : Cs) : D := .lst [.lst (li (c.asks.map Tr.q)), .lst (li (c.offs.map Tr.q)), .lst (li (c.ties.map Tr.q))]
def casD (c : Cs) : D := .tup [rowsD c, .lst (li c.ms), partsD c]
structure RightOk (c : Cs) : Prop where
  z0 : 1 ≤ c.z
  z1 : c.z ≤ 4
  ml : (c.ms.length : Int) = c.z
  mb : ∀ m ∈ c.ms, -99 ≤ m ∧ m ≤ 99
  tl : c.ties.length ≤ 5
  tk : ∀ t ∈ c.ties, tieOk c.ms t.s t.u t.p t.q
  al : c.asks.length ≤ 12
  ak : ∀ t ∈ c.asks, trdOk c.ms 1 t.s t.u t.p t.q
  ol : c.offs.length ≤ 12
  ok : ∀ t ∈ c.offs, trdOk c.ms (-1) t.s t.u t.p t.q
  nz : netF c.z c.ties c.asks c.offs = List.replicate c.z.toNat 0
theorem nd2 {i j : Nat} (h : i ≠ j) : [i, j].Nodup := by simp [h]
theorem nd3 {i j k : Nat} (h : i ≠ j) (h2 : i ≠ k) (h3 : j ≠ k) : [i, j, k].Nodup := by simp [h, h2, h3]
theorem tts_snoc {ts : List Tr} {t : Tr} : tts ts ++ [.d (dT t)] = tts (ts ++ [t]) := by simp [tts]
theorem ups_succ {lo : Int} {n : Nat} : ups lo (n + 1) = .int lo :: ups (lo + 1) n := by
  unfold ups
  rw [List.range_succ_eq_map, List.map_cons, List.map_map]
  have h0 : lo + ((0 : Nat) : Int) = lo := by omega
  rw [h0]
  congr 1
  refine List.map_congr_left fun i _ => ?_
  show D.int (lo + ((i + 1 : Nat) : Int)) = D.int (lo + 1 + (i : Int))
  congr 1
  omega
def rI (z : Int) (ms : List Int) (ties asks0 offs0 : List Tr) (N : List Int) (k : Nat) (e : BEnv) : Prop := ∃ a b c asks offs o, e = [SV.a (pl a b c), SV.t (.d (.int z)), SV.t (.l (ti ms)), SV.no, SV.t (.l (tts ties)), SV.no, SV.t (.l (tts asks)), SV.no, SV.t (.l (tts offs)), SV.t (.l (ti N)), fl o, SV.no, SV.no] ∧ 0 ≤ a ∧ 0 ≤ b ∧ 0 ≤ c ∧
  asks.length ≤ 4 + 13 * k ∧ offs.length ≤ 4 + 13 * k ∧ (∀ t ∈ asks, trdOk ms 1 t.s t.u t.p t.q) ∧ (∀ t ∈ offs, trdOk ms (-1) t.s t.u t.p t.q) ∧
  (13 ≤ asks.length ∨ ∀ j, 0 ≤ j → j < z → sumAt asks j = sumAt asks0 j + if j < k then max 0 (tieAt ties j - sumAt asks0 j + sumAt offs0 j) else 0) ∧
  (13 ≤ offs.length ∨ ∀ j, 0 ≤ j → j < z → sumAt offs j = sumAt offs0 j + if j < k then max 0 (-(tieAt ties j - sumAt asks0 j + sumAt offs0 j)) else 0)
theorem S_right {ad : Nat → Addr} {a b c : Int} {Q : EV → BEnv → Prop} (ha : 0 ≤ a) (hb : 0 ≤ b) (hc : 0 ≤ c)
  (h : ∀ a b c cs, 0 ≤ a → 0 ≤ b → 0 ≤ c → RightOk cs → Q (.d (casD cs)) [SV.t (pl a b c)]) : W_law_right ad [.t (pl a b c)] Q := by
  repeat eq_refl
  refine .mk (S_pick ha hb hc (xs := [.int 1, .int 2, .int 2, .int 3, .int 4]) (by simp) (by simp) fun a b c x ha hb hc hx => ?_)
  obtain ⟨z, rfl, z0, z1⟩ : ∃ n, x = .int n ∧ 1 ≤ n ∧ n ≤ 4 := by
    simp only [List.mem_cons, List.not_mem_nil, or_false] at hx
    rcases hx with h | h | h | h | h <;> exact ⟨_, h, by omega, by omega⟩
  repeat eq_refl
  refine ⟨⟨by omega, by omega⟩, ?_⟩
  refine ⟨?_⟩
  refine lc_ind (fun items acc e => ∃ a b c ms, e = [SV.a (pl a b c), SV.t (.d (.int z)), SV.no, SV.no, SV.no, SV.no, SV.no, SV.no, SV.no, SV.no, SV.no, SV.no, SV.no] ∧ 0 ≤ a ∧ 0 ≤ b ∧ 0 ≤ c ∧ acc = ti ms ∧ ((ms.length : Int) + items.length = z) ∧ ∀ m ∈ ms, -99 ≤ m ∧ m ≤ 99) ?_ ?_ ⟨a, b, c, [], rfl, ha, hb, hc, rfl, by rw [ups_length]; simp; omega, by simp⟩
  · rintro x r acc e ⟨a, b, c, ms, rfl, ha, hb, hc, rfl, hl, hm⟩ ih
    simp only [List.length_cons] at hl
    refine ⟨⟨⟩, ?_⟩
    repeat eq_refl
    refine .t rfl ?_
    repeat eq_refl
    refine .mk (S_draw ha hb hc (by decide) (by decide) fun a b c r0 ha hb hc r1 r2 => ?_)
    repeat eq_refl
    refine .mk (S_pick ha hb hc (xs := [.int 0, .int 1, .int 2, .int 2, .int (-1), .int 99, .int (-99), .int (r0 - 99)]) (by simp) (by simp) fun a b c x ha hb hc hx => ?_)
    obtain ⟨n, rfl, n0, n1⟩ : ∃ n, x = .int n ∧ -99 ≤ n ∧ n ≤ 99 := by
      simp only [List.mem_cons, List.not_mem_nil, or_false] at hx
      rcases hx with h | h | h | h | h | h | h | h <;> exact ⟨_, h, by omega, by omega⟩
    repeat eq_refl
    refine ⟨by rw [ti_len]; omega, ?_⟩
    refine ih _ _ ⟨a, b, c, ms ++ [n], rfl, ha, hb, hc, ti_snoc, by simp; omega, fun m hm' => ?_⟩
    rcases List.mem_append.mp hm' with q | q
    · exact hm m q
    · rw [List.mem_singleton.mp q]; exact ⟨n0, n1⟩
  rintro acc e ⟨a, b, c, ms, rfl, ha, hb, hc, rfl, hl, hm⟩
  have hl : (ms.length : Int) = z := by simpa using hl
  refine ⟨⟨⟩, ?_⟩
  repeat eq_refl
  refine .mk (S_pick ha hb hc (xs := [.int 0, .int 1, .int 2, .int 3, .int 5]) (by simp) (by simp) fun a b c x ha hb hc hx => ?_)
  obtain ⟨k0, rfl, k1, k2⟩ : ∃ n, x = .int n ∧ 0 ≤ n ∧ n ≤ 5 := by
    simp only [List.mem_cons, List.not_mem_nil, or_false] at hx
    rcases hx with h | h | h | h | h <;> exact ⟨_, h, by omega, by omega⟩
  repeat eq_refl
  refine ⟨mulL (by omega) (by omega), ?_⟩
  repeat eq_refl
  generalize hw : k0 * (if decide (1 < z) = true then (1 : Int) else 0) = w
  have w1 : 0 ≤ w ∧ w ≤ 5 ∧ (0 < w → 1 < z) := by
    by_cases hz : 1 < z
    · simp [hz] at hw; omega
    · simp [hz] at hw; omega
  refine ⟨⟨by omega, by omega⟩, ?_⟩
  refine ⟨?_⟩
  refine lc_ind (fun items acc e => ∃ a b c ties, e = [SV.a (pl a b c), SV.t (.d (.int z)), SV.t (.l (ti ms)), SV.no, SV.no, SV.no, SV.no, SV.no, SV.no, SV.no, SV.no, SV.no, SV.no] ∧ 0 ≤ a ∧ 0 ≤ b ∧ 0 ≤ c ∧ acc = tts ties ∧ ties.length + items.length = w.toNat ∧ ∀ t ∈ ties, tieOk ms t.s t.u t.p t.q) ?_ ?_ ⟨a, b, c, [], rfl, ha, hb, hc, rfl, by rw [ups_length]; simp, by simp⟩
  · rintro x r acc e ⟨a, b, c, ties, rfl, ha, hb, hc, rfl, hl2, hk⟩ ih
    simp only [List.length_cons] at hl2
    refine ⟨⟨⟩, ?_⟩
    repeat eq_refl
    refine .t rfl ?_
    repeat eq_refl
    refine .mk (S_tie ha hb hc (by omega) (by omega) fun a b c s t p q ha hb hc ok => ?_)
    repeat eq_refl
    refine ⟨by rw [tts_len]; omega, ?_⟩
    refine ih _ _ ⟨a, b, c, ties ++ [⟨s, t, p, q⟩], rfl, ha, hb, hc, tts_snoc (t := ⟨s, t, p, q⟩), by simp; omega, fun y hy => ?_⟩
    rcases List.mem_append.mp hy with g | g
    · exact hk y g
    · rw [List.mem_singleton.mp g]; exact ok
  rintro acc e ⟨a, b, c, ties, rfl, ha, hb, hc, rfl, hl2, hk⟩
  have hl2 : ties.length = w.toNat := by simpa using hl2
  refine ⟨⟨⟩, ?_⟩
  repeat eq_refl
  refine .mk (S_draw ha hb hc (by decide) (by decide) fun a b c w ha hb hc w1 w2 => ?_)
  repeat eq_refl
  refine ⟨⟨by omega, by omega⟩, ?_⟩
  refine ⟨?_⟩
  refine lc_ind (fun items acc e => ∃ a b c asks, e = [SV.a (pl a b c), SV.t (.d (.int z)), SV.t (.l (ti ms)), SV.no, SV.t (.l (tts ties)), SV.no, SV.no, SV.no, SV.no, SV.no, SV.no, SV.no, SV.no] ∧ 0 ≤ a ∧ 0 ≤ b ∧ 0 ≤ c ∧ acc = tts asks ∧ asks.length + items.length = w.toNat ∧ ∀ t ∈ asks, trdOk ms (1) t.s t.u t.p t.q) ?_ ?_ ⟨a, b, c, [], rfl, ha, hb, hc, rfl, by rw [ups_length]; simp, by simp⟩
  · rintro x r acc e ⟨a, b, c, asks, rfl, ha, hb, hc, rfl, hl3, hk3⟩ ih
    simp only [List.length_cons] at hl3
    refine ⟨⟨⟩, ?_⟩
    repeat eq_refl
    refine .t rfl ?_
    repeat eq_refl
    refine .mk (S_trade ha hb hc (by omega) (by omega) (by decide) fun a b c s u p q ha hb hc ok => ?_)
    repeat eq_refl
    refine ⟨by rw [tts_len]; omega, ?_⟩
    refine ih _ _ ⟨a, b, c, asks ++ [⟨s, u, p, q⟩], rfl, ha, hb, hc, tts_snoc (t := ⟨s, u, p, q⟩), by simp; omega, fun y hy => ?_⟩
    rcases List.mem_append.mp hy with g | g
    · exact hk3 y g
    · rw [List.mem_singleton.mp g]; exact ok
  rintro acc e ⟨a, b, c, asks, rfl, ha, hb, hc, rfl, hlasks, hka⟩
  have hlasks : asks.length ≤ 4 := by
    have : asks.length = w.toNat := by simpa using hlasks
    omega
  refine ⟨⟨⟩, ?_⟩
  repeat eq_refl
  refine .mk (S_draw ha hb hc (by decide) (by decide) fun a b c w ha hb hc w1 w2 => ?_)
  repeat eq_refl
  refine ⟨⟨by omega, by omega⟩, ?_⟩
  refine ⟨?_⟩
  refine lc_ind (fun items acc e => ∃ a b c offs, e = [SV.a (pl a b c), SV.t (.d (.int z)), SV.t (.l (ti ms)), SV.no, SV.t (.l (tts ties)), SV.no, SV.t (.l (tts asks)), SV.no, SV.no, SV.no, SV.no, SV.no, SV.no] ∧ 0 ≤ a ∧ 0 ≤ b ∧ 0 ≤ c ∧ acc = tts offs ∧ offs.length + items.length = w.toNat ∧ ∀ t ∈ offs, trdOk ms (-1) t.s t.u t.p t.q) ?_ ?_ ⟨a, b, c, [], rfl, ha, hb, hc, rfl, by rw [ups_length]; simp, by simp⟩
  · rintro x r acc e ⟨a, b, c, offs, rfl, ha, hb, hc, rfl, hl3, hk3⟩ ih
    simp only [List.length_cons] at hl3
    refine ⟨⟨⟩, ?_⟩
    repeat eq_refl
    refine .t rfl ?_
    repeat eq_refl
    refine .mk (S_trade ha hb hc (by omega) (by omega) (by decide) fun a b c s u p q ha hb hc ok => ?_)
    repeat eq_refl
    refine ⟨by rw [tts_len]; omega, ?_⟩
    refine ih _ _ ⟨a, b, c, offs ++ [⟨s, u, p, q⟩], rfl, ha, hb, hc, tts_snoc (t := ⟨s, u, p, q⟩), by simp; omega, fun y hy => ?_⟩
    rcases List.mem_append.mp hy with g | g
    · exact hk3 y g
    · rw [List.mem_singleton.mp g]; exact ok
  rintro acc e ⟨a, b, c, offs, rfl, ha, hb, hc, rfl, hloffs, hko⟩
  have hloffs : offs.length ≤ 4 := by
    have : offs.length = w.toNat := by simpa using hloffs
    omega
  refine ⟨⟨⟩, ?_⟩
  repeat eq_refl
  refine ⟨nd3 (by decide) (by decide) (by decide), ?_⟩
  have inTr : ∀ {side : Int} {t : Tr}, trdOk ms side t.s t.u t.p t.q → inZ z t := fun {side t} ⟨m, q0, q1, _⟩ => ⟨q0, by have := (List.getElem?_eq_some_iff.mp q1).1; omega⟩
  have inTi : ∀ t ∈ ties, inZ z t ∧ 0 ≤ t.u ∧ t.u < z := fun t ht => by
    obtain ⟨m, n, q0, q1, q2, q3, _⟩ := hk t ht
    have g1 := (List.getElem?_eq_some_iff.mp q1).1
    have g2 := (List.getElem?_eq_some_iff.mp q3).1
    exact ⟨⟨q0, by omega⟩, q2, by omega⟩
  refine .mk (S_netO (by omega) (by omega) inTi (fun t ht => inTr (hka t ht)) (fun t ht => inTr (hko t ht)) ?_)
  repeat eq_refl
  have hNl : (netF z ties asks offs).length = z.toNat := netF_len
  have hNg : ∀ j, 0 ≤ j → j < z → (netF z ties asks offs)[j.toNat]? = some (tieAt ties j - sumAt asks j + sumAt offs j) := fun j h1 h2 => net_get h1 h2 (fun t ht => ⟨(inTi t ht).1.1, (inTi t ht).2.1⟩) (fun t ht => (inTr (hka t ht)).1) (fun t ht => (inTr (hko t ht)).1)
  generalize hN : netF z ties asks offs = N at hNl hNg
  refine seqFor ⟨⟨by omega, by omega⟩, ?_⟩
  refine ⟨?_⟩
  refine for_gen (rI z ms ties asks offs N z.toNat) (fun C hC hn => ?_) ?_
  · refine for_ind2 (fun items e => ∃ k : Nat, items = ups (k : Int) (z.toNat - k) ∧ k ≤ z.toNat ∧ rI z ms ties asks offs N k e) ?_ ?_ ⟨0, rfl, Nat.zero_le _, a, b, c, asks, offs, none, rfl, ha, hb, hc, by omega, by omega, hka, hko, .inr fun j h1 h2 => ?_, .inr fun j h1 h2 => ?_⟩
    · rintro x r e C' ⟨k, hi, hkz, a, b, c, as, os, o, rfl, ha, hb, hc, hla, hlo, hta, hto, hsa, hso⟩ cr cb ih ih2 fg fg2
      obtain ⟨n, hn⟩ : ∃ n, z.toNat - k = n + 1 := by
        cases h : z.toNat - k with
        | zero => rw [h] at hi; cases hi
        | succ n => exact ⟨n, rfl⟩
      rw [hn, ups_succ] at hi
      cases hi
      have hkz : (k : Int) < z := by omega
      obtain ⟨m, hm1⟩ := int_get (xs := ms) (n := (k : Int)) (by omega) (by omega)
      have hmb := hm m (List.mem_of_getElem? hm1)
      have hNk := hNg k (by omega) hkz
      cases o
      all_goals
        simp only [fl]
        refine ⟨⟨⟩, ?_⟩
        repeat eq_refl
        refine ixS_at (by omega) (ti_get hNk) ?_
        repeat eq_refl
        refine ⟨nd3 (by decide) (by decide) (by decide), ?_⟩
        repeat eq_refl
        generalize hv : (if tieAt ties k - sumAt asks k + sumAt offs k > 0 then tieAt ties k - sumAt asks k + sumAt offs k else 0) = v
        refine .mk (S_filled (m := m) ha hb hc (by omega) hm1 hmb.1 hmb.2 (.inl rfl) (by split at hv <;> omega) (by omega) fun a b c as' ha hb hc hl1 ht1 hs1 hg1 => ?_)
        repeat eq_refl
        refine ixS_at (by omega) (ti_get hNk) ?_
        repeat eq_refl
        refine ⟨nd3 (by decide) (by decide) (by decide), ?_⟩
        repeat eq_refl
        generalize hu : (if 0 - (tieAt ties k - sumAt asks k + sumAt offs k) > 0 then 0 - (tieAt ties k - sumAt asks k + sumAt offs k) else 0) = u
        refine .mk (S_filled (m := m) ha hb hc (by omega) hm1 hmb.1 hmb.2 (.inr rfl) (by split at hu <;> omega) (by omega) fun a b c os' ha hb hc hl2 ht2 hs2 hg2 => ?_)
        repeat eq_refl
        refine ih _ ⟨k + 1, ?_, by omega, a, b, c, as', os', some (.int k), rfl, ha, hb, hc, by omega, by omega, ?_, ?_, ?_, ?_⟩
        · have : z.toNat - (k + 1) = n := by omega
          rw [this]; exact rfl
        · exact fun t ht => (ht1 t ht).elim (hta t) id
        · exact fun t ht => (ht2 t ht).elim (hto t) id
        · rcases hsa with q | q
          · exact .inl (by omega)
          · rcases hs1 with q' | q'
            · exact .inl q'
            · refine .inr fun j h1 h2 => ?_
              rw [q' j, q j h1 h2]
              by_cases hj : (k : Int) = j
              · subst hj
                rw [if_neg (by omega), if_pos rfl, if_pos (by omega)]
                split at hv <;> omega
              · rw [if_neg hj]
                by_cases hj2 : j < k
                · rw [if_pos hj2, if_pos (by omega)]; omega
                · rw [if_neg hj2, if_neg (by omega)]; omega
        · rcases hso with q | q
          · exact .inl (by omega)
          · rcases hs2 with q' | q'
            · exact .inl q'
            · refine .inr fun j h1 h2 => ?_
              rw [q' j, q j h1 h2]
              by_cases hj : (k : Int) = j
              · subst hj
                rw [if_neg (by omega), if_pos rfl, if_pos (by omega)]
                split at hu <;> omega
              · rw [if_neg hj]
                by_cases hj2 : j < k
                · rw [if_pos hj2, if_pos (by omega)]; omega
                · rw [if_neg hj2, if_neg (by omega)]; omega
    · rintro e ⟨k, hi, hkz, hJ⟩
      have : k = z.toNat := by
        have := congrArg List.length hi
        rw [ups_length] at this
        simp at this; omega
      subst this
      exact ⟨⟨⟩, hn _ hJ⟩
    · simp; omega
    · simp; omega
  · rintro e ⟨a, b, c, as, os, o, rfl, ha, hb, hc, hla, hlo, hta, hto, hsa, hso⟩
    refine gate2 ?_
    repeat eq_refl
    have long : 12 < as.length ∨ 12 < os.length → Q (.d (casD ⟨z, [], [], [], ms⟩)) [SV.t (pl a b c)] := fun _ => h _ _ _ _ ha hb hc ⟨z0, z1, hl, hm, by simp, by simp, by simp, by simp, by simp, by simp, rfl⟩
    have emp : casD ⟨z, [], [], [], ms⟩ = .tup [.lst [.int z, .lst [], .lst [], .lst []], .lst (resL (ti ms)), .lst [.lst [], .lst [], .lst []]] := by rw [resL_ti]; exact rfl
    rw [emp] at long
    refine .dec (fun g1 => ?_) (fun g1 => ?_)
    · refine .t rfl ?_
      repeat eq_refl
      exact long (.inl (by rw [tts_len] at g1; omega))
    · repeat eq_refl
      refine .dec (fun g2 => ?_) (fun g2 => ?_)
      · repeat eq_refl
        exact long (.inr (by rw [tts_len] at g2; omega))
      · have hx : ∀ t : Tr, ∃ a b, dT t = .tup [a, b] ∧ (([a, b] : List D)[1]?) = some (D.int t.q) := fun t => ⟨_, _, rfl, rfl⟩
        have hr : ∀ t : Tr, ∃ a b, dT t = .tup [a, b] ∧ (([a, b] : List D)[0]?) = some (dRow t) := fun t => ⟨_, _, rfl, rfl⟩
        have la : as.length ≤ 12 := by rw [tts_len] at g1; omega
        have lo : os.length ≤ 12 := by rw [tts_len] at g2; omega
        have lt : ties.length ≤ 5 := by omega
        refine Gf.L [10] rfl ?_
        refine ⟨?_⟩
        rw [resL_tts]
        refine proj_ok hx (by decide) rfl rfl (Nat.le_of_ble_eq_true rfl) rfl as [] (by simp; omega) ?_
        infer_instance
        refine ⟨?_⟩
        rw [resL_tts]
        refine proj_ok hx (by decide) rfl rfl (Nat.le_of_ble_eq_true rfl) rfl os [] (by simp; omega) ?_
        infer_instance
        refine ⟨?_⟩
        rw [resL_tts]
        refine proj_ok hx (by decide) rfl rfl (Nat.le_of_ble_eq_true rfl) rfl ties [] (by simp; omega) ?_
        infer_instance
        refine ⟨Nat.le_of_ble_eq_true rfl, ?_⟩
        refine ⟨rfl, ?_⟩
        refine gate2 ?_
        infer_instance
        have rl : ∀ (f : Tr → D) (ts : List Tr), resL (ts.map fun t => .d (f t)) = ts.map f := fun f ts => by
          have : (ts.map fun t => OT.d (f t)) = (ts.map f).map .d := by rw [List.map_map]; exact rfl
          rw [this, resL_d]
        refine ⟨?_⟩
        rw [resL_tts]
        refine proj_ok hr (by decide) rfl rfl (Nat.le_of_ble_eq_true rfl) rfl ties [] (by simp; omega) ?_
        infer_instance
        refine ⟨?_⟩
        rw [resL_tts]
        refine proj_ok hr (by decide) rfl rfl (Nat.le_of_ble_eq_true rfl) rfl as [] (by simp; omega) ?_
        infer_instance
        refine ⟨?_⟩
        rw [resL_tts]
        refine proj_ok hr (by decide) rfl rfl (Nat.le_of_ble_eq_true rfl) rfl os [] (by simp; omega) ?_
        infer_instance
        refine ⟨Nat.le_of_ble_eq_true rfl, ?_⟩
        refine ⟨Nat.le_of_ble_eq_true rfl, ?_⟩
        show Q (EV.d (D.tup [res (OT.l [OT.d (D.int z), OT.l (List.map (fun t => OT.d (dRow t)) ties), OT.l (List.map (fun t => OT.d (dRow t)) as), OT.l (List.map (fun t => OT.d (dRow t)) os)]), res (OT.l (ti ms)), res (OT.l [OT.l (List.map (fun t => OT.d (D.int t.q)) as), OT.l (List.map (fun t => OT.d (D.int t.q)) os), OT.l (List.map (fun t => OT.d (D.int t.q)) ties)])])) [SV.t (pl a b c)]
        have e : D.tup [res (OT.l [OT.d (D.int z), OT.l (List.map (fun t => OT.d (dRow t)) ties), OT.l (List.map (fun t => OT.d (dRow t)) as), OT.l (List.map (fun t => OT.d (dRow t)) os)]), res (OT.l (ti ms)), res (OT.l [OT.l (List.map (fun t => OT.d (D.int t.q)) as), OT.l (List.map (fun t => OT.d (D.int t.q)) os), OT.l (List.map (fun t => OT.d (D.int t.q)) ties)])] = casD ⟨z, ties, as, os, ms⟩ := by
          simp only [casD, rowsD, partsD, res, resL, rl, resL_ti, li, List.map_map]
          exact rfl
        rw [e]
        refine h _ _ _ _ ha hb hc ⟨z0, z1, hl, hm, lt, hk, la, hta, lo, hto, ?_⟩
        refine List.ext_getElem? fun i => ?_
        by_cases hi : i < z.toNat
        · have := net_get (z := z) (j := (i : Int)) (ties := ties) (asks := as) (offs := os) (by omega) (by omega) (fun t ht => ⟨(inTi t ht).1.1, (inTi t ht).2.1⟩) (fun t ht => (inTr (hta t ht)).1) (fun t ht => (inTr (hto t ht)).1)
          rw [Int.toNat_natCast] at this
          show (netF z ties as os)[i]? = _
          rw [this, List.getElem?_replicate, if_pos hi]
          have q1 := hsa.resolve_left (by omega) (i : Int) (by omega) (by omega)
          have q2 := hso.resolve_left (by omega) (i : Int) (by omega) (by omega)
          rw [if_pos (by omega)] at q1 q2
          congr 1
          omega
        · show (netF z ties as os)[i]? = (List.replicate z.toNat 0)[i]?
          rw [List.getElem?_eq_none (by rw [netF_len]; omega), List.getElem?_eq_none (by rw [List.length_replicate]; omega)]
end K84
end SP84f
section SP84g
set_option linter.all false
set_option Elab.async false
set_option maxHeartbeats 1000000
open PySem PySem.Spec PyProof.Rows L2
namespace K84
open Bv
local macro_rules | `(tactic| infer_instance) => `(tactic| simp only [frameE, argF, List.map_cons, List.map_nil, List.cons_append, List.nil_append, List.length_cons, List.length_nil, Nat.reduceAdd, Nat.reduceSub, Int.reduceAdd, List.replicate, sset, clr, clr1, mutE, treeOf, sget, SV.put, nodeSet, clrx, clrx1, hideR, restE, keepD, refs, Int.toNat_zero, Int.reduceToNat, List.set_cons_zero, List.set_cons_succ, reduceIte, Nat.reduceEqDiff, reduceCtorEq, sx, res, resL, resL_ti, resL_d, resL_f, resL_tts, forgetL, forget, ti_snoc, tts_snoc, ti_set, List.getElem?_cons_zero, List.getElem?_cons_succ, nodeAt, Bool.and_false, Bool.false_and, Bool.false_eq_true])
local macro_rules | `(tactic| eq_refl) => `(tactic| first | with_reducible assumption | (with_reducible refine seqRet ?_) | (with_reducible refine orV (c1 := ?_) (c2 := ?_) (fun R h => ?_) (fun g R h => ?_) ?_; rotate_left 2) | (with_reducible refine andV (c1 := ?_) (c2 := ?_) (fun R h => ?_) (fun g R h => ?_) ?_; rotate_left 2) | (with_reducible refine seqIf (c := ?_) (fun R h => ?_) ?_; rotate_left) | (with_reducible refine ifS (c := ?_) (fun R h => ?_) ?_; rotate_left) | (with_reducible refine orT (c1 := ?_) (c2 := ?_) (fun R h => ?_) (fun g R h => ?_) ?_; rotate_left 2) | (with_reducible refine andT (c1 := ?_) (c2 := ?_) (fun R h => ?_) (fun g R h => ?_) ?_; rotate_left 2) | (with_reducible refine testC (w := wChain _ _ _ _ _) (c := ?_) (fun R h => ?_) ?_; rotate_left) | (with_reducible refine chainV (x := ?_) (y := ?_) (z := ?_) (c1 := ?_) (c2 := ?_) (fun R h => ?_) (fun R h => ?_) (fun R h => ?_) (fun g R h => ?_) (fun g R h => ?_) ?_; rotate_left 5) | (with_reducible refine notT (c1 := ?_) (fun R h => ?_) ?_; rotate_left) | refine ⟨rfl, ?_⟩ | refine ⟨_, rfl, ?_⟩ | refine ⟨⟨⟩, ?_⟩ | (apply Gf.mk; try infer_instance) | refine ⟨by first | decide | (dsimp only; decide), ?_⟩ | refine ⟨⟨by decide, by decide, by decide⟩, ?_⟩ | refine ⟨Or.inr ⟨by decide, by decide⟩, ?_⟩ | refine ⟨Or.inl ⟨by decide, by decide⟩, ?_⟩ | refine ixS_at (by assumption) (by first | exact ti_get (by assumption) | exact map_get (li_get (by assumption)) | exact map_get (by assumption)) ?_ | refine ⟨nd1, ?_⟩ | refine ⟨nd0, ?_⟩ | refine ⟨Nat.le_of_ble_eq_true rfl, ?_⟩ | refine ⟨by simp only [ti_len, tts_len, li_len, List.length_map, List.length_append, List.length_cons, List.length_nil]; omega, ?_⟩ | refine ⟨⟨rfl, by decide⟩, _, rfl, ?_⟩ | refine ⟨⟨rfl, by decide⟩, ?_⟩ | ((with_reducible apply tupD); exact rfl; first | exact allD_ti | exact allD_f | exact allD_map _) | ((with_reducible apply consTup); exact rfl; first | exact allD_ti | exact allD_f | exact allD_map _) | ((with_reducible apply tupCons); exact rfl; first | exact allD_ti | exact allD_f | exact allD_map _) | ((with_reducible apply tupS); exact rfl; first | exact allD_ti | exact allD_f | exact allD_map _) | ((with_reducible apply lstS); exact rfl; first | exact allD_ti | exact allD_f | exact allD_map _) | refine Brn.t rfl ?_ | refine Brn.f rfl ?_ | assumption)
local macro_rules | `(tactic| ac_rfl) => `(tactic| first | with_reducible assumption | (with_reducible refine seqRet ?_) | (with_reducible refine orV (c1 := ?_) (c2 := ?_) (fun R h => ?_) (fun g R h => ?_) ?_; rotate_left 2) | (with_reducible refine andV (c1 := ?_) (c2 := ?_) (fun R h => ?_) (fun g R h => ?_) ?_; rotate_left 2) | (with_reducible refine seqIf (c := ?_) (fun R h => ?_) ?_; rotate_left) | (with_reducible refine ifS (c := ?_) (fun R h => ?_) ?_; rotate_left) | (with_reducible refine orT (c1 := ?_) (c2 := ?_) (fun R h => ?_) (fun g R h => ?_) ?_; rotate_left 2) | (with_reducible refine andT (c1 := ?_) (c2 := ?_) (fun R h => ?_) (fun g R h => ?_) ?_; rotate_left 2) | (with_reducible refine testC (w := wChain _ _ _ _ _) (c := ?_) (fun R h => ?_) ?_; rotate_left) | (with_reducible refine chainV (x := ?_) (y := ?_) (z := ?_) (c1 := ?_) (c2 := ?_) (fun R h => ?_) (fun R h => ?_) (fun R h => ?_) (fun g R h => ?_) (fun g R h => ?_) ?_; rotate_left 5) | (with_reducible refine notT (c1 := ?_) (fun R h => ?_) ?_; rotate_left) | refine ⟨rfl, ?_⟩ | refine ⟨_, rfl, ?_⟩ | refine ⟨⟨⟩, ?_⟩ | refine ⟨by first | decide | (dsimp only; decide), ?_⟩ | refine ⟨⟨by decide, by decide, by decide⟩, ?_⟩ | refine ⟨Or.inr ⟨by decide, by decide⟩, ?_⟩ | refine ⟨Or.inl ⟨by decide, by decide⟩, ?_⟩ | refine ixS_at (by assumption) (by first | exact ti_get (by assumption) | exact map_get (li_get (by assumption)) | exact map_get (by assumption)) ?_ | refine ⟨nd1, ?_⟩ | refine ⟨nd0, ?_⟩ | refine ⟨Nat.le_of_ble_eq_true rfl, ?_⟩ | refine ⟨by simp only [ti_len, tts_len, li_len, List.length_map, List.length_append, List.length_cons, List.length_nil]; omega, ?_⟩ | refine ⟨⟨rfl, by decide⟩, _, rfl, ?_⟩ | refine ⟨⟨rfl, by decide⟩, ?_⟩ | ((with_reducible apply tupD); exact rfl; first | exact allD_ti | exact allD_f | exact allD_map _) | ((with_reducible apply consTup); exact rfl; first | exact allD_ti | exact allD_f | exact allD_map _) | ((with_reducible apply tupCons); exact rfl; first | exact allD_ti | exact allD_f | exact allD_map _) | ((with_reducible apply tupS); exact rfl; first | exact allD_ti | exact allD_f | exact allD_map _) | ((with_reducible apply lstS); exact rfl; first | exact allD_ti | exact allD_f | exact allD_map _) | refine Brn.t rfl ?_ | refine Brn.f rfl ?_ | assumption)
/-- the parts of a case that stand within -/
structure Rows (c : Cs) : Prop where
  z0 : 1 ≤ c.z
  z1 : c.z ≤ 4
  ml : (c.ms.length : Int) = c.z
  tl : c.ties.length ≤ 8
  al : c.asks.length ≤ 12
  ol : c.offs.length ≤ 12
  tk : ∀ t ∈ c.ties, (0 ≤ t.s ∧ t.s < c.z) ∧ (0 ≤ t.u ∧ t.u < c.z) ∧ t.s ≠ t.u ∧ 0 ≤ t.p ∧ t.p ≤ 60
  ak : ∀ t ∈ c.asks, (0 ≤ t.s ∧ t.s < c.z) ∧ 1 ≤ t.u ∧ t.u ≤ 30 ∧ -99 ≤ t.p ∧ t.p ≤ 99
  ok : ∀ t ∈ c.offs, (0 ≤ t.s ∧ t.s < c.z) ∧ 1 ≤ t.u ∧ t.u ≤ 30 ∧ -99 ≤ t.p ∧ t.p ≤ 99
  tb : ∀ t ∈ c.ties, -(2 ^ 64) < t.q ∧ t.q < 2 ^ 64
  ab : ∀ t ∈ c.asks, -(2 ^ 64) < t.q ∧ t.q < 2 ^ 64
  ob : ∀ t ∈ c.offs, -(2 ^ 64) < t.q ∧ t.q < 2 ^ 64
def mk (c : Cs) (s : Int) : Int := (c.ms[s.toNat]?).getD 0
theorem mk_get {c : Cs} {s : Int} (V : Rows c) (h0 : 0 ≤ s) (h1 : s < c.z) : c.ms[s.toNat]? = some (mk c s) := by
  have : s.toNat < c.ms.length := by have := V.ml; omega
  simp [mk, List.getElem?_eq_getElem this]
def fineA (c : Cs) (t : Tr) : Prop := 0 ≤ t.q ∧ t.q ≤ t.u ∧ (mk c t.s < t.p → t.q = t.u) ∧ (t.p < mk c t.s → t.q = 0)
def fineO (c : Cs) (t : Tr) : Prop := 0 ≤ t.q ∧ t.q ≤ t.u ∧ (t.p < mk c t.s → t.q = t.u) ∧ (mk c t.s < t.p → t.q = 0)
def fineT (c : Cs) (t : Tr) : Prop := -t.p ≤ t.q ∧ t.q ≤ t.p ∧ (mk c t.s < mk c t.u → t.q = t.p) ∧ (mk c t.u < mk c t.s → t.q = -t.p)
def Fine (c : Cs) : Prop := (∀ m ∈ c.ms, -99 ≤ m ∧ m ≤ 99) ∧ (∀ t ∈ c.asks, fineA c t) ∧ (∀ t ∈ c.offs, fineO c t) ∧ (∀ t ∈ c.ties, fineT c t) ∧ netF c.z c.ties c.asks c.offs = List.replicate c.z.toNat 0
def clrD (c : Cs) : D := .tup [.tup (li (c.asks.map Tr.q)), .tup (li (c.offs.map Tr.q)), .tup (li (c.ties.map Tr.q))]
abbrev bE (c : Cs) (f : List Int) : BEnv := [.t (.d (rowsD c)), .t (.d (clrD c)), .t (.d (.lst (li c.ms))), .t (.d (.tup (li (c.asks.map Tr.q)))), .t (.d (.tup (li (c.offs.map Tr.q)))), .t (.d (.tup (li (c.ties.map Tr.q)))), .t (.l (ti f)), .no, .no, .no, .no, .no, .no, .no, .no, .no, .no, .no, .no]
theorem all_take {p : Tr → Prop} {xs : List Tr} {k : Nat} {t : Tr} (h : xs[k]? = some t) : (∀ x ∈ xs.take (k + 1), p x) ↔ (∀ x ∈ xs.take k, p x) ∧ p t := by
  rw [List.take_succ, h]
  constructor
  · intro q
    exact ⟨fun x hx => q x (List.mem_append_left _ hx), q t (by simp)⟩
  · rintro ⟨q1, q2⟩ x hx
    rcases List.mem_append.mp hx with g | g
    · exact q1 x g
    · simp at g; subst g; exact q2
theorem S_broken {ad : Nat → Addr} {c : Cs} {Q : EV → BEnv → Prop} (V : Rows c) (h : ∀ L, (L = [] ↔ Fine c) → Q (.o (.l (ti L))) [SV.no, SV.no, SV.no]) :
    W_law_broken ad [.t (.d (rowsD c)), .t (.d (clrD c)), .t (.d (.lst (li c.ms)))] Q := by
  have al := V.al
  have ol := V.ol
  have tl := V.tl
  have z0 := V.z0
  have z1 := V.z1
  have ml := V.ml
  repeat eq_refl
  refine ⟨?_⟩
  refine lc_pure (enc := D.int) (xs := c.ms) (E := fun m => sset (bE c []) 7 (.t (.d (.int m))) |>.set 6 .no) (c := fun m => decide (m < -99) || decide (99 < m)) (f := fun _ => .d (.int 2)) trivial ?_ ?_ ?_ ?_ ?_ ?_
  · intro m hm R h
    refine ⟨Nat.le_of_ble_eq_true rfl, ?_⟩
    (repeat eq_refl) <;> exact h
  · intro m hm R h
    repeat eq_refl
  · intro m hm g R h
    exact h
  · intro m hm
    exact rfl
  · simp; omega
  have e0 : ∀ F : List Int, F.map (fun _ => OT.d (D.int 2)) = ti (F.map fun _ => 2) := fun F => by simp [ti]
  rw [List.nil_append, e0]
  have i0 : (c.ms.filter fun m => decide (m < -99) || decide (99 < m)).map (fun _ => (2 : Int)) = [] ↔ ∀ m ∈ c.ms, -99 ≤ m ∧ m ≤ 99 := by
    rw [List.map_eq_nil_iff, List.filter_eq_nil_iff]
    refine forall_congr' fun m => forall_congr' fun hm => ?_
    simp
  have l0 : ((c.ms.filter fun m => decide (m < -99) || decide (99 < m)).map (fun _ => (2 : Int))).length ≤ c.ms.length := by rw [List.length_map]; exact List.length_filter_le _ _
  generalize (c.ms.filter fun m => decide (m < -99) || decide (99 < m)).map (fun _ => (2 : Int)) = F0 at i0 l0
  repeat eq_refl
  refine ⟨⟨by simp <;> omega, by simp <;> omega⟩, ?_⟩
  refine ⟨?_⟩
  refine for_up (E := fun F => bE c F) (I := fun k F => F.length ≤ F0.length + 2 * k ∧ (F = [] ↔ F0 = [] ∧ ∀ t ∈ c.asks.take k, fineA c t)) ⟨by simp, by simp⟩ ?_ ?_
  · intro k F C' hk ⟨hl, hF⟩ cr cb ih ih2 fg fg2
    simp at hk
    obtain ⟨t, ht⟩ : ∃ t, c.asks[k]? = some t := ⟨_, List.getElem?_eq_getElem hk⟩
    obtain ⟨⟨s0, s1⟩, u0, u1, p0, p1⟩ := V.ak t (List.mem_of_getElem? ht)
    have hm := mk_get V s0 s1
    have hr : (c.asks.map dRow)[(k : Int).toNat]? = some (dRow t) := map_get ht
    have hq : (c.asks.map Tr.q)[(k : Int).toNat]? = some t.q := map_get ht
    have k0 : 0 ≤ (k : Int) := by omega
    have step : ∀ F' : List Int, (F' = [] ↔ F = [] ∧ fineA c t) → (F' = [] ↔ F0 = [] ∧ ∀ x ∈ c.asks.take (k + 1), fineA c x) := fun F' h => by rw [h, hF, all_take ht, and_assoc]
    repeat eq_refl
    refine .of (fun g1 => ?_) (fun g1 => ?_)
    all_goals
      repeat eq_refl
      refine .of (fun g2 => ?_) (fun g2 => ?_)
    all_goals
      repeat eq_refl
      try infer_instance
      refine fg [8, 9, 10, 11] _ rfl (ih _ ⟨?_, step _ ?_⟩)
      · (try simp); omega
      · simp at g1 g2
        simp [fineA]
        try omega
  intro F1 ⟨F1l, F1i⟩
  refine ⟨⟨⟩, ?_⟩
  have F1i : F1 = [] ↔ F0 = [] ∧ ∀ t ∈ c.asks, fineA c t := by simpa using F1i
  have F1l : F1.length ≤ F0.length + 2 * c.asks.length := by simpa using F1l
  repeat eq_refl
  refine ⟨⟨by simp <;> omega, by simp <;> omega⟩, ?_⟩
  refine ⟨?_⟩
  refine for_up (E := fun F => bE c F) (I := fun k F => F.length ≤ F1.length + 2 * k ∧ (F = [] ↔ F1 = [] ∧ ∀ t ∈ c.offs.take k, fineO c t)) ⟨by simp, by simp⟩ ?_ ?_
  · intro k F C' hk ⟨hl, hF⟩ cr cb ih ih2 fg fg2
    simp at hk
    obtain ⟨t, ht⟩ : ∃ t, c.offs[k]? = some t := ⟨_, List.getElem?_eq_getElem hk⟩
    obtain ⟨⟨s0, s1⟩, u0, u1, p0, p1⟩ := V.ok t (List.mem_of_getElem? ht)
    have hm := mk_get V s0 s1
    have hr : (c.offs.map dRow)[(k : Int).toNat]? = some (dRow t) := map_get ht
    have hq : (c.offs.map Tr.q)[(k : Int).toNat]? = some t.q := map_get ht
    have k0 : 0 ≤ (k : Int) := by omega
    have step : ∀ F' : List Int, (F' = [] ↔ F = [] ∧ fineO c t) → (F' = [] ↔ F1 = [] ∧ ∀ x ∈ c.offs.take (k + 1), fineO c x) := fun F' h => by rw [h, hF, all_take ht, and_assoc]
    repeat eq_refl
    refine .of (fun g1 => ?_) (fun g1 => ?_)
    all_goals
      repeat eq_refl
      refine .of (fun g2 => ?_) (fun g2 => ?_)
    all_goals
      repeat eq_refl
      try infer_instance
      refine fg [8, 9, 10, 11] _ rfl (ih _ ⟨?_, step _ ?_⟩)
      · (try simp); omega
      · simp at g1 g2
        simp [fineO]
        try omega
  intro F2 ⟨F2l, F2i⟩
  refine ⟨⟨⟩, ?_⟩
  have F2i : F2 = [] ↔ F1 = [] ∧ ∀ t ∈ c.offs, fineO c t := by simpa using F2i
  have F2l : F2.length ≤ F1.length + 2 * c.offs.length := by simpa using F2l
  repeat eq_refl
  refine ⟨⟨by simp <;> omega, by simp <;> omega⟩, ?_⟩
  refine ⟨?_⟩
  refine for_up (E := fun F => bE c F) (I := fun k F => F.length ≤ F2.length + 2 * k ∧ (F = [] ↔ F2 = [] ∧ ∀ t ∈ c.ties.take k, fineT c t)) ⟨by simp, by simp⟩ ?_ ?_
  · intro k F C' hk ⟨hl, hF⟩ cr cb ih ih2 fg fg2
    simp at hk
    obtain ⟨t, ht⟩ : ∃ t, c.ties[k]? = some t := ⟨_, List.getElem?_eq_getElem hk⟩
    obtain ⟨⟨s0, s1⟩, ⟨u0, u1⟩, sne, p0, p1⟩ := V.tk t (List.mem_of_getElem? ht)
    have hm := mk_get V s0 s1
    have hm2 := mk_get V u0 u1
    have hr : (c.ties.map dRow)[(k : Int).toNat]? = some (dRow t) := map_get ht
    have hq : (c.ties.map Tr.q)[(k : Int).toNat]? = some t.q := map_get ht
    have k0 : 0 ≤ (k : Int) := by omega
    have step : ∀ F' : List Int, (F' = [] ↔ F = [] ∧ fineT c t) → (F' = [] ↔ F2 = [] ∧ ∀ x ∈ c.ties.take (k + 1), fineT c x) := fun F' h => by rw [h, hF, all_take ht, and_assoc]
    repeat eq_refl
    refine .of (fun g1 => ?_) (fun g1 => ?_)
    all_goals
      repeat eq_refl
      refine .of (fun g2 => ?_) (fun g2 => ?_)
    all_goals
      repeat eq_refl
      try infer_instance
      refine fg [8, 12, 13, 14] _ rfl (ih _ ⟨?_, step _ ?_⟩)
      · (try simp); omega
      · simp at g1 g2
        simp [fineT]
        try omega
  intro F3 ⟨F3l, F3i⟩
  refine ⟨⟨⟩, ?_⟩
  have F3i : F3 = [] ↔ F2 = [] ∧ ∀ t ∈ c.ties, fineT c t := by simpa using F3i
  have F3l : F3.length ≤ F2.length + 2 * c.ties.length := by simpa using F3l
  repeat eq_refl
  refine ⟨⟨by simp <;> omega, by simp <;> omega⟩, ?_⟩
  refine ⟨?_⟩
  try infer_instance
  refine lc_ix (xs := c.ties) (E := ?_) (f := fun t => .d (dT t)) (by simp) trivial (fun k t ht R h => ?_) (fun k t ht R h => ?_) (fun k => ?_) (by omega) ?_
  rotate_left
  · refine ⟨Nat.le_of_ble_eq_true rfl, ?_⟩
    refine ⟨rfl, ?_⟩
    infer_instance
    exact h
  · have hr : (c.ties.map dRow)[(k : Int).toNat]? = some (dRow t) := map_get ht
    have hq : (c.ties.map Tr.q)[(k : Int).toNat]? = some t.q := map_get ht
    have k0 : 0 ≤ (k : Int) := by omega
    (repeat eq_refl) <;> exact h
  · exact rfl
  infer_instance
  repeat eq_refl
  refine ⟨⟨by simp <;> omega, by simp <;> omega⟩, ?_⟩
  refine ⟨?_⟩
  try infer_instance
  refine lc_ix (xs := c.asks) (E := ?_) (f := fun t => .d (dT t)) (by simp) trivial (fun k t ht R h => ?_) (fun k t ht R h => ?_) (fun k => ?_) (by omega) ?_
  rotate_left
  · refine ⟨Nat.le_of_ble_eq_true rfl, ?_⟩
    refine ⟨rfl, ?_⟩
    infer_instance
    exact h
  · have hr : (c.asks.map dRow)[(k : Int).toNat]? = some (dRow t) := map_get ht
    have hq : (c.asks.map Tr.q)[(k : Int).toNat]? = some t.q := map_get ht
    have k0 : 0 ≤ (k : Int) := by omega
    (repeat eq_refl) <;> exact h
  · exact rfl
  infer_instance
  repeat eq_refl
  refine ⟨⟨by simp <;> omega, by simp <;> omega⟩, ?_⟩
  refine ⟨?_⟩
  try infer_instance
  refine lc_ix (xs := c.offs) (E := ?_) (f := fun t => .d (dT t)) (by simp) trivial (fun k t ht R h => ?_) (fun k t ht R h => ?_) (fun k => ?_) (by omega) ?_
  rotate_left
  · refine ⟨Nat.le_of_ble_eq_true rfl, ?_⟩
    refine ⟨rfl, ?_⟩
    infer_instance
    exact h
  · have hr : (c.offs.map dRow)[(k : Int).toNat]? = some (dRow t) := map_get ht
    have hq : (c.offs.map Tr.q)[(k : Int).toNat]? = some t.q := map_get ht
    have k0 : 0 ≤ (k : Int) := by omega
    (repeat eq_refl) <;> exact h
  · exact rfl
  infer_instance
  refine ⟨by decide, ?_⟩
  refine ⟨⟨⟩, ?_⟩
  refine ⟨rfl, ?_⟩
  refine Gf.fz 15 _ rfl (.mk ?_)
  infer_instance
  repeat eq_refl
  have rt : ∀ ts : List Tr, res (OT.l (List.map (fun t => OT.d (dT t)) ts)) = .lst (ts.map dT) := fun ts => by show D.lst (resL (tts ts)) = _; rw [resL_tts]
  refine .mk (S_netD (by omega) (by omega) (fun t ht => ⟨(V.tk t ht).1, (V.tk t ht).2.1⟩) (fun t ht => (V.ak t ht).1) (fun t ht => (V.ok t ht).1) ?_)
  refine ⟨_, rfl, ?_⟩
  refine ⟨?_⟩
  infer_instance
  have hz : (netF c.z c.ties c.asks c.offs).length = c.z.toNat := netF_len
  generalize hN : netF c.z c.ties c.asks c.offs = N at hz
  refine lc_pure (enc := D.int) (xs := N) (E := ?_) (c := fun n => !decide (n = 0)) (f := fun _ => .d (.int 1)) trivial (fun n hn R h => ?_) (fun n hn R h => ?_) (fun n hn g R h => ?_) (fun n hn => ?_) ?_ ?_
  rotate_left
  · refine ⟨Nat.le_of_ble_eq_true rfl, ?_⟩
    refine ⟨rfl, ?_⟩
    infer_instance
    exact h
  · repeat eq_refl
  · exact h
  · exact rfl
  · simp; omega
  have e1 : ∀ F : List Int, F.map (fun _ => OT.d (D.int 1)) = ti (F.map fun _ => 1) := fun F => by simp [ti]
  rw [List.nil_append, e1]
  have i4 : (N.filter fun n => !decide (n = 0)).map (fun _ => (1 : Int)) = [] ↔ N = List.replicate c.z.toNat 0 := by
    rw [List.map_eq_nil_iff, List.filter_eq_nil_iff, ← hz, List.eq_replicate_iff]
    simp
  have l4 : ((N.filter fun n => !decide (n = 0)).map (fun _ => (1 : Int))).length ≤ N.length := by rw [List.length_map]; exact List.length_filter_le _ _
  generalize (N.filter fun n => !decide (n = 0)).map (fun _ => (1 : Int)) = F4 at i4 l4
  refine ⟨?_, ?_⟩
  · show (li F3).length + (resL (ti F4)).length ≤ 1000000
    rw [resL_ti, li_len, li_len]; omega
  · have e4 : (li F3 ++ resL (ti F4)).map OT.d = ti (F3 ++ F4) := by rw [resL_ti, ← ti_map, li, li, li, List.map_append, List.map_append, List.map_append]
    show Q (.o (.l ((li F3 ++ resL (ti F4)).map OT.d))) [SV.no, SV.no, SV.no]
    rw [e4]
    refine h _ ?_
    rw [List.append_eq_nil_iff, F3i, F2i, F1i, i0, i4, Fine, hN, and_assoc, and_assoc, and_assoc]
end K84
end SP84g
section SP84h
set_option linter.all false
set_option Elab.async false
set_option maxHeartbeats 1000000
open PySem PySem.Spec PyProof.Rows L2
namespace K84
open Bv
local macro_rules | `(tactic| infer_instance) => `(tactic| simp only [frameE, argF, List.map_cons, List.map_nil, List.cons_append, List.nil_append, List.length_cons, List.length_nil, Nat.reduceAdd, Nat.reduceSub, Int.reduceAdd, List.replicate, sset, clr, clr1, mutE, treeOf, sget, SV.put, nodeSet, clrx, clrx1, hideR, restE, keepD, refs, Int.toNat_zero, Int.reduceToNat, List.set_cons_zero, List.set_cons_succ, reduceIte, Nat.reduceEqDiff, reduceCtorEq, sx, res, resL, resL_ti, resL_d, resL_f, resL_tts, forgetL, forget, ti_snoc, tts_snoc, ti_set, List.getElem?_cons_zero, List.getElem?_cons_succ, nodeAt, Bool.and_false, Bool.false_and, Bool.false_eq_true])
local macro_rules | `(tactic| eq_refl) => `(tactic| first | with_reducible assumption | (with_reducible refine seqRet ?_) | (with_reducible refine orV (c1 := ?_) (c2 := ?_) (fun R h => ?_) (fun g R h => ?_) ?_; rotate_left 2) | (with_reducible refine andV (c1 := ?_) (c2 := ?_) (fun R h => ?_) (fun g R h => ?_) ?_; rotate_left 2) | (with_reducible refine seqIf (c := ?_) (fun R h => ?_) ?_; rotate_left) | (with_reducible refine ifS (c := ?_) (fun R h => ?_) ?_; rotate_left) | (with_reducible refine orT (c1 := ?_) (c2 := ?_) (fun R h => ?_) (fun g R h => ?_) ?_; rotate_left 2) | (with_reducible refine andT (c1 := ?_) (c2 := ?_) (fun R h => ?_) (fun g R h => ?_) ?_; rotate_left 2) | (with_reducible refine testC (w := wChain _ _ _ _ _) (c := ?_) (fun R h => ?_) ?_; rotate_left) | (with_reducible refine chainV (x := ?_) (y := ?_) (z := ?_) (c1 := ?_) (c2 := ?_) (fun R h => ?_) (fun R h => ?_) (fun R h => ?_) (fun g R h => ?_) (fun g R h => ?_) ?_; rotate_left 5) | (with_reducible refine notT (c1 := ?_) (fun R h => ?_) ?_; rotate_left) | refine ⟨rfl, ?_⟩ | refine ⟨_, rfl, ?_⟩ | refine ⟨⟨⟩, ?_⟩ | (apply Gf.mk; try infer_instance) | refine ⟨by first | decide | (dsimp only; decide), ?_⟩ | refine ⟨⟨by decide, by decide, by decide⟩, ?_⟩ | refine ⟨Or.inr ⟨by decide, by decide⟩, ?_⟩ | refine ⟨Or.inl ⟨by decide, by decide⟩, ?_⟩ | refine ixS_at (by assumption) (by first | exact ti_get (by assumption) | exact map_get (li_get (by assumption)) | exact map_get (by assumption)) ?_ | refine ⟨nd1, ?_⟩ | refine ⟨nd0, ?_⟩ | refine ⟨Nat.le_of_ble_eq_true rfl, ?_⟩ | refine ⟨by simp only [ti_len, tts_len, li_len, List.length_map, List.length_append, List.length_cons, List.length_nil]; omega, ?_⟩ | refine ⟨⟨rfl, by decide⟩, _, rfl, ?_⟩ | refine ⟨⟨rfl, by decide⟩, ?_⟩ | ((with_reducible apply tupD); exact rfl; first | exact allD_ti | exact allD_f | exact allD_map _) | ((with_reducible apply consTup); exact rfl; first | exact allD_ti | exact allD_f | exact allD_map _) | ((with_reducible apply tupCons); exact rfl; first | exact allD_ti | exact allD_f | exact allD_map _) | ((with_reducible apply tupS); exact rfl; first | exact allD_ti | exact allD_f | exact allD_map _) | ((with_reducible apply lstS); exact rfl; first | exact allD_ti | exact allD_f | exact allD_map _) | refine Brn.t rfl ?_ | refine Brn.f rfl ?_ | assumption)
local macro_rules | `(tactic| ac_rfl) => `(tactic| first | with_reducible assumption | (with_reducible refine seqRet ?_) | (with_reducible refine orV (c1 := ?_) (c2 := ?_) (fun R h => ?_) (fun g R h => ?_) ?_; rotate_left 2) | (with_reducible refine andV (c1 := ?_) (c2 := ?_) (fun R h => ?_) (fun g R h => ?_) ?_; rotate_left 2) | (with_reducible refine seqIf (c := ?_) (fun R h => ?_) ?_; rotate_left) | (with_reducible refine ifS (c := ?_) (fun R h => ?_) ?_; rotate_left) | (with_reducible refine orT (c1 := ?_) (c2 := ?_) (fun R h => ?_) (fun g R h => ?_) ?_; rotate_left 2) | (with_reducible refine andT (c1 := ?_) (c2 := ?_) (fun R h => ?_) (fun g R h => ?_) ?_; rotate_left 2) | (with_reducible refine testC (w := wChain _ _ _ _ _) (c := ?_) (fun R h => ?_) ?_; rotate_left) | (with_reducible refine chainV (x := ?_) (y := ?_) (z := ?_) (c1 := ?_) (c2 := ?_) (fun R h => ?_) (fun R h => ?_) (fun R h => ?_) (fun g R h => ?_) (fun g R h => ?_) ?_; rotate_left 5) | (with_reducible refine notT (c1 := ?_) (fun R h => ?_) ?_; rotate_left) | refine ⟨rfl, ?_⟩ | refine ⟨_, rfl, ?_⟩ | refine ⟨⟨⟩, ?_⟩ | refine ⟨by first | decide | (dsimp only; decide), ?_⟩ | refine ⟨⟨by decide, by decide, by decide⟩, ?_⟩ | refine ⟨Or.inr ⟨by decide, by decide⟩, ?_⟩ | refine ⟨Or.inl ⟨by decide, by decide⟩, ?_⟩ | refine ixS_at (by assumption) (by first | exact ti_get (by assumption) | exact map_get (li_get (by assumption)) | exact map_get (by assumption)) ?_ | refine ⟨nd1, ?_⟩ | refine ⟨nd0, ?_⟩ | refine ⟨Nat.le_of_ble_eq_true rfl, ?_⟩ | refine ⟨by simp only [ti_len, tts_len, li_len, List.length_map, List.length_append, List.length_cons, List.length_nil]; omega, ?_⟩ | refine ⟨⟨rfl, by decide⟩, _, rfl, ?_⟩ | refine ⟨⟨rfl, by decide⟩, ?_⟩ | ((with_reducible apply tupD); exact rfl; first | exact allD_ti | exact allD_f | exact allD_map _) | ((with_reducible apply consTup); exact rfl; first | exact allD_ti | exact allD_f | exact allD_map _) | ((with_reducible apply tupCons); exact rfl; first | exact allD_ti | exact allD_f | exact allD_map _) | ((with_reducible apply tupS); exact rfl; first | exact allD_ti | exact allD_f | exact allD_map _) | ((with_reducible apply lstS); exact rfl; first | exact allD_ti | exact allD_f | exact allD_map _) | refine Brn.t rfl ?_ | refine Brn.f rfl ?_ | assumption)
/-- the market of a case -/
def hallD (ad : Nat → Addr) (c : Cs) : D := .ins (ad 10) [(99, .int c.z), (48, .tup (c.ties.map dRow)), (16, .tup (c.asks.map dRow)), (58, .tup (c.offs.map dRow))]
/-- a trade with what it gives -/
structure Tg where
  z : Int
  p : Int
  lo : Int
  hi : Int
  n : Int
def dG (t : Tg) : D := .tup [.int t.z, .int t.p, .int t.lo, .int t.hi]
def gA (t : Tr) : Tg := ⟨t.s, t.p, -t.u, 0, -t.q⟩
def gO (t : Tr) : Tg := ⟨t.s, t.p, 0, t.u, t.q⟩
def tgs (c : Cs) : List Tg := c.asks.map gA ++ c.offs.map gO
theorem S_trades_of {ad : Nat → Addr} {c : Cs} {Q : EV → BEnv → Prop} (V : Rows c) (h : Q (.o (.l (((tgs c).map dG).map .d))) [SV.no]) : W_trades_of ad [.t (.d (hallD ad c))] Q := by
  have al := V.al
  have ol := V.ol
  repeat eq_refl
  refine ⟨?_⟩
  try infer_instance
  refine lc_map (enc := dRow) (xs := c.asks) (E := ?_) (f := fun t => .d (dG (gA t))) trivial (fun t ht R h => ?_) (fun t ht R h => ?_) (fun t ht => ?_) (by omega) ?_
  rotate_left
  · (repeat eq_refl) <;> exact h
  · (repeat eq_refl) <;> exact h
  · exact rfl
  repeat eq_refl
  refine ⟨?_⟩
  try infer_instance
  refine lc_map (enc := dRow) (xs := c.offs) (E := ?_) (f := fun t => .d (dG (gO t))) trivial (fun t ht R h => ?_) (fun t ht R h => ?_) (fun t ht => ?_) (by omega) ?_
  rotate_left
  · (repeat eq_refl) <;> exact h
  · (repeat eq_refl) <;> exact h
  · exact rfl
  repeat eq_refl
  have e1 : resL (List.map (fun t => OT.d (dG (gA t))) c.asks) = c.asks.map fun t => dG (gA t) := resL_f
  have e2 : resL (List.map (fun t => OT.d (dG (gO t))) c.offs) = c.offs.map fun t => dG (gO t) := resL_f
  refine ⟨?_, ?_⟩
  · show (resL (List.map (fun t => OT.d (dG (gA t))) c.asks)).length + (resL (List.map (fun t => OT.d (dG (gO t))) c.offs)).length ≤ 1000000
    rw [e1, e2, List.length_map, List.length_map]; omega
  · show Q (.o (.l ((resL (List.map (fun t => OT.d (dG (gA t))) c.asks) ++ resL (List.map (fun t => OT.d (dG (gO t))) c.offs)).map OT.d))) [SV.no]
    rw [e1, e2]
    have e3 : (tgs c).map dG = (c.asks.map fun t => dG (gA t)) ++ (c.offs.map fun t => dG (gO t)) := by rw [tgs, List.map_append, List.map_map, List.map_map]; exact rfl
    refine Eq.mp (by rw [← e3]) h
def given (c : Cs) : List Int := (tgs c).map Tg.n
theorem addAt_comm_get {l : List Int} {i v j : Int} (hi : 0 ≤ i) (hj : 0 ≤ j) : (addAt l i v)[j.toNat]? = (l[j.toNat]?).map fun w => w + if i = j then v else 0 := addAt_get hi hj
def nG (n : List Int) (t : Tg) : List Int := addAt n t.z t.n
def nL (n : List Int) (t : Tr) : List Int := addAt (addAt n t.s (-t.q)) t.u t.q
theorem nG_len (ts : List Tg) (n : List Int) : (ts.foldl nG n).length = n.length := fold_len (fun n t => by simp [nG, addAt_len]) ts n
theorem tgs_fold {c : Cs} {N : List Int} : (tgs c).foldl nG N = c.offs.foldl nOff (c.asks.foldl nAsk N) := by
  rw [tgs, List.foldl_append, List.foldl_map, List.foldl_map]
  exact rfl
theorem left_eq {c : Cs} (V : Rows c) : c.ties.foldl nTie ((tgs c).foldl nG (List.replicate c.z.toNat 0)) = netF c.z c.ties c.asks c.offs := by
  rw [tgs_fold]
  have l1 : (c.ties.foldl nTie (c.offs.foldl nOff (c.asks.foldl nAsk (List.replicate c.z.toNat 0)))).length = c.z.toNat := by
    rw [fold_len (fun n t => by simp [nTie, addAt_len]), fold_len (fun n t => by simp [nOff, addAt_len]), fold_len (fun n t => by simp [nAsk, addAt_len]), List.length_replicate]
  refine List.ext_getElem? fun i => ?_
  by_cases hi : i < c.z.toNat
  · have h1 : ∀ t ∈ c.ties, 0 ≤ t.s ∧ 0 ≤ t.u := fun t ht => ⟨(V.tk t ht).1.1, (V.tk t ht).2.1.1⟩
    have h2 : ∀ t ∈ c.asks, 0 ≤ t.s := fun t ht => (V.ak t ht).1.1
    have h3 : ∀ t ∈ c.offs, 0 ≤ t.s := fun t ht => (V.ok t ht).1.1
    have e1 := net_get (z := c.z) (j := (i : Int)) (by omega) (by omega) h1 h2 h3
    have e2 := tie_get (j := (i : Int)) (by omega) (net := c.offs.foldl nOff (c.asks.foldl nAsk (List.replicate c.z.toNat 0))) h1
    rw [off_get (by omega) h3, ask_get (by omega) h2] at e2
    rw [Int.toNat_natCast] at e1 e2
    rw [e1, e2, List.getElem?_replicate, if_pos hi]
    simp only [Option.map_some]
    congr 1
    omega
  · rw [List.getElem?_eq_none (by omega), List.getElem?_eq_none (by rw [netF_len]; omega)]
/-- within the bounds, and balanced -/
def Bal (c : Cs) : Prop := (∀ t ∈ tgs c, t.lo ≤ t.n ∧ t.n ≤ t.hi) ∧ (∀ t ∈ c.ties, -t.p ≤ t.q ∧ t.q ≤ t.p) ∧ netF c.z c.ties c.asks c.offs = List.replicate c.z.toNat 0
theorem tgs_z {c : Cs} (V : Rows c) : ∀ t ∈ tgs c, 0 ≤ t.z ∧ t.z < c.z := fun t ht => by
  rcases List.mem_append.mp ht with h | h
  · obtain ⟨x, hx, rfl⟩ := List.mem_map.mp h
    exact (V.ak x hx).1
  · obtain ⟨x, hx, rfl⟩ := List.mem_map.mp h
    exact (V.ok x hx).1
theorem S_is_balanced {ad : Nat → Addr} {c : Cs} {Q : EV → BEnv → Prop} (V : Rows c) (h : ∀ b, (b = true ↔ Bal c) → Q (.d (.bl b)) [SV.no, SV.no, SV.no]) :
    W_is_balanced ad [.t (.d (hallD ad c)), .t (.d (.lst (li (given c)))), .t (.d (.tup (li (c.ties.map Tr.q))))] Q := by
  have z0 := V.z0
  have z1 := V.z1
  repeat eq_refl
  refine ⟨⟨by omega, by omega⟩, ?_⟩
  refine ⟨by show 1 * c.z.toNat ≤ 1000000; omega, ?_⟩
  rw [show resL [OT.d (D.int 0)] = [D.int 0] from rfl, zeros]
  repeat eq_refl
  refine .mk (S_trades_of V ?_)
  repeat eq_refl
  refine ⟨?_⟩
  rw [resL_d, show li (given c) = (tgs c).map (fun t => D.int t.n) from by simp [li, given], zip2_map]
  try infer_instance
  refine for_st (fun t : Tg => .tup [dG t, .int t.n]) (fun l => [.t (.d (hallD ad c)), .t (.d (.lst ((tgs c).map fun t => D.int t.n))), .t (.d (.tup (li (c.ties.map Tr.q)))), .t (.l (ti l)), .no, .no, .no, .no, .no, .no, .no, .no]) (fun r l => ∃ pre, tgs c = pre ++ r ∧ (∀ t ∈ pre, t.lo ≤ t.n ∧ t.n ≤ t.hi) ∧ l = pre.foldl nG (List.replicate c.z.toNat 0)) ?_ ?_ _ _ ⟨[], rfl, by simp, rfl⟩
  · rintro t r l C' ⟨pre, e, hp, hl⟩ cr cb ih ih2 fg fg2
    have hmem : t ∈ tgs c := by rw [e]; simp
    have ⟨t0, t1⟩ := tgs_z V t hmem
    have ll : l.length = c.z.toNat := by rw [hl, nG_len, List.length_replicate]
    obtain ⟨v, hv⟩ := int_get (xs := l) t0 (by omega)
    repeat eq_refl
    refine .of (fun g => ?_) (fun g => ?_)
    · repeat eq_refl
      rw [cr]
      refine h false ⟨(fun z => nomatch z), fun B => ?_⟩
      have := B.1 t hmem
      simp at g
      omega
    · repeat eq_refl
      have e1 : l.set t.z.toNat (augF true v t.n) = nG l t := by rw [nG, addAt_eq hv]; exact rfl
      rw [e1]
      refine fg [4, 5, 6, 7, 8] _ rfl (ih _ ⟨pre ++ [t], by rw [e]; simp, fun x hx => ?_, by rw [List.foldl_append, ← hl]; exact rfl⟩)
      rcases List.mem_append.mp hx with q | q
      · exact hp x q
      · rw [List.mem_singleton.mp q]; simp at g; omega
  intro l ⟨pre, e, hp, hl⟩
  rw [List.append_nil] at e
  subst e
  refine ⟨⟨⟩, ?_⟩
  repeat eq_refl
  refine ⟨?_⟩
  rw [show li (c.ties.map Tr.q) = c.ties.map (fun t => D.int t.q) from by simp [li], zip2_map]
  try infer_instance
  refine for_st (fun t : Tr => .tup [dRow t, .int t.q]) (fun l => [.t (.d (hallD ad c)), .t (.d (.lst ((tgs c).map fun t => D.int t.n))), .t (.d (.tup (c.ties.map fun t => D.int t.q))), .t (.l (ti l)), .no, .no, .no, .no, .no, .no, .no, .no]) (fun r l' => ∃ pre, c.ties = pre ++ r ∧ (∀ t ∈ pre, -t.p ≤ t.q ∧ t.q ≤ t.p) ∧ l' = pre.foldl nTie l) ?_ ?_ _ _ ⟨[], rfl, by simp, rfl⟩
  · rintro t r l' C' ⟨pre, e, hp', hl'⟩ cr cb ih ih2 fg fg2
    have hmem : t ∈ c.ties := by rw [e]; simp
    obtain ⟨⟨t0, t1⟩, ⟨u0, u1⟩, _⟩ := V.tk t hmem
    have ll : l'.length = c.z.toNat := by rw [hl', fold_len (fun n t => by simp [nTie, addAt_len]), hl, nG_len, List.length_replicate]
    obtain ⟨v, hv⟩ := int_get (xs := l') t0 (by omega)
    have e1 : l'.set t.s.toNat (augF false v t.q) = addAt l' t.s (-t.q) := by rw [addAt_eq hv, ← Int.sub_eq_add_neg]; exact rfl
    obtain ⟨w, hw⟩ := int_get (xs := addAt l' t.s (-t.q)) u0 (by rw [addAt_len]; omega)
    have e2 : (addAt l' t.s (-t.q)).set t.u.toNat (augF true w t.q) = nTie l' t := by rw [nTie, addAt_eq hw]; exact rfl
    repeat eq_refl
    refine .of (fun g => ?_) (fun g => ?_)
    · repeat eq_refl
      rw [cr]
      refine h false ⟨(fun z => nomatch z), fun B => ?_⟩
      have := B.2.1 t hmem
      simp at g
      omega
    · repeat eq_refl
      rw [e1]
      repeat eq_refl
      rw [e2]
      refine fg [8, 9, 10, 11] _ rfl (ih _ ⟨pre ++ [t], by rw [e]; simp, fun x hx => ?_, by rw [List.foldl_append, ← hl']; exact rfl⟩)
      rcases List.mem_append.mp hx with q | q
      · exact hp' x q
      · rw [List.mem_singleton.mp q]; simp at g; omega
  intro l' ⟨pre, e, hp', hl'⟩
  rw [List.append_nil] at e
  subst e
  refine ⟨⟨⟩, ?_⟩
  repeat eq_refl
  refine ⟨⟨by omega, by omega⟩, by show 1 * c.z.toNat ≤ 1000000; omega, ?_⟩
  have hL : l' = netF c.z c.ties c.asks c.offs := by rw [hl', hl, left_eq V]
  have e1 : res (OT.l (ti l')) = .lst (li l') := by rw [res, resL_ti]
  have e2 : res (OT.l ((List.replicate c.z.toNat (resL [OT.d (D.int 0)])).flatten.map .d)) = .lst (li (List.replicate c.z.toNat 0)) := by
    rw [show resL [OT.d (D.int 0)] = [D.int 0] from rfl, zeros, res, resL_ti]
  obtain ⟨b, hb, hbi⟩ := eqD_pc (d := 2) (by decide) (pc_li (d := 0) (ns := l')) (pc_li (d := 0) (ns := List.replicate c.z.toNat 0))
  refine ⟨b, ?_, ?_⟩
  · rw [e1, e2, hb]
  · refine h b ?_
    rw [hbi, D.lst.injEq, li_inj, hL]
    exact ⟨fun q => ⟨hp, hp', q⟩, fun q => q.2.2⟩
theorem S_is_balanced' {ad : Nat → Addr} {c : Cs} {Q : EV → BEnv → Prop} (V : Rows c) (h : Q (.d (.bl (pdec (Bal c)))) [SV.no, SV.no, SV.no]) :
    W_is_balanced ad [.t (.d (hallD ad c)), .t (.d (.lst (li (given c)))), .t (.d (.tup (li (c.ties.map Tr.q))))] Q := S_is_balanced V fun b hb => (pdec_eq hb) ▸ h
theorem bal_fine {c : Cs} : Fine c → Bal c := fun F => by
  refine ⟨fun t ht => ?_, fun t ht => ⟨(F.2.2.2.1 t ht).1, (F.2.2.2.1 t ht).2.1⟩, F.2.2.2.2⟩
  rcases List.mem_append.mp ht with q | q
  · obtain ⟨x, hx, rfl⟩ := List.mem_map.mp q
    have := F.2.1 x hx
    exact ⟨by show -x.u ≤ -x.q; have := this.2.1; omega, by show -x.q ≤ 0; have := this.1; omega⟩
  · obtain ⟨x, hx, rfl⟩ := List.mem_map.mp q
    have := F.2.2.1 x hx
    exact ⟨this.1, this.2.1⟩
def prOk (c : Cs) (t : Tg) : Prop := (mk c t.z < t.p → t.n = t.lo) ∧ (t.p < mk c t.z → t.n = t.hi)
def flOk (c : Cs) (t : Tr) : Prop := (mk c t.s < mk c t.u → t.q = t.p) ∧ (mk c t.u < mk c t.s → t.q = -t.p)
theorem fine_iff {c : Cs} : Fine c ↔ Bal c ∧ (∀ m ∈ c.ms, -99 ≤ m ∧ m ≤ 99) ∧ (∀ t ∈ tgs c, prOk c t) ∧ (∀ t ∈ c.ties, flOk c t) := by
  constructor
  · intro F
    refine ⟨bal_fine F, F.1, fun t ht => ?_, fun t ht => (F.2.2.2.1 t ht).2.2⟩
    rcases List.mem_append.mp ht with q | q
    · obtain ⟨x, hx, rfl⟩ := List.mem_map.mp q
      obtain ⟨_, _, a, b⟩ := F.2.1 x hx
      exact ⟨fun g => by show -x.q = -x.u; rw [a g], fun g => by show -x.q = 0; rw [b g]; rfl⟩
    · obtain ⟨x, hx, rfl⟩ := List.mem_map.mp q
      obtain ⟨_, _, a, b⟩ := F.2.2.1 x hx
      exact ⟨fun g => b g, fun g => a g⟩
  · rintro ⟨B, M, P, T⟩
    refine ⟨M, fun t ht => ?_, fun t ht => ?_, fun t ht => ⟨(B.2.1 t ht).1, (B.2.1 t ht).2, (T t ht).1, (T t ht).2⟩, B.2.2⟩
    · have m : gA t ∈ tgs c := List.mem_append_left _ (List.mem_map.mpr ⟨t, ht, rfl⟩)
      have b := B.1 _ m
      have p := P _ m
      have b1 : -t.u ≤ -t.q := b.1
      have b2 : -t.q ≤ 0 := b.2
      refine ⟨by omega, by omega, fun g => ?_, fun g => ?_⟩
      · have : -t.q = -t.u := p.1 g
        omega
      · have : -t.q = 0 := p.2 g
        omega
    · have m : gO t ∈ tgs c := List.mem_append_right _ (List.mem_map.mpr ⟨t, ht, rfl⟩)
      have b := B.1 _ m
      have p := P _ m
      exact ⟨b.1, b.2, fun g => p.2 g, fun g => p.1 g⟩
theorem S_shows_clearing {ad : Nat → Addr} {c : Cs} {Q : EV → BEnv → Prop} (V : Rows c) (h : ∀ b, (b = true ↔ Fine c) → Q (.d (.bl b)) [SV.no, SV.no, SV.no]) :
    W_shows_clearing ad [.t (.d (hallD ad c)), .t (.d (clrD c)), .t (.d (.tup (li c.ms)))] Q := by
  have al := V.al
  have ol := V.ol
  have z0 := V.z0
  have z1 := V.z1
  have ml := V.ml
  repeat eq_refl
  refine ⟨?_⟩
  try infer_instance
  refine lc_map (enc := D.int) (xs := c.asks.map Tr.q) (E := ?_) (f := fun n => .d (.int (-n))) trivial (fun t ht R h => ?_) (fun t ht R h => ?_) (fun t ht => ?_) (by simp; omega) ?_
  rotate_left
  · (repeat eq_refl) <;> exact h
  · (repeat eq_refl) <;> exact h
  · exact rfl
  refine ⟨?_, rfl, ?_⟩
  · show (resL (List.map (fun n => OT.d (D.int (-n))) (List.map Tr.q c.asks))).length + (resL ((li (List.map Tr.q c.offs)).map OT.d)).length ≤ 1000000
    rw [resL_f (f := fun n => D.int (-n)), resL_d, li_len, List.length_map, List.length_map, List.length_map]; omega
  refine Gf.fz 6 _ rfl (.mk ?_)
  try infer_instance
  rw [show List.map (fun n => D.int (-n)) (List.map Tr.q c.asks) ++ li (List.map Tr.q c.offs) = li (given c) from by simp [li, given, tgs, gA, gO, Function.comp_def]]
  repeat eq_refl
  refine .mk (S_is_balanced' V ?_)
  repeat eq_refl
  refine .dcn (fun nb => ?_) (fun B => ?_)
  · repeat eq_refl
    exact h false ⟨(fun z => nomatch z), fun F => absurd (bal_fine F) nb⟩
  repeat eq_refl
  refine ⟨?_⟩
  refine for_st D.int (fun _ : Unit => [.t (.d (hallD ad c)), .t (.d (clrD c)), .t (.d (.tup (li c.ms))), .t (.d (.tup (li (c.asks.map Tr.q)))), .t (.d (.tup (li (c.offs.map Tr.q)))), .t (.d (.tup (li (c.ties.map Tr.q)))), .t (.d (.lst (li (given c)))), .no, .no, .no, .no, .no, .no, .no, .no]) (fun r _ => ∃ pre, c.ms = pre ++ r ∧ ∀ m ∈ pre, -99 ≤ m ∧ m ≤ 99) ?_ ?_ _ () ⟨[], rfl, by simp⟩
  · rintro m r u C' ⟨pre, e, hp⟩ cr cb ih ih2 fg fg2
    have hmem : m ∈ c.ms := by rw [e]; simp
    repeat eq_refl
    refine .of (fun g => ?_) (fun g => ?_)
    · repeat eq_refl
      rw [cr]
      refine h false ⟨(fun z => nomatch z), fun F => ?_⟩
      have := F.1 m hmem
      simp at g
      omega
    · repeat eq_refl
      refine fg [8] _ rfl (ih () ⟨pre ++ [m], by rw [e]; simp, fun x hx => ?_⟩)
      rcases List.mem_append.mp hx with q | q
      · exact hp x q
      · rw [List.mem_singleton.mp q]; simp at g; omega
  rintro u ⟨pre, e, hp⟩
  rw [List.append_nil] at e
  subst e
  refine ⟨⟨⟩, ?_⟩
  repeat eq_refl
  refine .mk (S_trades_of V ?_)
  repeat eq_refl
  refine ⟨?_⟩
  rw [resL_d, show zip2D (List.map dG (tgs c)) (li (given c)) = (tgs c).map (fun t => D.tup [dG t, .int t.n]) from by rw [show li (given c) = (tgs c).map (fun t => D.int t.n) from by simp [li, given], zip2_map]]
  try infer_instance
  refine for_st (fun t : Tg => .tup [dG t, .int t.n]) (fun _ : Unit => [.t (.d (hallD ad c)), .t (.d (clrD c)), .t (.d (.tup (li c.ms))), .t (.d (.tup (li (c.asks.map Tr.q)))), .t (.d (.tup (li (c.offs.map Tr.q)))), .t (.d (.tup (li (c.ties.map Tr.q)))), .t (.d (.lst (li (given c)))), .no, .no, .no, .no, .no, .no, .no, .no]) (fun r _ => ∃ pre, tgs c = pre ++ r ∧ ∀ t ∈ pre, prOk c t) ?_ ?_ _ () ⟨[], rfl, by simp⟩
  · rintro t r u C' ⟨pre, e, hp⟩ cr cb ih ih2 fg fg2
    have hmem : t ∈ tgs c := by rw [e]; simp
    have ⟨t0, t1⟩ := tgs_z V t hmem
    have hm := mk_get V t0 t1
    repeat eq_refl
    refine .of (fun g => ?_) (fun g => ?_)
    · repeat eq_refl
      rw [cr]
      refine h false ⟨(fun z => nomatch z), fun F => ?_⟩
      have := (fine_iff.mp F).2.2.1 t hmem
      simp at g
      simp only [prOk] at this
      omega
    · repeat eq_refl
      refine fg [7, 8, 9, 10, 11] _ rfl (ih () ⟨pre ++ [t], by rw [e]; simp, fun x hx => ?_⟩)
      rcases List.mem_append.mp hx with q | q
      · exact hp x q
      · rw [List.mem_singleton.mp q]; simp at g; simp only [prOk]; omega
  rintro u ⟨pre, e, hp2⟩
  rw [List.append_nil] at e
  subst e
  refine ⟨⟨⟩, ?_⟩
  repeat eq_refl
  refine ⟨?_⟩
  rw [show zip2D (List.map dRow c.ties) (li (c.ties.map Tr.q)) = c.ties.map (fun t => D.tup [dRow t, .int t.q]) from by rw [show li (c.ties.map Tr.q) = c.ties.map (fun t => D.int t.q) from by simp [li], zip2_map]]
  try infer_instance
  refine for_st (fun t : Tr => .tup [dRow t, .int t.q]) (fun _ : Unit => [.t (.d (hallD ad c)), .t (.d (clrD c)), .t (.d (.tup (li c.ms))), .t (.d (.tup (li (c.asks.map Tr.q)))), .t (.d (.tup (li (c.offs.map Tr.q)))), .t (.d (.tup (li (c.ties.map Tr.q)))), .t (.d (.lst (li (given c)))), .no, .no, .no, .no, .no, .no, .no, .no]) (fun r _ => ∃ pre, c.ties = pre ++ r ∧ ∀ t ∈ pre, flOk c t) ?_ ?_ _ () ⟨[], rfl, by simp⟩
  · rintro t r u C' ⟨pre, e, hp⟩ cr cb ih ih2 fg fg2
    have hmem : t ∈ c.ties := by rw [e]; simp
    obtain ⟨⟨t0, t1⟩, ⟨u0, u1⟩, _⟩ := V.tk t hmem
    have hm := mk_get V t0 t1
    have hm2 := mk_get V u0 u1
    repeat eq_refl
    refine .of (fun g => ?_) (fun g => ?_)
    · repeat eq_refl
      rw [cr]
      refine h false ⟨(fun z => nomatch z), fun F => ?_⟩
      have := (fine_iff.mp F).2.2.2 t hmem
      simp at g
      simp only [flOk] at this
      omega
    · repeat eq_refl
      refine fg [7, 12, 13, 14] _ rfl (ih () ⟨pre ++ [t], by rw [e]; simp, fun x hx => ?_⟩)
      rcases List.mem_append.mp hx with q | q
      · exact hp x q
      · rw [List.mem_singleton.mp q]; simp at g; simp only [flOk]; omega
  rintro u ⟨pre, e, hp3⟩
  rw [List.append_nil] at e
  subst e
  refine ⟨⟨⟩, ?_⟩
  repeat eq_refl
  exact h true ⟨fun _ => fine_iff.mpr ⟨B, hp, hp2, hp3⟩, fun _ => rfl⟩
end K84
end SP84h
section SP84i
set_option linter.all false
set_option Elab.async false
set_option maxHeartbeats 1000000
open PySem PySem.Spec PyProof.Rows L2
namespace K84
open Bv
local macro_rules | `(tactic| infer_instance) => `(tactic| simp only [frameE, argF, List.map_cons, List.map_nil, List.cons_append, List.nil_append, List.length_cons, List.length_nil, Nat.reduceAdd, Nat.reduceSub, Int.reduceAdd, List.replicate, sset, clr, clr1, mutE, treeOf, sget, SV.put, nodeSet, clrx, clrx1, hideR, restE, keepD, refs, Int.toNat_zero, Int.reduceToNat, List.set_cons_zero, List.set_cons_succ, reduceIte, Nat.reduceEqDiff, reduceCtorEq, sx, res, resL, resL_ti, resL_d, resL_f, resL_tts, forgetL, forget, ti_snoc, tts_snoc, ti_set, List.getElem?_cons_zero, List.getElem?_cons_succ, nodeAt, Bool.and_false, Bool.false_and, Bool.false_eq_true])
local macro_rules | `(tactic| eq_refl) => `(tactic| first | with_reducible assumption | (with_reducible refine seqRet ?_) | (with_reducible refine orV (c1 := ?_) (c2 := ?_) (fun R h => ?_) (fun g R h => ?_) ?_; rotate_left 2) | (with_reducible refine andV (c1 := ?_) (c2 := ?_) (fun R h => ?_) (fun g R h => ?_) ?_; rotate_left 2) | (with_reducible refine seqIf (c := ?_) (fun R h => ?_) ?_; rotate_left) | (with_reducible refine ifS (c := ?_) (fun R h => ?_) ?_; rotate_left) | (with_reducible refine orT (c1 := ?_) (c2 := ?_) (fun R h => ?_) (fun g R h => ?_) ?_; rotate_left 2) | (with_reducible refine andT (c1 := ?_) (c2 := ?_) (fun R h => ?_) (fun g R h => ?_) ?_; rotate_left 2) | (with_reducible refine testC (w := wChain _ _ _ _ _) (c := ?_) (fun R h => ?_) ?_; rotate_left) | (with_reducible refine chainV (x := ?_) (y := ?_) (z := ?_) (c1 := ?_) (c2 := ?_) (fun R h => ?_) (fun R h => ?_) (fun R h => ?_) (fun g R h => ?_) (fun g R h => ?_) ?_; rotate_left 5) | (with_reducible refine notT (c1 := ?_) (fun R h => ?_) ?_; rotate_left) | refine ⟨rfl, ?_⟩ | refine ⟨_, rfl, ?_⟩ | refine ⟨⟨⟩, ?_⟩ | (apply Gf.mk; try infer_instance) | refine ⟨by first | decide | (dsimp only; decide), ?_⟩ | refine ⟨⟨by decide, by decide, by decide⟩, ?_⟩ | refine ⟨Or.inr ⟨by decide, by decide⟩, ?_⟩ | refine ⟨Or.inl ⟨by decide, by decide⟩, ?_⟩ | refine ixS_at (by assumption) (by first | exact ti_get (by assumption) | exact map_get (li_get (by assumption)) | exact map_get (by assumption)) ?_ | refine ⟨nd1, ?_⟩ | refine ⟨nd0, ?_⟩ | refine ⟨Nat.le_of_ble_eq_true rfl, ?_⟩ | refine ⟨by simp only [ti_len, tts_len, li_len, List.length_map, List.length_append, List.length_cons, List.length_nil]; omega, ?_⟩ | refine ⟨⟨rfl, by decide⟩, _, rfl, ?_⟩ | refine ⟨⟨rfl, by decide⟩, ?_⟩ | ((with_reducible apply tupD); exact rfl; first | exact allD_ti | exact allD_f | exact allD_map _) | ((with_reducible apply consTup); exact rfl; first | exact allD_ti | exact allD_f | exact allD_map _) | ((with_reducible apply tupCons); exact rfl; first | exact allD_ti | exact allD_f | exact allD_map _) | ((with_reducible apply tupS); exact rfl; first | exact allD_ti | exact allD_f | exact allD_map _) | ((with_reducible apply lstS); exact rfl; first | exact allD_ti | exact allD_f | exact allD_map _) | refine Brn.t rfl ?_ | refine Brn.f rfl ?_ | assumption)
local macro_rules | `(tactic| ac_rfl) => `(tactic| first | with_reducible assumption | (with_reducible refine seqRet ?_) | (with_reducible refine orV (c1 := ?_) (c2 := ?_) (fun R h => ?_) (fun g R h => ?_) ?_; rotate_left 2) | (with_reducible refine andV (c1 := ?_) (c2 := ?_) (fun R h => ?_) (fun g R h => ?_) ?_; rotate_left 2) | (with_reducible refine seqIf (c := ?_) (fun R h => ?_) ?_; rotate_left) | (with_reducible refine ifS (c := ?_) (fun R h => ?_) ?_; rotate_left) | (with_reducible refine orT (c1 := ?_) (c2 := ?_) (fun R h => ?_) (fun g R h => ?_) ?_; rotate_left 2) | (with_reducible refine andT (c1 := ?_) (c2 := ?_) (fun R h => ?_) (fun g R h => ?_) ?_; rotate_left 2) | (with_reducible refine testC (w := wChain _ _ _ _ _) (c := ?_) (fun R h => ?_) ?_; rotate_left) | (with_reducible refine chainV (x := ?_) (y := ?_) (z := ?_) (c1 := ?_) (c2 := ?_) (fun R h => ?_) (fun R h => ?_) (fun R h => ?_) (fun g R h => ?_) (fun g R h => ?_) ?_; rotate_left 5) | (with_reducible refine notT (c1 := ?_) (fun R h => ?_) ?_; rotate_left) | refine ⟨rfl, ?_⟩ | refine ⟨_, rfl, ?_⟩ | refine ⟨⟨⟩, ?_⟩ | refine ⟨by first | decide | (dsimp only; decide), ?_⟩ | refine ⟨⟨by decide, by decide, by decide⟩, ?_⟩ | refine ⟨Or.inr ⟨by decide, by decide⟩, ?_⟩ | refine ⟨Or.inl ⟨by decide, by decide⟩, ?_⟩ | refine ixS_at (by assumption) (by first | exact ti_get (by assumption) | exact map_get (li_get (by assumption)) | exact map_get (by assumption)) ?_ | refine ⟨nd1, ?_⟩ | refine ⟨nd0, ?_⟩ | refine ⟨Nat.le_of_ble_eq_true rfl, ?_⟩ | refine ⟨by simp only [ti_len, tts_len, li_len, List.length_map, List.length_append, List.length_cons, List.length_nil]; omega, ?_⟩ | refine ⟨⟨rfl, by decide⟩, _, rfl, ?_⟩ | refine ⟨⟨rfl, by decide⟩, ?_⟩ | ((with_reducible apply tupD); exact rfl; first | exact allD_ti | exact allD_f | exact allD_map _) | ((with_reducible apply consTup); exact rfl; first | exact allD_ti | exact allD_f | exact allD_map _) | ((with_reducible apply tupCons); exact rfl; first | exact allD_ti | exact allD_f | exact allD_map _) | ((with_reducible apply tupS); exact rfl; first | exact allD_ti | exact allD_f | exact allD_map _) | ((with_reducible apply lstS); exact rfl; first | exact allD_ti | exact allD_f | exact allD_map _) | refine Brn.t rfl ?_ | refine Brn.f rfl ?_ | assumption)
theorem S_link_fits {ad : Nat → Addr} {c : Cs} {t : Tr} {Q : EV → BEnv → Prop} (V : Rows c) (ht : t ∈ c.ties) (h : Q (.d (.bl true)) [SV.no, SV.no]) :
    W_link_fits ad [.t (.d (.int c.z)), .t (.d (dRow t))] Q := by
  obtain ⟨⟨t0, t1⟩, ⟨u0, u1⟩, ne, p0, p1⟩ := V.tk t ht
  have e : ∀ b : Bool, b = true → Q (.d (.bl b)) [SV.no, SV.no] := fun b hb => hb ▸ h
  repeat eq_refl
  exact e _ (by simp; omega)
theorem S_trade_fits {ad : Nat → Addr} {c : Cs} {t : Tr} {Q : EV → BEnv → Prop} (V : (0 ≤ t.s ∧ t.s < c.z) ∧ 1 ≤ t.u ∧ t.u ≤ 30 ∧ -99 ≤ t.p ∧ t.p ≤ 99) (h : Q (.d (.bl true)) [SV.no, SV.no]) :
    W_trade_fits ad [.t (.d (.int c.z)), .t (.d (dRow t))] Q := by
  obtain ⟨⟨t0, t1⟩, u0, u1, p0, p1⟩ := V
  have e : ∀ b : Bool, b = true → Q (.d (.bl b)) [SV.no, SV.no] := fun b hb => hb ▸ h
  repeat eq_refl
  exact e _ (by simp; omega)
theorem S_bad_rows {ad : Nat → Addr} {c : Cs} {x : Str} {ts : List Tr} {most : Int} {f : Addr} {fs : WE} {Q : EV → BEnv → Prop} (hl : ts.length ≤ most) (h12 : ts.length ≤ 12)
    (hf : (f, fs) ∈ [(ad 6, W_link_fits ad), (ad 7, W_trade_fits ad)]) (hok : ∀ t ∈ ts, ∀ Q : EV → BEnv → Prop, Q (.d (.bl true)) [SV.no, SV.no] → fs [.t (.d (.int c.z)), .t (.d (dRow t))] Q) (h : Q (.d .non) [SV.no, SV.no, SV.no, SV.no, SV.no]) :
    W_bad_rows ad [.t (.d (.str x)), .t (.d (.tup (ts.map dRow))), .t (.d (.int most)), .t (.d (.adr f)), .t (.d (.int c.z))] Q := by
  unfold W_bad_rows bodyW
  try infer_instance
  repeat eq_refl
  refine .f (by simp; omega) ?_
  repeat eq_refl
  refine ⟨?_⟩
  rw [enum_map]
  refine for_st (fun p : Tr × Nat => D.tup [.int (p.2 : Int), dRow p.1]) (fun _ : Unit => [.t (.d (.str x)), .t (.d (.tup (ts.map dRow))), .t (.d (.int most)), .t (.d (.adr f)), .t (.d (.int c.z)), .no, .no]) (fun r _ => ∀ p ∈ r, p.1 ∈ ts) ?_ ?_ _ () ?_
  · rintro ⟨t, k⟩ r u C' hr cr cb ih ih2 fg fg2
    have ht : t ∈ ts := hr _ List.mem_cons_self
    repeat eq_refl
    refine ⟨f, fs, hf, Or.inl rfl, ?_⟩
    repeat eq_refl
    refine .mk (hok t ht _ ?_)
    repeat eq_refl
    exact fg [5, 6] _ rfl (ih () fun p hp => hr p (List.mem_cons_of_mem _ hp))
  · intro u _
    refine ⟨⟨⟩, ?_⟩
    repeat eq_refl
  · intro p hp
    exact (List.mem_zipIdx' hp).2 ▸ List.getElem_mem _
def hallF (c : Cs) : List (Nat × D) := [(99, .int c.z), (48, .tup (c.ties.map dRow)), (16, .tup (c.asks.map dRow)), (58, .tup (c.offs.map dRow))]
theorem S_bad_field {ad : Nat → Addr} {c : Cs} {Q : EV → BEnv → Prop} (V : Rows c) (h : Q (.d .non) [.t (.o (ad 10) (hallF c))]) : W_bad_field ad [.t (.o (ad 10) (hallF c))] Q := by
  have z0 := V.z0
  have z1 := V.z1
  have al := V.al
  have ol := V.ol
  have tl := V.tl
  unfold W_bad_field bodyW
  try infer_instance
  repeat eq_refl
  refine .f (by simp; omega) ?_
  repeat eq_refl
  refine .mk (S_bad_rows (fs := W_link_fits ad) (by omega) (by omega) List.mem_cons_self (fun t ht Q q => S_link_fits V ht q) ?_)
  repeat eq_refl
  refine .mk (S_bad_rows (fs := W_trade_fits ad) (by omega) (by omega) (List.mem_cons_of_mem _ List.mem_cons_self) (fun t ht Q q => S_trade_fits (V.ak t ht) q) ?_)
  repeat eq_refl
  refine .mk (S_bad_rows (fs := W_trade_fits ad) (by omega) (by omega) (List.mem_cons_of_mem _ List.mem_cons_self) (fun t ht Q q => S_trade_fits (V.ok t ht) q) ?_)
  repeat eq_refl
theorem S_init {ad : Nat → Addr} {c : Cs} {Q : EV → BEnv → Prop} (V : Rows c) (h : Q (.d .non) [.t (.o (ad 10) (hallF c)), .no, .no, .no, .no]) :
    W_Market___init__ ad [.t (.o (ad 10) []), .t (.d (.int c.z)), .t (.d (.tup (c.ties.map dRow))), .t (.d (.tup (c.asks.map dRow))), .t (.d (.tup (c.offs.map dRow)))] Q := by
  unfold W_Market___init__ bodyW
  try infer_instance
  repeat eq_refl
  refine .mk (S_bad_field V ?_)
  repeat eq_refl
def pays (c : Cs) : List Int := c.asks.map fun t => mk c t.s * t.q
def gets (c : Cs) : List Int := c.offs.map fun t => mk c t.s * t.q
def rents (c : Cs) : List Int := c.ties.map fun t => t.q * (mk c t.u - mk c t.s)
def payD (c : Cs) : D := .tup [.tup (li (pays c)), .tup (li (gets c)), .tup (li (rents c))]
theorem S_settlement {ad : Nat → Addr} {c : Cs} {Q : EV → BEnv → Prop} (V : Rows c) (h : Q (.d (payD c)) [SV.no, SV.no, SV.no]) :
    W_settlement ad [.t (.d (hallD ad c)), .t (.d (clrD c)), .t (.d (.tup (li c.ms)))] Q := by
  have al := V.al
  have ol := V.ol
  have tl := V.tl
  unfold W_settlement bodyW
  try infer_instance
  repeat eq_refl
  refine ⟨?_⟩
  rw [show zip2D (List.map dRow c.asks) (li (c.asks.map Tr.q)) = c.asks.map (fun t => D.tup [dRow t, .int t.q]) from by rw [show li (c.asks.map Tr.q) = c.asks.map (fun t => D.int t.q) from by simp [li], zip2_map]]
  try infer_instance
  refine lc_map (xs := c.asks) (E := ?_) (f := fun t => .d (.int (mk c t.s * t.q))) trivial (fun t ht R h => ?_) (fun t ht R h => ?_) (fun t ht => ?_) (by omega) ?_
  rotate_left
  · repeat (first | refine ⟨rfl, ?_⟩ | refine ⟨Nat.le_of_ble_eq_true rfl, ?_⟩)
    try infer_instance
    exact h
  · obtain ⟨⟨t0, t1⟩, _⟩ := V.ak t ht
    have hm := mk_get V t0 t1
    have := V.ab t ht
    repeat eq_refl
    refine ⟨mulR this.1 this.2, ?_⟩
    (repeat eq_refl) <;> exact h
  · exact rfl
  repeat eq_refl
  refine ⟨?_⟩
  rw [show zip2D (List.map dRow c.offs) (li (c.offs.map Tr.q)) = c.offs.map (fun t => D.tup [dRow t, .int t.q]) from by rw [show li (c.offs.map Tr.q) = c.offs.map (fun t => D.int t.q) from by simp [li], zip2_map]]
  try infer_instance
  refine lc_map (xs := c.offs) (E := ?_) (f := fun t => .d (.int (mk c t.s * t.q))) trivial (fun t ht R h => ?_) (fun t ht R h => ?_) (fun t ht => ?_) (by omega) ?_
  rotate_left
  · repeat (first | refine ⟨rfl, ?_⟩ | refine ⟨Nat.le_of_ble_eq_true rfl, ?_⟩)
    try infer_instance
    exact h
  · obtain ⟨⟨t0, t1⟩, _⟩ := V.ok t ht
    have hm := mk_get V t0 t1
    have := V.ob t ht
    repeat eq_refl
    refine ⟨mulR this.1 this.2, ?_⟩
    (repeat eq_refl) <;> exact h
  · exact rfl
  repeat eq_refl
  refine ⟨?_⟩
  rw [show zip2D (List.map dRow c.ties) (li (c.ties.map Tr.q)) = c.ties.map (fun t => D.tup [dRow t, .int t.q]) from by rw [show li (c.ties.map Tr.q) = c.ties.map (fun t => D.int t.q) from by simp [li], zip2_map]]
  try infer_instance
  refine lc_map (xs := c.ties) (E := ?_) (f := fun t => .d (.int (t.q * (mk c t.u - mk c t.s)))) trivial (fun t ht R h => ?_) (fun t ht R h => ?_) (fun t ht => ?_) (by omega) ?_
  rotate_left
  · repeat (first | refine ⟨rfl, ?_⟩ | refine ⟨Nat.le_of_ble_eq_true rfl, ?_⟩)
    try infer_instance
    exact h
  · obtain ⟨⟨t0, t1⟩, ⟨u0, u1⟩, _⟩ := V.tk t ht
    have hm := mk_get V t0 t1
    have hm2 := mk_get V u0 u1
    have := V.tb t ht
    repeat eq_refl
    refine ⟨mulL this.1 this.2, ?_⟩
    (repeat eq_refl) <;> exact h
  · exact rfl
  repeat eq_refl
  have e1 : ∀ (f : Tr → Int) (ts : List Tr), ts.map (fun t => D.int (f t)) = li (ts.map f) := fun f ts => by simp [li]
  show Q _ [SV.no, SV.no, SV.no]
  rw [e1, e1, e1]
  exact h
theorem S_products {ad : Nat → Addr} {c : Cs} {Q : EV → BEnv → Prop} (V : Rows c) (h : Q (.d (payD c)) [SV.no, SV.no, SV.no]) :
    W_law_products ad [.t (.d (rowsD c)), .t (.d (clrD c)), .t (.d (.lst (li c.ms)))] Q := by
  have al := V.al
  have ol := V.ol
  have tl := V.tl
  unfold W_law_products bodyW
  try infer_instance
  repeat eq_refl
  refine ⟨⟨by simp <;> omega, by simp <;> omega⟩, ?_⟩
  refine ⟨?_⟩
  try infer_instance
  refine lc_ix (xs := c.asks) (E := ?_) (f := fun t => .d (.int (mk c t.s * t.q))) (by simp) trivial (fun k t ht R h => ?_) (fun k t ht R h => ?_) (fun k => ?_) (by omega) ?_
  rotate_left
  · (repeat eq_refl) <;> exact h
  · have hr : (c.asks.map dRow)[(k : Int).toNat]? = some (dRow t) := map_get ht
    have hq : (c.asks.map Tr.q)[(k : Int).toNat]? = some t.q := map_get ht
    have k0 : 0 ≤ (k : Int) := by omega
    have ht := List.mem_of_getElem? ht
    obtain ⟨⟨t0, t1⟩, _⟩ := V.ak t ht
    have hm := mk_get V t0 t1
    have := V.ab t ht
    repeat eq_refl
    refine ⟨mulR this.1 this.2, ?_⟩
    (repeat eq_refl) <;> exact h
  · exact rfl
  repeat eq_refl
  refine ⟨⟨by simp <;> omega, by simp <;> omega⟩, ?_⟩
  refine ⟨?_⟩
  try infer_instance
  refine lc_ix (xs := c.offs) (E := ?_) (f := fun t => .d (.int (mk c t.s * t.q))) (by simp) trivial (fun k t ht R h => ?_) (fun k t ht R h => ?_) (fun k => ?_) (by omega) ?_
  rotate_left
  · (repeat eq_refl) <;> exact h
  · have hr : (c.offs.map dRow)[(k : Int).toNat]? = some (dRow t) := map_get ht
    have hq : (c.offs.map Tr.q)[(k : Int).toNat]? = some t.q := map_get ht
    have k0 : 0 ≤ (k : Int) := by omega
    have ht := List.mem_of_getElem? ht
    obtain ⟨⟨t0, t1⟩, _⟩ := V.ok t ht
    have hm := mk_get V t0 t1
    have := V.ob t ht
    repeat eq_refl
    refine ⟨mulR this.1 this.2, ?_⟩
    (repeat eq_refl) <;> exact h
  · exact rfl
  repeat eq_refl
  refine ⟨⟨by simp <;> omega, by simp <;> omega⟩, ?_⟩
  refine ⟨?_⟩
  try infer_instance
  refine lc_ix (xs := c.ties) (E := ?_) (f := fun t => .d (.int (t.q * (mk c t.u - mk c t.s)))) (by simp) trivial (fun k t ht R h => ?_) (fun k t ht R h => ?_) (fun k => ?_) (by omega) ?_
  rotate_left
  · (repeat eq_refl) <;> exact h
  · have hr : (c.ties.map dRow)[(k : Int).toNat]? = some (dRow t) := map_get ht
    have hq : (c.ties.map Tr.q)[(k : Int).toNat]? = some t.q := map_get ht
    have k0 : 0 ≤ (k : Int) := by omega
    have ht := List.mem_of_getElem? ht
    obtain ⟨⟨t0, t1⟩, ⟨u0, u1⟩, _⟩ := V.tk t ht
    have hm := mk_get V t0 t1
    have hm2 := mk_get V u0 u1
    have := V.tb t ht
    repeat eq_refl
    refine ⟨mulL this.1 this.2, ?_⟩
    repeat eq_refl
    refine ⟨mulL this.1 this.2, ?_⟩
    rw [Int.mul_sub] at h
    (repeat eq_refl) <;> exact h
  · exact rfl
  repeat eq_refl
  have e1 : ∀ (f : Tr → Int) (ts : List Tr), ts.map (fun t => D.int (f t)) = li (ts.map f) := fun f ts => by simp [li]
  show Q _ [SV.no, SV.no, SV.no]
  rw [e1, e1, e1]
  exact h
end K84
end SP84i
section SP84j
set_option linter.all false
set_option Elab.async false
set_option maxHeartbeats 1000000
open PySem PySem.Spec PyProof.Rows L2
namespace K84
open Bv
local macro_rules | `(tactic| infer_instance) => `(tactic| simp only [frameE, argF, List.map_cons, List.map_nil, List.cons_append, List.nil_append, List.length_cons, List.length_nil, Nat.reduceAdd, Nat.reduceSub, Int.reduceAdd, List.replicate, sset, clr, clr1, mutE, treeOf, sget, SV.put, nodeSet, clrx, clrx1, hideR, restE, keepD, refs, Int.toNat_zero, Int.reduceToNat, List.set_cons_zero, List.set_cons_succ, reduceIte, Nat.reduceEqDiff, reduceCtorEq, sx, res, resL, resL_ti, resL_d, resL_f, resL_tts, forgetL, forget, ti_snoc, tts_snoc, ti_set, List.getElem?_cons_zero, List.getElem?_cons_succ, nodeAt, Bool.and_false, Bool.false_and, Bool.false_eq_true])
local macro_rules | `(tactic| eq_refl) => `(tactic| first | with_reducible assumption | (with_reducible refine seqRet ?_) | (with_reducible refine orV (c1 := ?_) (c2 := ?_) (fun R h => ?_) (fun g R h => ?_) ?_; rotate_left 2) | (with_reducible refine andV (c1 := ?_) (c2 := ?_) (fun R h => ?_) (fun g R h => ?_) ?_; rotate_left 2) | (with_reducible refine seqIf (c := ?_) (fun R h => ?_) ?_; rotate_left) | (with_reducible refine ifS (c := ?_) (fun R h => ?_) ?_; rotate_left) | (with_reducible refine orT (c1 := ?_) (c2 := ?_) (fun R h => ?_) (fun g R h => ?_) ?_; rotate_left 2) | (with_reducible refine andT (c1 := ?_) (c2 := ?_) (fun R h => ?_) (fun g R h => ?_) ?_; rotate_left 2) | (with_reducible refine testC (w := wChain _ _ _ _ _) (c := ?_) (fun R h => ?_) ?_; rotate_left) | (with_reducible refine chainV (x := ?_) (y := ?_) (z := ?_) (c1 := ?_) (c2 := ?_) (fun R h => ?_) (fun R h => ?_) (fun R h => ?_) (fun g R h => ?_) (fun g R h => ?_) ?_; rotate_left 5) | (with_reducible refine notT (c1 := ?_) (fun R h => ?_) ?_; rotate_left) | refine ⟨rfl, ?_⟩ | refine ⟨_, rfl, ?_⟩ | refine ⟨⟨⟩, ?_⟩ | (apply Gf.mk; try infer_instance) | refine ⟨by first | decide | (dsimp only; decide), ?_⟩ | refine ⟨⟨by decide, by decide, by decide⟩, ?_⟩ | refine ⟨Or.inr ⟨by decide, by decide⟩, ?_⟩ | refine ⟨Or.inl ⟨by decide, by decide⟩, ?_⟩ | refine ixS_at (by assumption) (by first | exact ti_get (by assumption) | exact map_get (li_get (by assumption)) | exact map_get (by assumption)) ?_ | refine ⟨nd1, ?_⟩ | refine ⟨nd0, ?_⟩ | refine ⟨Nat.le_of_ble_eq_true rfl, ?_⟩ | refine ⟨by simp only [ti_len, tts_len, li_len, List.length_map, List.length_append, List.length_cons, List.length_nil]; omega, ?_⟩ | refine ⟨⟨rfl, by decide⟩, _, rfl, ?_⟩ | refine ⟨⟨rfl, by decide⟩, ?_⟩ | ((with_reducible apply tupD); exact rfl; first | exact allD_ti | exact allD_f | exact allD_map _) | ((with_reducible apply consTup); exact rfl; first | exact allD_ti | exact allD_f | exact allD_map _) | ((with_reducible apply tupCons); exact rfl; first | exact allD_ti | exact allD_f | exact allD_map _) | ((with_reducible apply tupS); exact rfl; first | exact allD_ti | exact allD_f | exact allD_map _) | ((with_reducible apply lstS); exact rfl; first | exact allD_ti | exact allD_f | exact allD_map _) | refine Brn.t rfl ?_ | refine Brn.f rfl ?_ | assumption)
local macro_rules | `(tactic| ac_rfl) => `(tactic| first | with_reducible assumption | (with_reducible refine seqRet ?_) | (with_reducible refine orV (c1 := ?_) (c2 := ?_) (fun R h => ?_) (fun g R h => ?_) ?_; rotate_left 2) | (with_reducible refine andV (c1 := ?_) (c2 := ?_) (fun R h => ?_) (fun g R h => ?_) ?_; rotate_left 2) | (with_reducible refine seqIf (c := ?_) (fun R h => ?_) ?_; rotate_left) | (with_reducible refine ifS (c := ?_) (fun R h => ?_) ?_; rotate_left) | (with_reducible refine orT (c1 := ?_) (c2 := ?_) (fun R h => ?_) (fun g R h => ?_) ?_; rotate_left 2) | (with_reducible refine andT (c1 := ?_) (c2 := ?_) (fun R h => ?_) (fun g R h => ?_) ?_; rotate_left 2) | (with_reducible refine testC (w := wChain _ _ _ _ _) (c := ?_) (fun R h => ?_) ?_; rotate_left) | (with_reducible refine chainV (x := ?_) (y := ?_) (z := ?_) (c1 := ?_) (c2 := ?_) (fun R h => ?_) (fun R h => ?_) (fun R h => ?_) (fun g R h => ?_) (fun g R h => ?_) ?_; rotate_left 5) | (with_reducible refine notT (c1 := ?_) (fun R h => ?_) ?_; rotate_left) | refine ⟨rfl, ?_⟩ | refine ⟨_, rfl, ?_⟩ | refine ⟨⟨⟩, ?_⟩ | refine ⟨by first | decide | (dsimp only; decide), ?_⟩ | refine ⟨⟨by decide, by decide, by decide⟩, ?_⟩ | refine ⟨Or.inr ⟨by decide, by decide⟩, ?_⟩ | refine ⟨Or.inl ⟨by decide, by decide⟩, ?_⟩ | refine ixS_at (by assumption) (by first | exact ti_get (by assumption) | exact map_get (li_get (by assumption)) | exact map_get (by assumption)) ?_ | refine ⟨nd1, ?_⟩ | refine ⟨nd0, ?_⟩ | refine ⟨Nat.le_of_ble_eq_true rfl, ?_⟩ | refine ⟨by simp only [ti_len, tts_len, li_len, List.length_map, List.length_append, List.length_cons, List.length_nil]; omega, ?_⟩ | refine ⟨⟨rfl, by decide⟩, _, rfl, ?_⟩ | refine ⟨⟨rfl, by decide⟩, ?_⟩ | ((with_reducible apply tupD); exact rfl; first | exact allD_ti | exact allD_f | exact allD_map _) | ((with_reducible apply consTup); exact rfl; first | exact allD_ti | exact allD_f | exact allD_map _) | ((with_reducible apply tupCons); exact rfl; first | exact allD_ti | exact allD_f | exact allD_map _) | ((with_reducible apply tupS); exact rfl; first | exact allD_ti | exact allD_f | exact allD_map _) | ((with_reducible apply lstS); exact rfl; first | exact allD_ti | exact allD_f | exact allD_map _) | refine Brn.t rfl ?_ | refine Brn.f rfl ?_ | assumption)
def bnd (M : Int) (xs : List Int) : Prop := ∀ x ∈ xs, -M ≤ x ∧ x ≤ M
theorem bnd_set {M v : Int} {xs : List Int} {i : Nat} (h : bnd M xs) (h0 : -M ≤ v) (h1 : v ≤ M) : bnd M (xs.set i v) := fun x hx => by
  rcases List.mem_or_eq_of_mem_set hx with q | q
  · exact h x q
  · subst q; exact ⟨h0, h1⟩
theorem bnd_mono {M N : Int} {xs : List Int} (h : bnd M xs) (hl : M ≤ N) : bnd N xs := fun x hx => by have := h x hx; omega
abbrev BB : Int := 1000000000100
theorem sum_bnd {α : Type} {f : α → Int} {M : Int} (h0 : 0 ≤ M) : ∀ {ts : List α}, (∀ t ∈ ts, -M ≤ f t ∧ f t ≤ M) → -(M * ts.length) ≤ (ts.map f).sum ∧ (ts.map f).sum ≤ M * ts.length
  | [], _ => by simp
  | t :: ts, h => by
    have a := h t List.mem_cons_self
    have b := sum_bnd h0 (ts := ts) fun x hx => h x (List.mem_cons_of_mem _ hx)
    simp only [List.map_cons, List.sum_cons, List.length_cons, Int.natCast_add, Int.natCast_one, Int.mul_add, Int.mul_one]
    omega
/-- the same rows with other parts -/
def with_ (ts : List Tr) (qs : List Int) : List Tr := List.zipWith (fun t q => { t with q := q }) ts qs
abbrev partsO (bs ss fs : List Int) : OT := .l [.l (ti bs), .l (ti ss), .l (ti fs)]
theorem with_q : ∀ {ts : List Tr} {qs : List Int}, qs.length = ts.length → (with_ ts qs).map Tr.q = qs
  | [], [], _ => rfl
  | t :: ts, q :: qs, h => by
    simp only [with_, List.zipWith_cons_cons, List.map_cons]
    congr 1
    exact with_q (by simpa using h)
  | [], _ :: _, h => by simp at h
  | _ :: _, [], h => by simp at h
theorem with_row : ∀ {ts : List Tr} {qs : List Int}, qs.length = ts.length → (with_ ts qs).map dRow = ts.map dRow
  | [], [], _ => rfl
  | t :: ts, q :: qs, h => by
    simp only [with_, List.zipWith_cons_cons, List.map_cons]
    congr 1
    exact with_row (by simpa using h)
  | [], _ :: _, h => by simp at h
  | _ :: _, [], h => by simp at h
theorem with_mem {ts : List Tr} {qs : List Int} {x : Tr} (h : x ∈ with_ ts qs) : ∃ t ∈ ts, x.s = t.s ∧ x.u = t.u ∧ x.p = t.p := by
  obtain ⟨i, hi, rfl⟩ := List.getElem_of_mem h
  simp only [with_, List.getElem_zipWith]
  exact ⟨_, List.getElem_mem _, rfl, rfl, rfl⟩
theorem with_len {ts : List Tr} {qs : List Int} (h : qs.length = ts.length) : (with_ ts qs).length = ts.length := by simp [with_, h]
theorem net_bnd {c : Cs} (V : Rows c) (h1 : bnd BB (c.ties.map Tr.q)) (h2 : bnd BB (c.asks.map Tr.q)) (h3 : bnd BB (c.offs.map Tr.q)) : bnd (40 * BB) (netF c.z c.ties c.asks c.offs) := fun x hx => by
  have al := V.al
  have ol := V.ol
  have tl := V.tl
  obtain ⟨i, hi, rfl⟩ := List.getElem_of_mem hx
  have hz : i < c.z.toNat := Nat.lt_of_lt_of_eq hi netF_len
  have e := net_get (z := c.z) (j := (i : Int)) (ties := c.ties) (asks := c.asks) (offs := c.offs) (by omega) (by omega) (fun t ht => ⟨(V.tk t ht).1.1, (V.tk t ht).2.1.1⟩) (fun t ht => (V.ak t ht).1.1) (fun t ht => (V.ok t ht).1.1)
  rw [Int.toNat_natCast, List.getElem?_eq_getElem hi, Option.some.injEq] at e
  rw [e]
  have a := sum_bnd (f := fun t : Tr => (if t.s = (i : Int) then -t.q else 0) + if t.u = (i : Int) then t.q else 0) (M := 2 * BB) (by decide) (ts := c.ties) (fun t ht => by
    have := h1 t.q (List.mem_map.mpr ⟨t, ht, rfl⟩)
    split <;> split <;> omega)
  have b := sum_bnd (f := fun t : Tr => if t.s = (i : Int) then t.q else 0) (M := BB) (by decide) (ts := c.asks) (fun t ht => by
    have := h2 t.q (List.mem_map.mpr ⟨t, ht, rfl⟩)
    split <;> omega)
  have d := sum_bnd (f := fun t : Tr => if t.s = (i : Int) then t.q else 0) (M := BB) (by decide) (ts := c.offs) (fun t ht => by
    have := h3 t.q (List.mem_map.mpr ⟨t, ht, rfl⟩)
    split <;> omega)
  simp only [tieAt, sumAt, BB] at a b d ⊢
  omega
theorem S_made_good {ad : Nat → Addr} {c : Cs} {Q : EV → BEnv → Prop} (V : Rows c) (h1 : bnd BB (c.ties.map Tr.q)) (h2 : bnd BB (c.asks.map Tr.q)) (h3 : bnd BB (c.offs.map Tr.q))
    (h : ∀ bs ss, bs.length = c.asks.length → ss.length = c.offs.length → bnd (500 * BB) bs → bnd (500 * BB) ss → Q (.s 1) [SV.no, SV.t (partsO bs ss (c.ties.map Tr.q))]) :
    W_law_made_good ad [.t (.d (rowsD c)), .t (partsO (c.asks.map Tr.q) (c.offs.map Tr.q) (c.ties.map Tr.q))] Q := by
  have al := V.al
  have ol := V.ol
  have tl := V.tl
  have z0 := V.z0
  have z1 := V.z1
  simp only [partsO] at h ⊢
  unfold W_law_made_good bodyW
  try infer_instance
  repeat eq_refl
  refine ⟨⟨by simp <;> omega, by simp <;> omega⟩, ?_⟩
  refine ⟨?_⟩
  try infer_instance
  refine lc_ix (xs := c.ties) (E := ?_) (f := fun t => .d (dT t)) (by simp) trivial (fun k t ht R h => ?_) (fun k t ht R h => ?_) (fun k => ?_) (by omega) ?_
  rotate_left
  · (repeat eq_refl) <;> exact h
  · have hr : (c.ties.map dRow)[(k : Int).toNat]? = some (dRow t) := map_get ht
    have hq : (c.ties.map Tr.q)[(k : Int).toNat]? = some t.q := map_get ht
    have k0 : 0 ≤ (k : Int) := by omega
    repeat eq_refl
  · exact rfl
  try infer_instance
  repeat eq_refl
  refine ⟨⟨by simp <;> omega, by simp <;> omega⟩, ?_⟩
  refine ⟨?_⟩
  try infer_instance
  refine lc_ix (xs := c.asks) (E := ?_) (f := fun t => .d (dT t)) (by simp) trivial (fun k t ht R h => ?_) (fun k t ht R h => ?_) (fun k => ?_) (by omega) ?_
  rotate_left
  · (repeat eq_refl) <;> exact h
  · have hr : (c.asks.map dRow)[(k : Int).toNat]? = some (dRow t) := map_get ht
    have hq : (c.asks.map Tr.q)[(k : Int).toNat]? = some t.q := map_get ht
    have k0 : 0 ≤ (k : Int) := by omega
    repeat eq_refl
  · exact rfl
  try infer_instance
  repeat eq_refl
  refine ⟨⟨by simp <;> omega, by simp <;> omega⟩, ?_⟩
  refine ⟨?_⟩
  try infer_instance
  refine lc_ix (xs := c.offs) (E := ?_) (f := fun t => .d (dT t)) (by simp) trivial (fun k t ht R h => ?_) (fun k t ht R h => ?_) (fun k => ?_) (by omega) ?_
  rotate_left
  · (repeat eq_refl) <;> exact h
  · have hr : (c.offs.map dRow)[(k : Int).toNat]? = some (dRow t) := map_get ht
    have hq : (c.offs.map Tr.q)[(k : Int).toNat]? = some t.q := map_get ht
    have k0 : 0 ≤ (k : Int) := by omega
    repeat eq_refl
  · exact rfl
  try infer_instance
  refine ⟨by decide, ?_⟩
  refine ⟨⟨⟩, ?_⟩
  refine ⟨rfl, ?_⟩
  refine Gf.fz 2 _ rfl (.mk ?_)
  try infer_instance
  repeat eq_refl
  have rt : ∀ ts : List Tr, res (OT.l (List.map (fun t => OT.d (dT t)) ts)) = .lst (ts.map dT) := fun ts => by show D.lst (resL (tts ts)) = _; rw [resL_tts]
  refine .mk (S_netD (by omega) (by omega) (fun t ht => ⟨(V.tk t ht).1, (V.tk t ht).2.1⟩) (fun t ht => (V.ak t ht).1) (fun t ht => (V.ok t ht).1) ?_)
  refine ⟨_, rfl, ?_⟩
  have hNl : (netF c.z c.ties c.asks c.offs).length = c.z.toNat := netF_len
  have hNb := net_bnd V h1 h2 h3
  generalize netF c.z c.ties c.asks c.offs = N at hNl hNb
  refine ⟨rfl, ?_⟩
  refine Gf.L [2] rfl ?_
  try infer_instance
  repeat eq_refl
  refine ⟨⟨by simp <;> omega, by simp <;> omega⟩, ⟨by decide, by decide⟩, ?_⟩
  refine ⟨?_⟩
  have lo : (c.offs.map Tr.q).length = c.offs.length := by simp
  have la : (c.asks.map Tr.q).length = c.asks.length := by simp
  generalize c.offs.map Tr.q = ss0 at h3 lo
  have en : ((((c.offs.map dRow).map OT.d).length : Int) - 1 - -1).toNat = c.offs.length := by simp
  rw [en]
  refine for_dn (fun s : List Int × List Int => [.t (.d (rowsD c)), .a (.l [.l (ti (c.asks.map Tr.q)), .l (ti s.2), .l (ti (c.ties.map Tr.q))]), .no, .no, .no, .no, .t (.l (ti s.1)), .no]) (fun k s => s.1.length = c.z.toNat ∧ bnd (40 * BB) s.1 ∧ s.2.length = c.offs.length ∧ ∃ j : Nat, j + k = c.offs.length ∧ bnd (BB + 40 * BB * j) s.2) c.offs.length ?_ ?_ c.offs.length (N, ss0) (Nat.le_refl _) (by simp) ⟨hNl, hNb, lo, 0, by simp, bnd_mono h3 (by simp)⟩
  · rintro k ⟨net, ss⟩ C' hk ⟨hn, hb, hs, j, hj, hsb⟩ cr cb ih ih2 fg fg2
    obtain ⟨t, ht⟩ : ∃ t, c.offs[k]? = some t := ⟨_, List.getElem?_eq_getElem hk⟩
    have ⟨⟨t0, t1⟩, _⟩ := V.ok t (List.mem_of_getElem? ht)
    have hr : (c.offs.map dRow)[(k : Int).toNat]? = some (dRow t) := map_get ht
    have k0 : 0 ≤ (k : Int) := by omega
    dsimp only at hn hb hs hsb
    obtain ⟨v, hv⟩ := int_get (xs := net) t0 (by omega)
    obtain ⟨w, hw⟩ := int_get (xs := ss) k0 (by omega)
    have vb := hb v (List.mem_of_getElem? hv)
    have wb := hsb w (List.mem_of_getElem? hw)
    repeat eq_refl
    refine .of (fun g => ?_) (fun g => ?_)
    · repeat eq_refl
      refine fg [5, 7] _ rfl (ih (net.set t.s.toNat 0, ss.set (k : Int).toNat (w - v)) ⟨by simpa using hn, bnd_set hb (by decide) (by decide), by simpa using hs, j + 1, by omega, ?_⟩)
      refine bnd_set (bnd_mono hsb ?_) ?_ ?_
      all_goals simp only [BB] at vb wb ⊢
      all_goals omega
    · repeat eq_refl
      refine fg [5, 7] _ rfl (ih (net, ss) ⟨hn, hb, hs, j + 1, by omega, bnd_mono hsb ?_⟩)
      simp only [BB]; omega
  rintro ⟨net, ss⟩ ⟨hn, hb, hs, j, hj, hsb⟩
  dsimp only at hn hb hs hsb
  have hsb : bnd (500 * BB) ss := bnd_mono hsb (by simp only [BB]; omega)
  refine ⟨⟨⟩, ?_⟩
  repeat eq_refl
  refine ⟨⟨by simp <;> omega, by simp <;> omega⟩, ?_⟩
  refine ⟨?_⟩
  generalize c.asks.map Tr.q = bs0 at h2 la
  have en : (((c.asks.map dRow).map OT.d).length : Int).toNat = c.asks.length := by simp
  rw [en]
  refine for_up (E := fun s : List Int × List Int => [.t (.d (rowsD c)), .a (.l [.l (ti s.2), .l (ti ss), .l (ti (c.ties.map Tr.q))]), .no, .no, .no, .no, .t (.l (ti s.1)), .no]) (I := fun k s => s.1.length = c.z.toNat ∧ bnd (40 * BB) s.1 ∧ s.2.length = c.asks.length ∧ bnd (BB + 40 * BB * k) s.2) (s := (net, bs0)) ⟨hn, hb, la, bnd_mono h2 (by simp)⟩ ?_ ?_
  · rintro k ⟨net, bs⟩ C' hk ⟨hn, hb, hs, hsb⟩ cr cb ih ih2 fg fg2
    obtain ⟨t, ht⟩ : ∃ t, c.asks[k]? = some t := ⟨_, List.getElem?_eq_getElem hk⟩
    have ⟨⟨t0, t1⟩, _⟩ := V.ak t (List.mem_of_getElem? ht)
    have hr : (c.asks.map dRow)[(k : Int).toNat]? = some (dRow t) := map_get ht
    have k0 : 0 ≤ (k : Int) := by omega
    dsimp only at hn hb hs hsb
    obtain ⟨v, hv⟩ := int_get (xs := net) t0 (by omega)
    obtain ⟨w, hw⟩ := int_get (xs := bs) k0 (by omega)
    have vb := hb v (List.mem_of_getElem? hv)
    have wb := hsb w (List.mem_of_getElem? hw)
    repeat eq_refl
    refine .of (fun g => ?_) (fun g => ?_)
    · repeat eq_refl
      refine fg [5, 7] _ rfl (ih (net.set t.s.toNat 0, bs.set (k : Int).toNat (w + v)) ⟨by simpa using hn, bnd_set hb (by decide) (by decide), by simpa using hs, ?_⟩)
      refine bnd_set (bnd_mono hsb ?_) ?_ ?_
      all_goals simp only [BB] at vb wb ⊢
      all_goals omega
    · repeat eq_refl
      refine fg [5, 7] _ rfl (ih (net, bs) ⟨hn, hb, hs, bnd_mono hsb ?_⟩)
      simp only [BB]; omega
  rintro ⟨net, bs⟩ ⟨hn, hb, hs2, hsb2⟩
  dsimp only at hn hb hs2 hsb2
  refine ⟨⟨⟩, ?_⟩
  repeat eq_refl
  exact h bs ss hs2 hs (bnd_mono hsb2 (by simp only [BB]; omega)) hsb
end K84
end SP84j
section SP84k
set_option linter.all false
set_option Elab.async false
set_option maxHeartbeats 1000000
open PySem PySem.Spec PyProof.Rows L2
namespace K84
open Bv
local macro_rules | `(tactic| infer_instance) => `(tactic| simp only [frameE, argF, List.map_cons, List.map_nil, List.cons_append, List.nil_append, List.length_cons, List.length_nil, Nat.reduceAdd, Nat.reduceSub, Int.reduceAdd, List.replicate, sset, clr, clr1, mutE, treeOf, sget, SV.put, nodeSet, clrx, clrx1, hideR, restE, keepD, refs, Int.toNat_zero, Int.reduceToNat, List.set_cons_zero, List.set_cons_succ, reduceIte, Nat.reduceEqDiff, reduceCtorEq, sx, res, resL, resL_ti, resL_d, resL_f, resL_tts, forgetL, forget, ti_snoc, tts_snoc, ti_set, List.getElem?_cons_zero, List.getElem?_cons_succ, nodeAt, Bool.and_false, Bool.false_and, Bool.false_eq_true])
local macro_rules | `(tactic| eq_refl) => `(tactic| first | with_reducible assumption | (with_reducible refine seqRet ?_) | (with_reducible refine orV (c1 := ?_) (c2 := ?_) (fun R h => ?_) (fun g R h => ?_) ?_; rotate_left 2) | (with_reducible refine andV (c1 := ?_) (c2 := ?_) (fun R h => ?_) (fun g R h => ?_) ?_; rotate_left 2) | (with_reducible refine seqIf (c := ?_) (fun R h => ?_) ?_; rotate_left) | (with_reducible refine ifS (c := ?_) (fun R h => ?_) ?_; rotate_left) | (with_reducible refine orT (c1 := ?_) (c2 := ?_) (fun R h => ?_) (fun g R h => ?_) ?_; rotate_left 2) | (with_reducible refine andT (c1 := ?_) (c2 := ?_) (fun R h => ?_) (fun g R h => ?_) ?_; rotate_left 2) | (with_reducible refine testC (w := wChain _ _ _ _ _) (c := ?_) (fun R h => ?_) ?_; rotate_left) | (with_reducible refine chainV (x := ?_) (y := ?_) (z := ?_) (c1 := ?_) (c2 := ?_) (fun R h => ?_) (fun R h => ?_) (fun R h => ?_) (fun g R h => ?_) (fun g R h => ?_) ?_; rotate_left 5) | (with_reducible refine notT (c1 := ?_) (fun R h => ?_) ?_; rotate_left) | refine ⟨rfl, ?_⟩ | refine ⟨_, rfl, ?_⟩ | refine ⟨⟨⟩, ?_⟩ | (apply Gf.mk; try infer_instance) | refine ⟨by first | decide | (dsimp only; decide), ?_⟩ | refine ⟨⟨by decide, by decide, by decide⟩, ?_⟩ | refine ⟨Or.inr ⟨by decide, by decide⟩, ?_⟩ | refine ⟨Or.inl ⟨by decide, by decide⟩, ?_⟩ | refine ixS_at (by assumption) (by first | exact ti_get (by assumption) | exact map_get (li_get (by assumption)) | exact map_get (by assumption)) ?_ | refine ⟨nd1, ?_⟩ | refine ⟨nd0, ?_⟩ | refine ⟨Nat.le_of_ble_eq_true rfl, ?_⟩ | refine ⟨by simp only [ti_len, tts_len, li_len, List.length_map, List.length_append, List.length_cons, List.length_nil]; omega, ?_⟩ | refine ⟨⟨rfl, by decide⟩, _, rfl, ?_⟩ | refine ⟨⟨rfl, by decide⟩, ?_⟩ | ((with_reducible apply tupD); exact rfl; first | exact allD_ti | exact allD_f | exact allD_map _) | ((with_reducible apply consTup); exact rfl; first | exact allD_ti | exact allD_f | exact allD_map _) | ((with_reducible apply tupCons); exact rfl; first | exact allD_ti | exact allD_f | exact allD_map _) | ((with_reducible apply tupS); exact rfl; first | exact allD_ti | exact allD_f | exact allD_map _) | ((with_reducible apply lstS); exact rfl; first | exact allD_ti | exact allD_f | exact allD_map _) | refine Brn.t rfl ?_ | refine Brn.f rfl ?_ | assumption)
local macro_rules | `(tactic| ac_rfl) => `(tactic| first | with_reducible assumption | (with_reducible refine seqRet ?_) | (with_reducible refine orV (c1 := ?_) (c2 := ?_) (fun R h => ?_) (fun g R h => ?_) ?_; rotate_left 2) | (with_reducible refine andV (c1 := ?_) (c2 := ?_) (fun R h => ?_) (fun g R h => ?_) ?_; rotate_left 2) | (with_reducible refine seqIf (c := ?_) (fun R h => ?_) ?_; rotate_left) | (with_reducible refine ifS (c := ?_) (fun R h => ?_) ?_; rotate_left) | (with_reducible refine orT (c1 := ?_) (c2 := ?_) (fun R h => ?_) (fun g R h => ?_) ?_; rotate_left 2) | (with_reducible refine andT (c1 := ?_) (c2 := ?_) (fun R h => ?_) (fun g R h => ?_) ?_; rotate_left 2) | (with_reducible refine testC (w := wChain _ _ _ _ _) (c := ?_) (fun R h => ?_) ?_; rotate_left) | (with_reducible refine chainV (x := ?_) (y := ?_) (z := ?_) (c1 := ?_) (c2 := ?_) (fun R h => ?_) (fun R h => ?_) (fun R h => ?_) (fun g R h => ?_) (fun g R h => ?_) ?_; rotate_left 5) | (with_reducible refine notT (c1 := ?_) (fun R h => ?_) ?_; rotate_left) | refine ⟨rfl, ?_⟩ | refine ⟨_, rfl, ?_⟩ | refine ⟨⟨⟩, ?_⟩ | refine ⟨by first | decide | (dsimp only; decide), ?_⟩ | refine ⟨⟨by decide, by decide, by decide⟩, ?_⟩ | refine ⟨Or.inr ⟨by decide, by decide⟩, ?_⟩ | refine ⟨Or.inl ⟨by decide, by decide⟩, ?_⟩ | refine ixS_at (by assumption) (by first | exact ti_get (by assumption) | exact map_get (li_get (by assumption)) | exact map_get (by assumption)) ?_ | refine ⟨nd1, ?_⟩ | refine ⟨nd0, ?_⟩ | refine ⟨Nat.le_of_ble_eq_true rfl, ?_⟩ | refine ⟨by simp only [ti_len, tts_len, li_len, List.length_map, List.length_append, List.length_cons, List.length_nil]; omega, ?_⟩ | refine ⟨⟨rfl, by decide⟩, _, rfl, ?_⟩ | refine ⟨⟨rfl, by decide⟩, ?_⟩ | ((with_reducible apply tupD); exact rfl; first | exact allD_ti | exact allD_f | exact allD_map _) | ((with_reducible apply consTup); exact rfl; first | exact allD_ti | exact allD_f | exact allD_map _) | ((with_reducible apply tupCons); exact rfl; first | exact allD_ti | exact allD_f | exact allD_map _) | ((with_reducible apply tupS); exact rfl; first | exact allD_ti | exact allD_f | exact allD_map _) | ((with_reducible apply lstS); exact rfl; first | exact allD_ti | exact allD_f | exact allD_map _) | refine Brn.t rfl ?_ | refine Brn.f rfl ?_ | assumption)
/-- the rows with other parts -/
def cw (c : Cs) (bs ss fs : List Int) : Cs := ⟨c.z, with_ c.ties fs, with_ c.asks bs, with_ c.offs ss, c.ms⟩
theorem cw_rows {c : Cs} {bs ss fs : List Int} (l1 : bs.length = c.asks.length) (l2 : ss.length = c.offs.length) (l3 : fs.length = c.ties.length) : rowsD (cw c bs ss fs) = rowsD c := by
  simp only [rowsD, cw, with_row l1, with_row l2, with_row l3]
theorem cw_parts {c : Cs} {bs ss fs : List Int} (l1 : bs.length = c.asks.length) (l2 : ss.length = c.offs.length) (l3 : fs.length = c.ties.length) : partsD (cw c bs ss fs) = .lst [.lst (li bs), .lst (li ss), .lst (li fs)] := by
  simp only [partsD, cw, with_q l1, with_q l2, with_q l3]
theorem with_bd {ts : List Tr} {qs : List Int} (hl : qs.length = ts.length) (h : bnd (500 * BB) qs) : ∀ t ∈ with_ ts qs, -(2 ^ 64) < t.q ∧ t.q < 2 ^ 64 := fun t ht => by
  have := h t.q (by rw [← with_q hl]; exact List.mem_map.mpr ⟨t, ht, rfl⟩)
  simp only [BB] at this
  omega
theorem cw_ok {c : Cs} {bs ss fs : List Int} (V : Rows c) (l1 : bs.length = c.asks.length) (l2 : ss.length = c.offs.length) (l3 : fs.length = c.ties.length) (b1 : bnd (500 * BB) bs) (b2 : bnd (500 * BB) ss) (b3 : bnd (500 * BB) fs) : Rows (cw c bs ss fs) := by
  refine ⟨V.z0, V.z1, V.ml, ?_, ?_, ?_, fun t ht => ?_, fun t ht => ?_, fun t ht => ?_, with_bd l3 b3, with_bd l1 b1, with_bd l2 b2⟩
  · show (with_ c.ties fs).length ≤ 8
    rw [with_len l3]; exact V.tl
  · show (with_ c.asks bs).length ≤ 12
    rw [with_len l1]; exact V.al
  · show (with_ c.offs ss).length ≤ 12
    rw [with_len l2]; exact V.ol
  · obtain ⟨x, hx, e1, e2, e3⟩ := with_mem ht
    rw [e1, e2, e3]
    exact V.tk x hx
  · obtain ⟨x, hx, e1, e2, e3⟩ := with_mem ht
    rw [e1, e2, e3]
    exact V.ak x hx
  · obtain ⟨x, hx, e1, e2, e3⟩ := with_mem ht
    rw [e1, e2, e3]
    exact V.ok x hx
theorem S_made_good' {ad : Nat → Addr} {c : Cs} {bs ss fs : List Int} {Q : EV → BEnv → Prop} (V : Rows c) (l1 : bs.length = c.asks.length) (l2 : ss.length = c.offs.length) (l3 : fs.length = c.ties.length) (b1 : bnd BB bs) (b2 : bnd BB ss) (b3 : bnd BB fs)
    (h : ∀ bs ss, bs.length = c.asks.length → ss.length = c.offs.length → bnd (500 * BB) bs → bnd (500 * BB) ss → Q (.s 1) [SV.no, SV.t (partsO bs ss fs)]) :
    W_law_made_good ad [.t (.d (rowsD c)), .t (partsO bs ss fs)] Q := by
  have V' := cw_ok V l1 l2 l3 (bnd_mono b1 (by decide)) (bnd_mono b2 (by decide)) (bnd_mono b3 (by decide))
  have e1 : (cw c bs ss fs).asks.map Tr.q = bs := with_q l1
  have e2 : (cw c bs ss fs).offs.map Tr.q = ss := with_q l2
  have e3 : (cw c bs ss fs).ties.map Tr.q = fs := with_q l3
  have g1 : (cw c bs ss fs).asks.length = c.asks.length := with_len l1
  have g2 : (cw c bs ss fs).offs.length = c.offs.length := with_len l2
  have := S_made_good (ad := ad) (Q := Q) V' (by simpa only [e3] using b3) (by simpa only [e1] using b1) (by simpa only [e2] using b2) (by simpa only [e3, g1, g2] using h)
  simpa only [e1, e2, e3, cw_rows l1 l2 l3] using this
/-- what the ways of the spoiling leave -/
def spJ (c : Cs) (e : BEnv) : Prop := ∃ a b d c', 0 ≤ a ∧ 0 ≤ b ∧ 0 ≤ d ∧ Rows c' ∧ e = [SV.a (pl a b d), .t (.d (casD c)), .t (.d (rowsD c')), .t (.d (.lst (li c'.ms))), .t (.d (partsD c')), .no, .no, .no, .no, .no, .no, .no, .no, .no, .no, .no, .no, .no, .no]
theorem sp_fin {C' : PP} {c : Cs} (hn : ∀ e, spJ c e → C'.nx e) {a b d : Int} (ha : 0 ≤ a) (hb : 0 ≤ b) (hd : 0 ≤ d) {c' : Cs} (V' : Rows c') {r m p : D} (e1 : r = rowsD c') (e2 : m = .lst (li c'.ms)) (e3 : p = partsD c') :
    C'.nx [SV.a (pl a b d), .t (.d (casD c)), .t (.d r), .t (.d m), .t (.d p), .no, .no, .no, .no, .no, .no, .no, .no, .no, .no, .no, .no, .no, .no] := by
  subst e1 e2 e3
  exact hn _ ⟨a, b, d, c', ha, hb, hd, V', rfl⟩
theorem ms_ok {c : Cs} {ms : List Int} (V : Rows c) (h : ms.length = c.ms.length) : Rows { c with ms := ms } :=
  ⟨V.z0, V.z1, by show (ms.length : Int) = c.z; rw [h]; exact V.ml, V.tl, V.al, V.ol, V.tk, V.ak, V.ok, V.tb, V.ab, V.ob⟩
theorem rows_ties {c : Cs} {i : Nat} {t : Tr} (V : Rows c) (ht : (0 ≤ t.s ∧ t.s < c.z) ∧ (0 ≤ t.u ∧ t.u < c.z) ∧ t.s ≠ t.u ∧ 0 ≤ t.p ∧ t.p ≤ 60) (hb : -(2 ^ 64) < t.q ∧ t.q < 2 ^ 64) : Rows { c with ties := c.ties.set i t } :=
  ⟨V.z0, V.z1, V.ml, by show (c.ties.set i t).length ≤ 8; rw [List.length_set]; exact V.tl, V.al, V.ol, fun x hx => (List.mem_or_eq_of_mem_set hx).elim (V.tk x) fun e => e ▸ ht, V.ak, V.ok, fun x hx => (List.mem_or_eq_of_mem_set hx).elim (V.tb x) fun e => e ▸ hb, V.ab, V.ob⟩
theorem rows_asks {c : Cs} {i : Nat} {t : Tr} (V : Rows c) (ht : (0 ≤ t.s ∧ t.s < c.z) ∧ 1 ≤ t.u ∧ t.u ≤ 30 ∧ -99 ≤ t.p ∧ t.p ≤ 99) (hb : -(2 ^ 64) < t.q ∧ t.q < 2 ^ 64) : Rows { c with asks := c.asks.set i t } :=
  ⟨V.z0, V.z1, V.ml, V.tl, by show (c.asks.set i t).length ≤ 12; rw [List.length_set]; exact V.al, V.ol, V.tk, fun x hx => (List.mem_or_eq_of_mem_set hx).elim (V.ak x) fun e => e ▸ ht, V.ok, V.tb, fun x hx => (List.mem_or_eq_of_mem_set hx).elim (V.ab x) fun e => e ▸ hb, V.ob⟩
theorem rows_offs {c : Cs} {i : Nat} {t : Tr} (V : Rows c) (ht : (0 ≤ t.s ∧ t.s < c.z) ∧ 1 ≤ t.u ∧ t.u ≤ 30 ∧ -99 ≤ t.p ∧ t.p ≤ 99) (hb : -(2 ^ 64) < t.q ∧ t.q < 2 ^ 64) : Rows { c with offs := c.offs.set i t } :=
  ⟨V.z0, V.z1, V.ml, V.tl, V.al, by show (c.offs.set i t).length ≤ 12; rw [List.length_set]; exact V.ol, V.tk, V.ak, fun x hx => (List.mem_or_eq_of_mem_set hx).elim (V.ok x) fun e => e ▸ ht, V.tb, V.ab, fun x hx => (List.mem_or_eq_of_mem_set hx).elim (V.ob x) fun e => e ▸ hb⟩
theorem set_row {ts : List Tr} {i : Nat} {t : Tr} {s u p : Int} (hs : t.s = s) (hu : t.u = u) (hp : t.p = p) : (List.map OT.d (List.map dRow ts)).set i (OT.d (D.tup [.int s, .int u, .int p])) = List.map OT.d (List.map dRow (ts.set i t)) := by
  subst hs hu hp
  rw [List.map_set, List.map_set]
  exact rfl
theorem set_q {ts : List Tr} {i : Nat} {t t' : Tr} (h : ts[i]? = some t) (e : t'.q = t.q) : (ts.set i t').map Tr.q = ts.map Tr.q := by
  rw [List.map_set, e]
  refine List.ext_getElem? fun j => ?_
  by_cases hj : i = j
  · subst hj
    rw [List.getElem?_set_self']
    simp [h]
  · rw [List.getElem?_set_ne hj]
theorem res_rows {z : Int} {T A O : List Tr} : res (OT.l [OT.d (D.int z), OT.l (List.map OT.d (List.map dRow T)), OT.l (List.map OT.d (List.map dRow A)), OT.l (List.map OT.d (List.map dRow O))]) = .lst [.int z, .lst (T.map dRow), .lst (A.map dRow), .lst (O.map dRow)] := by
  simp only [res, resL, resL_d]
theorem res_parts {bs ss fs : List Int} : res (OT.l [OT.l (ti bs), OT.l (ti ss), OT.l (ti fs)]) = .lst [.lst (li bs), .lst (li ss), .lst (li fs)] := by
  simp only [res, resL, resL_ti]
/-- a spoilt case -/
theorem S_spoilt {ad : Nat → Addr} {a b d : Int} {c : Cs} {Q : EV → BEnv → Prop} (ha : 0 ≤ a) (hb : 0 ≤ b) (hd : 0 ≤ d) (V : Rows c) (h1 : bnd 60 (c.ties.map Tr.q)) (h2 : bnd 60 (c.asks.map Tr.q)) (h3 : bnd 60 (c.offs.map Tr.q))
    (h : ∀ a b d c', 0 ≤ a → 0 ≤ b → 0 ≤ d → Rows c' → Q (.d (casD c')) [SV.t (pl a b d), SV.no]) : W_law_spoilt ad [.t (pl a b d), .t (.d (casD c))] Q := by
  have al := V.al
  have ol := V.ol
  have tl := V.tl
  have z0 := V.z0
  have z1 := V.z1
  have ml := V.ml
  unfold W_law_spoilt bodyW
  try infer_instance
  repeat ac_rfl
  refine Gf.mk ?_
  try infer_instance
  repeat ac_rfl
  refine Gf.mk ?_
  try infer_instance
  refine ⟨rfl, ?_⟩
  refine ⟨?_⟩
  try infer_instance
  refine lc_map (enc := fun q => D.lst (li q)) (xs := [c.asks.map Tr.q, c.offs.map Tr.q, c.ties.map Tr.q]) (E := ?_) (f := fun q => .l (ti q)) trivial (fun q hq R h => ?_) (fun q hq R h => ?_) (fun q hq => ?_) (by simp) ?_
  rotate_left
  · (repeat ac_rfl) <;> exact h
  · rw [← ti_map] at h
    repeat ac_rfl
  · exact rfl
  try infer_instance
  refine ⟨rfl, ?_⟩
  refine Gf.mk ?_
  try infer_instance
  rw [show List.map OT.d (li c.ms) = ti c.ms from ti_map]
  repeat eq_refl
  refine .mk (S_draw ha hb hd (by decide) (by decide) fun a b d kind ha hb hd k0 k1 => ?_)
  repeat eq_refl
  refine .mk (S_pick ha hb hd (xs := [.int 1, .int (-1)]) (by simp) (by simp) fun a b d x ha hb hd hx => ?_)
  obtain ⟨st, rfl, st0, st1⟩ : ∃ n, x = .int n ∧ -1 ≤ n ∧ (n = 1 ∨ n = -1) := by
    simp only [List.mem_cons, List.not_mem_nil, or_false] at hx
    rcases hx with h | h <;> exact ⟨_, h, by omega, by omega⟩
  repeat eq_refl
  refine .mk (S_draw ha hb hd (by decide) (by decide) fun a b d field ha hb hd f0 f1 => ?_)
  repeat ac_rfl
  refine Gf.mk ?_
  try infer_instance
  have hf : field = 0 ∨ field = 1 ∨ field = 2 := by omega
  rcases hf with rfl | rfl | rfl
  · repeat ac_rfl
    refine Gf.mk ?_
    try infer_instance
    repeat ac_rfl
    refine .mk (S_draw ha hb hd (by simp [ti]; omega) (by simp [ti]; omega) fun a b d spot ha hb hd s0 s1 => ?_)
    repeat ac_rfl
    refine Gf.mk ?_
    try infer_instance
    refine seqMeet (spJ c) (fun C' cr cb cc hn fg fz => ?_) ?_
    · repeat eq_refl
      refine .of (fun g => ?_) (fun g => ?_)
      · have hpos : 0 < (c.asks.map Tr.q).length := by
          cases hc : c.asks.map Tr.q with
          | nil => rw [hc] at g; simp [ti] at g
          | cons y ys => simp
        have hll : (c.asks.map Tr.q).length = c.asks.length := by simp
        repeat eq_refl
        refine .mk (S_draw ha hb hd (by rw [ti_len]; omega) (by rw [ti_len]; omega) fun a b d x ha hb hd x0 x1 => ?_)
        rw [ti_len] at x1
        obtain ⟨w, hw⟩ := int_get (xs := c.asks.map Tr.q) x0 x1
        have wb := h2 w (List.mem_of_getElem? hw)
        repeat eq_refl
        refine .mk (S_pick ha hb hd (xs := [.int 1, .int 1, .int 1, .int 31, .int (10 ^ (12 : Int).toNat)]) (by simp) (by simp) fun a b d y ha hb hd hy => ?_)
        obtain ⟨m, rfl, m0, m1⟩ : ∃ n, y = .int n ∧ 0 ≤ n ∧ n ≤ 1000000000000 := by
          have e : (10 : Int) ^ (12 : Int).toNat = 1000000000000 := by decide
          rw [e] at hy
          simp only [List.mem_cons, List.not_mem_nil, or_false] at hy
          rcases hy with h | h | h | h | h <;> exact ⟨_, h, by omega, by omega⟩
        repeat eq_refl
        refine ⟨mulL (by omega) (by omega), ?_⟩
        have sm : -1000000000000 ≤ st * m ∧ st * m ≤ 1000000000000 := by rcases st1 with rfl | rfl <;> omega
        generalize st * m = v at sm
        repeat eq_refl
        have l1 : ((c.asks.map Tr.q).set x.toNat (w + v)).length = c.asks.length := by simp
        have b1 : bnd BB ((c.asks.map Tr.q).set x.toNat (w + v)) := bnd_set (bnd_mono h2 (by decide)) (by simp only [BB]; omega) (by simp only [BB]; omega)
        generalize (c.asks.map Tr.q).set x.toNat (w + v) = bs at l1 b1
        have l2 : (c.offs.map Tr.q).length = c.offs.length := by simp
        have l3 : (c.ties.map Tr.q).length = c.ties.length := by simp
        refine .of (fun g2 => ?_) (fun g2 => ?_)
        · repeat eq_refl
          rw [res_rows]
          refine .mk (S_made_good' V l1 l2 l3 b1 (bnd_mono h3 (by decide)) (bnd_mono h1 (by decide)) fun bs' ss' m1 m2 n1 n2 => ?_)
          repeat eq_refl
          try infer_instance
          refine fz 3 _ _ rfl ?_
          try infer_instance
          refine fz 4 _ _ rfl ?_
          try infer_instance
          refine fg [6, 7, 8, 9, 10, 11] _ rfl ?_
          try infer_instance
          refine sp_fin hn ha hb hd (cw_ok V m1 m2 l3 n1 n2 (bnd_mono h1 (by decide))) ?_ ?_ ?_
          · rw [cw_rows m1 m2 l3]; exact rfl
          · exact rfl
          · rw [cw_parts m1 m2 l3]
        · repeat eq_refl
          refine fz 2 _ _ rfl ?_
          try infer_instance
          refine fz 3 _ _ rfl ?_
          try infer_instance
          refine fz 4 _ _ rfl ?_
          try infer_instance
          refine fg [6, 7, 8, 9, 10, 11] _ rfl ?_
          try infer_instance
          refine sp_fin hn ha hb hd (cw_ok V l1 l2 l3 (bnd_mono b1 (by decide)) (bnd_mono h3 (by decide)) (bnd_mono h1 (by decide))) ?_ ?_ ?_
          · rw [cw_rows l1 l2 l3]; exact rfl
          · exact rfl
          · rw [cw_parts l1 l2 l3]
      · have hms : c.ms.length = c.ms.length := Eq.refl _
        obtain ⟨w, hw⟩ := int_get (xs := c.ms) s0 (by have := s1; simp only [ti_len] at this; exact this)
        repeat eq_refl
        refine .of (fun g4 => ?_) (fun g4 => ?_)
        · repeat eq_refl
          refine fz 2 _ _ rfl ?_
          try infer_instance
          refine fz 3 _ _ rfl ?_
          try infer_instance
          refine fz 4 _ _ rfl ?_
          try infer_instance
          refine fg [6, 7, 8, 9, 10] _ rfl ?_
          try infer_instance
          exact sp_fin (c' := { c with ms := c.ms.set spot.toNat (w + st) }) hn ha hb hd (ms_ok V (by simp)) rfl rfl rfl
        repeat eq_refl
        refine .of (fun g5 => ?_) (fun g5 => ?_)
        · repeat eq_refl
          refine .mk (S_pick ha hb hd (xs := [.int 100, .int (-100), .int 99, .int (-99), .int (10 ^ (30 : Int).toNat)]) (by simp) (by simp) fun a b d y ha hb hd hy => ?_)
          obtain ⟨m, rfl⟩ : ∃ n, y = .int n := by
            simp only [List.mem_cons, List.not_mem_nil, or_false] at hy
            rcases hy with h | h | h | h | h <;> exact ⟨_, h⟩
          repeat eq_refl
          refine fz 2 _ _ rfl ?_
          try infer_instance
          refine fz 3 _ _ rfl ?_
          try infer_instance
          refine fz 4 _ _ rfl ?_
          try infer_instance
          refine fg [6, 7, 8, 9, 10] _ rfl ?_
          try infer_instance
          exact sp_fin (c' := { c with ms := c.ms.set spot.toNat m }) hn ha hb hd (ms_ok V (by simp)) rfl rfl rfl
        repeat eq_refl
        refine .of (fun g6 => ?_) (fun g6 => ?_)
        · repeat eq_refl
          refine .mk (S_draw ha hb hd (by rw [ti_len]; omega) (by rw [ti_len]; omega) fun a b d oth ha hb hd o0 o1 => ?_)
          rw [ti_len] at o1
          obtain ⟨w2, hw2⟩ := int_get (xs := c.ms) o0 o1
          repeat eq_refl
          try infer_instance
          obtain ⟨w3, hw3⟩ := int_get (xs := c.ms.set spot.toNat w2) o0 (by simpa using o1)
          repeat eq_refl
          refine fz 2 _ _ rfl ?_
          try infer_instance
          refine fz 3 _ _ rfl ?_
          try infer_instance
          refine fz 4 _ _ rfl ?_
          try infer_instance
          refine fg [6, 7, 8, 9, 10, 12] _ rfl ?_
          try infer_instance
          exact sp_fin (c' := { c with ms := (c.ms.set spot.toNat w2).set oth.toNat w }) hn ha hb hd (ms_ok V (by simp)) rfl rfl rfl
        repeat eq_refl
        refine .of (fun g7 => ?_) (fun g7 => ?_)
        · repeat eq_refl
          refine ⟨?_⟩
          try infer_instance
          refine lc_map (enc := D.int) (xs := c.ms) (E := ?_) (f := fun n => .d (.int (n + st))) trivial (fun n hn R h => ?_) (fun n hn R h => ?_) (fun n hn => ?_) (by omega) ?_
          rotate_left
          · (repeat ac_rfl) <;> exact h
          · (repeat ac_rfl) <;> exact h
          · exact rfl
          rw [show List.map (fun n => OT.d (D.int (n + st))) c.ms = ti (c.ms.map fun n => n + st) from by simp [ti, Function.comp_def]]
          repeat eq_refl
          refine fz 2 _ _ rfl ?_
          try infer_instance
          refine fz 3 _ _ rfl ?_
          try infer_instance
          refine fz 4 _ _ rfl ?_
          try infer_instance
          refine fg [6, 7, 8, 9, 10] _ rfl ?_
          try infer_instance
          exact sp_fin (c' := { c with ms := c.ms.map fun n => n + st }) hn ha hb hd (ms_ok V (by simp)) rfl rfl rfl
        repeat eq_refl
        refine .of (fun g8 => ?_) (fun g8 => ?_)
        · repeat eq_refl
          refine .of (fun g9 => ?_) (fun g9 => ?_)
          · have hpos : 0 < c.ties.length := by
              cases hc : c.ties with
              | nil => rw [hc] at g9; simp at g9
              | cons y ys => simp
            repeat eq_refl
            refine .mk (S_draw ha hb hd (by simp; omega) (by simp; omega) fun a b d x ha hb hd x0 x1 => ?_)
            obtain ⟨t, ht⟩ := int_get (xs := c.ties) x0 (by simpa using x1)
            have hr : (c.ties.map dRow)[x.toNat]? = some (dRow t) := map_get ht
            have hr2 : ((c.ties.map dRow).map OT.d)[x.toNat]? = some (OT.d (dRow t)) := map_get hr
            repeat eq_refl
            refine .mk (S_draw ha hb hd (by simp) (by simp) fun a b d r ha hb hd r0 r1 => ?_)
            repeat eq_refl
            simp only [show (2 - (if decide ((0 : Int) < 0) = true then (1 : Int) else 0) * r) = 2 from by simp, show ((2 : Int) * (if decide ((0 : Int) < 0) = true then (1 : Int) else 0)) = 0 from by simp]
            repeat eq_refl
            generalize hv : (if (if t.p + st < 60 then t.p + st else 60) > 0 then if t.p + st < 60 then t.p + st else 60 else 0) = v
            have vb : 0 ≤ v ∧ v ≤ 60 := by split at hv <;> split at hv <;> omega
            rw [set_row (t := { t with p := v }) (Eq.refl _) (Eq.refl _) (Eq.refl _)]
            refine fz 2 _ _ rfl ?_
            try infer_instance
            refine fz 3 _ _ rfl ?_
            try infer_instance
            refine fz 4 _ _ rfl ?_
            try infer_instance
            refine fg [5, 6, 7, 8, 9, 10, 11, 14, 15, 16, 17, 18] _ rfl ?_
            try infer_instance
            have tm := List.mem_of_getElem? ht
            obtain ⟨q1, q2, q3, _, _⟩ := V.tk t tm
            refine sp_fin (c' := { c with ties := c.ties.set x.toNat { t with p := v } }) hn ha hb hd (rows_ties V ⟨q1, q2, q3, vb⟩ (V.tb t tm)) rfl rfl ?_
            show _ = D.lst [.lst (li (c.asks.map Tr.q)), .lst (li (c.offs.map Tr.q)), .lst (li ((c.ties.set x.toNat { t with p := v }).map Tr.q))]
            rw [set_q (t' := { t with p := v }) ht (Eq.refl _)]
          · repeat eq_refl
            refine fz 2 _ _ rfl ?_
            try infer_instance
            refine fz 3 _ _ rfl ?_
            try infer_instance
            refine fz 4 _ _ rfl ?_
            try infer_instance
            refine fg [6, 7, 8, 9, 10] _ rfl ?_
            try infer_instance
            exact sp_fin (c' := c) hn ha hb hd V rfl rfl rfl
        · repeat eq_refl
          refine fz 2 _ _ rfl ?_
          try infer_instance
          refine fz 3 _ _ rfl ?_
          try infer_instance
          refine fz 4 _ _ rfl ?_
          try infer_instance
          refine fg [6, 7, 8, 9, 10] _ rfl ?_
          try infer_instance
          exact sp_fin (c' := c) hn ha hb hd V rfl rfl rfl
    · rintro e ⟨a, b, d, c', ha, hb, hd, V', rfl⟩
      repeat eq_refl
      exact h a b d c' ha hb hd V'
  · repeat ac_rfl
    refine Gf.mk ?_
    try infer_instance
    repeat ac_rfl
    refine .mk (S_draw ha hb hd (by simp [ti]; omega) (by simp [ti]; omega) fun a b d spot ha hb hd s0 s1 => ?_)
    repeat ac_rfl
    refine Gf.mk ?_
    try infer_instance
    refine seqMeet (spJ c) (fun C' cr cb cc hn fg fz => ?_) ?_
    · repeat eq_refl
      refine .of (fun g => ?_) (fun g => ?_)
      · have hpos : 0 < (c.offs.map Tr.q).length := by
          cases hc : c.offs.map Tr.q with
          | nil => rw [hc] at g; simp [ti] at g
          | cons y ys => simp
        have hll : (c.offs.map Tr.q).length = c.offs.length := by simp
        repeat eq_refl
        refine .mk (S_draw ha hb hd (by rw [ti_len]; omega) (by rw [ti_len]; omega) fun a b d x ha hb hd x0 x1 => ?_)
        rw [ti_len] at x1
        obtain ⟨w, hw⟩ := int_get (xs := c.offs.map Tr.q) x0 x1
        have wb := h3 w (List.mem_of_getElem? hw)
        repeat eq_refl
        refine .mk (S_pick ha hb hd (xs := [.int 1, .int 1, .int 1, .int 31, .int (10 ^ (12 : Int).toNat)]) (by simp) (by simp) fun a b d y ha hb hd hy => ?_)
        obtain ⟨m, rfl, m0, m1⟩ : ∃ n, y = .int n ∧ 0 ≤ n ∧ n ≤ 1000000000000 := by
          have e : (10 : Int) ^ (12 : Int).toNat = 1000000000000 := by decide
          rw [e] at hy
          simp only [List.mem_cons, List.not_mem_nil, or_false] at hy
          rcases hy with h | h | h | h | h <;> exact ⟨_, h, by omega, by omega⟩
        repeat eq_refl
        refine ⟨mulL (by omega) (by omega), ?_⟩
        have sm : -1000000000000 ≤ st * m ∧ st * m ≤ 1000000000000 := by rcases st1 with rfl | rfl <;> omega
        generalize st * m = v at sm
        repeat eq_refl
        have l1 : ((c.offs.map Tr.q).set x.toNat (w + v)).length = c.offs.length := by simp
        have b1 : bnd BB ((c.offs.map Tr.q).set x.toNat (w + v)) := bnd_set (bnd_mono h3 (by decide)) (by simp only [BB]; omega) (by simp only [BB]; omega)
        generalize (c.offs.map Tr.q).set x.toNat (w + v) = bs at l1 b1
        have l2 : (c.asks.map Tr.q).length = c.asks.length := by simp
        have l3 : (c.ties.map Tr.q).length = c.ties.length := by simp
        refine .of (fun g2 => ?_) (fun g2 => ?_)
        · repeat eq_refl
          rw [res_rows]
          refine .mk (S_made_good' V l2 l1 l3 (bnd_mono h2 (by decide)) b1 (bnd_mono h1 (by decide)) fun bs' ss' m1 m2 n1 n2 => ?_)
          repeat eq_refl
          try infer_instance
          refine fz 3 _ _ rfl ?_
          try infer_instance
          refine fz 4 _ _ rfl ?_
          try infer_instance
          refine fg [6, 7, 8, 9, 10, 11] _ rfl ?_
          try infer_instance
          refine sp_fin hn ha hb hd (cw_ok V m1 m2 l3 n1 n2 (bnd_mono h1 (by decide))) ?_ ?_ ?_
          · rw [cw_rows m1 m2 l3]; exact rfl
          · exact rfl
          · rw [cw_parts m1 m2 l3]
        · repeat eq_refl
          refine fz 2 _ _ rfl ?_
          try infer_instance
          refine fz 3 _ _ rfl ?_
          try infer_instance
          refine fz 4 _ _ rfl ?_
          try infer_instance
          refine fg [6, 7, 8, 9, 10, 11] _ rfl ?_
          try infer_instance
          refine sp_fin hn ha hb hd (cw_ok V l2 l1 l3 (bnd_mono h2 (by decide)) (bnd_mono b1 (by decide)) (bnd_mono h1 (by decide))) ?_ ?_ ?_
          · rw [cw_rows l2 l1 l3]; exact rfl
          · exact rfl
          · rw [cw_parts l2 l1 l3]
      · have hms : c.ms.length = c.ms.length := Eq.refl _
        obtain ⟨w, hw⟩ := int_get (xs := c.ms) s0 (by have := s1; simp only [ti_len] at this; exact this)
        repeat eq_refl
        refine .of (fun g4 => ?_) (fun g4 => ?_)
        · repeat eq_refl
          refine fz 2 _ _ rfl ?_
          try infer_instance
          refine fz 3 _ _ rfl ?_
          try infer_instance
          refine fz 4 _ _ rfl ?_
          try infer_instance
          refine fg [6, 7, 8, 9, 10] _ rfl ?_
          try infer_instance
          exact sp_fin (c' := { c with ms := c.ms.set spot.toNat (w + st) }) hn ha hb hd (ms_ok V (by simp)) rfl rfl rfl
        repeat eq_refl
        refine .of (fun g5 => ?_) (fun g5 => ?_)
        · repeat eq_refl
          refine .mk (S_pick ha hb hd (xs := [.int 100, .int (-100), .int 99, .int (-99), .int (10 ^ (30 : Int).toNat)]) (by simp) (by simp) fun a b d y ha hb hd hy => ?_)
          obtain ⟨m, rfl⟩ : ∃ n, y = .int n := by
            simp only [List.mem_cons, List.not_mem_nil, or_false] at hy
            rcases hy with h | h | h | h | h <;> exact ⟨_, h⟩
          repeat eq_refl
          refine fz 2 _ _ rfl ?_
          try infer_instance
          refine fz 3 _ _ rfl ?_
          try infer_instance
          refine fz 4 _ _ rfl ?_
          try infer_instance
          refine fg [6, 7, 8, 9, 10] _ rfl ?_
          try infer_instance
          exact sp_fin (c' := { c with ms := c.ms.set spot.toNat m }) hn ha hb hd (ms_ok V (by simp)) rfl rfl rfl
        repeat eq_refl
        refine .of (fun g6 => ?_) (fun g6 => ?_)
        · repeat eq_refl
          refine .mk (S_draw ha hb hd (by rw [ti_len]; omega) (by rw [ti_len]; omega) fun a b d oth ha hb hd o0 o1 => ?_)
          rw [ti_len] at o1
          obtain ⟨w2, hw2⟩ := int_get (xs := c.ms) o0 o1
          repeat eq_refl
          try infer_instance
          obtain ⟨w3, hw3⟩ := int_get (xs := c.ms.set spot.toNat w2) o0 (by simpa using o1)
          repeat eq_refl
          refine fz 2 _ _ rfl ?_
          try infer_instance
          refine fz 3 _ _ rfl ?_
          try infer_instance
          refine fz 4 _ _ rfl ?_
          try infer_instance
          refine fg [6, 7, 8, 9, 10, 12] _ rfl ?_
          try infer_instance
          exact sp_fin (c' := { c with ms := (c.ms.set spot.toNat w2).set oth.toNat w }) hn ha hb hd (ms_ok V (by simp)) rfl rfl rfl
        repeat eq_refl
        refine .of (fun g7 => ?_) (fun g7 => ?_)
        · repeat eq_refl
          refine ⟨?_⟩
          try infer_instance
          refine lc_map (enc := D.int) (xs := c.ms) (E := ?_) (f := fun n => .d (.int (n + st))) trivial (fun n hn R h => ?_) (fun n hn R h => ?_) (fun n hn => ?_) (by omega) ?_
          rotate_left
          · (repeat ac_rfl) <;> exact h
          · (repeat ac_rfl) <;> exact h
          · exact rfl
          rw [show List.map (fun n => OT.d (D.int (n + st))) c.ms = ti (c.ms.map fun n => n + st) from by simp [ti, Function.comp_def]]
          repeat eq_refl
          refine fz 2 _ _ rfl ?_
          try infer_instance
          refine fz 3 _ _ rfl ?_
          try infer_instance
          refine fz 4 _ _ rfl ?_
          try infer_instance
          refine fg [6, 7, 8, 9, 10] _ rfl ?_
          try infer_instance
          exact sp_fin (c' := { c with ms := c.ms.map fun n => n + st }) hn ha hb hd (ms_ok V (by simp)) rfl rfl rfl
        repeat eq_refl
        refine .of (fun g8 => ?_) (fun g8 => ?_)
        · repeat eq_refl
          refine .of (fun g9 => ?_) (fun g9 => ?_)
          · have hpos : 0 < c.asks.length := by
              cases hc : c.asks with
              | nil => rw [hc] at g9; simp at g9
              | cons y ys => simp
            repeat eq_refl
            refine .mk (S_draw ha hb hd (by simp; omega) (by simp; omega) fun a b d x ha hb hd x0 x1 => ?_)
            obtain ⟨t, ht⟩ := int_get (xs := c.asks) x0 (by simpa using x1)
            have hr : (c.asks.map dRow)[x.toNat]? = some (dRow t) := map_get ht
            have hr2 : ((c.asks.map dRow).map OT.d)[x.toNat]? = some (OT.d (dRow t)) := map_get hr
            repeat eq_refl
            refine .mk (S_draw ha hb hd (by simp) (by simp) fun a b d r ha hb hd r0 r1 => ?_)
            repeat eq_refl
            rcases (show r = 0 ∨ r = 1 from by omega) with rfl | rfl
            · simp only [show (2 - (if decide ((0 : Int) < 1) = true then (1 : Int) else 0) * 0) = 2 from by decide, show ((2 : Int) * (if decide ((0 : Int) < 1) = true then (1 : Int) else 0)) = 2 from by decide]
              repeat eq_refl
              generalize hv : (if (if t.p + st < 99 then t.p + st else 99) > -99 then if t.p + st < 99 then t.p + st else 99 else -99) = v
              have vb : -99 ≤ v ∧ v ≤ 99 := by split at hv <;> split at hv <;> omega
              rw [set_row (t := { t with p := v }) (Eq.refl _) (Eq.refl _) (Eq.refl _)]
              refine fz 2 _ _ rfl ?_
              try infer_instance
              refine fz 3 _ _ rfl ?_
              try infer_instance
              refine fz 4 _ _ rfl ?_
              try infer_instance
              refine fg [5, 6, 7, 8, 9, 10, 11, 14, 15, 16, 17, 18] _ rfl ?_
              try infer_instance
              have tm := List.mem_of_getElem? ht
              obtain ⟨q1, q2, q3, q4, q5⟩ := V.ak t tm
              refine sp_fin (c' := { c with asks := c.asks.set x.toNat { t with p := v } }) hn ha hb hd (rows_asks V ⟨q1, q2, q3, vb.1, vb.2⟩ (V.ab t tm)) rfl rfl ?_
              show _ = D.lst [.lst (li ((c.asks.set x.toNat { t with p := v }).map Tr.q)), .lst (li (c.offs.map Tr.q)), .lst (li (c.ties.map Tr.q))]
              rw [set_q (t' := { t with p := v }) ht (Eq.refl _)]
            · simp only [show (2 - (if decide ((0 : Int) < 1) = true then (1 : Int) else 0) * 1) = 1 from by decide, show ((1 : Int) * (if decide ((0 : Int) < 1) = true then (1 : Int) else 0)) = 1 from by decide]
              repeat eq_refl
              generalize hv : (if (if t.u + st < 30 then t.u + st else 30) > 1 then if t.u + st < 30 then t.u + st else 30 else 1) = v
              have vb : 1 ≤ v ∧ v ≤ 30 := by split at hv <;> split at hv <;> omega
              rw [set_row (t := { t with u := v }) (Eq.refl _) (Eq.refl _) (Eq.refl _)]
              refine fz 2 _ _ rfl ?_
              try infer_instance
              refine fz 3 _ _ rfl ?_
              try infer_instance
              refine fz 4 _ _ rfl ?_
              try infer_instance
              refine fg [5, 6, 7, 8, 9, 10, 11, 14, 15, 16, 17, 18] _ rfl ?_
              try infer_instance
              have tm := List.mem_of_getElem? ht
              obtain ⟨q1, q2, q3, q4, q5⟩ := V.ak t tm
              refine sp_fin (c' := { c with asks := c.asks.set x.toNat { t with u := v } }) hn ha hb hd (rows_asks V ⟨q1, vb.1, vb.2, q4, q5⟩ (V.ab t tm)) rfl rfl ?_
              show _ = D.lst [.lst (li ((c.asks.set x.toNat { t with u := v }).map Tr.q)), .lst (li (c.offs.map Tr.q)), .lst (li (c.ties.map Tr.q))]
              rw [set_q (t' := { t with u := v }) ht (Eq.refl _)]
          · repeat eq_refl
            refine fz 2 _ _ rfl ?_
            try infer_instance
            refine fz 3 _ _ rfl ?_
            try infer_instance
            refine fz 4 _ _ rfl ?_
            try infer_instance
            refine fg [6, 7, 8, 9, 10] _ rfl ?_
            try infer_instance
            exact sp_fin (c' := c) hn ha hb hd V rfl rfl rfl
        · repeat eq_refl
          refine fz 2 _ _ rfl ?_
          try infer_instance
          refine fz 3 _ _ rfl ?_
          try infer_instance
          refine fz 4 _ _ rfl ?_
          try infer_instance
          refine fg [6, 7, 8, 9, 10] _ rfl ?_
          try infer_instance
          exact sp_fin (c' := c) hn ha hb hd V rfl rfl rfl
    · rintro e ⟨a, b, d, c', ha, hb, hd, V', rfl⟩
      repeat eq_refl
      exact h a b d c' ha hb hd V'
  · repeat ac_rfl
    refine Gf.mk ?_
    try infer_instance
    repeat ac_rfl
    refine .mk (S_draw ha hb hd (by simp [ti]; omega) (by simp [ti]; omega) fun a b d spot ha hb hd s0 s1 => ?_)
    repeat ac_rfl
    refine Gf.mk ?_
    try infer_instance
    refine seqMeet (spJ c) (fun C' cr cb cc hn fg fz => ?_) ?_
    · repeat eq_refl
      refine .of (fun g => ?_) (fun g => ?_)
      · have hpos : 0 < (c.ties.map Tr.q).length := by
          cases hc : c.ties.map Tr.q with
          | nil => rw [hc] at g; simp [ti] at g
          | cons y ys => simp
        have hll : (c.ties.map Tr.q).length = c.ties.length := by simp
        repeat eq_refl
        refine .mk (S_draw ha hb hd (by rw [ti_len]; omega) (by rw [ti_len]; omega) fun a b d x ha hb hd x0 x1 => ?_)
        rw [ti_len] at x1
        obtain ⟨w, hw⟩ := int_get (xs := c.ties.map Tr.q) x0 x1
        have wb := h1 w (List.mem_of_getElem? hw)
        repeat eq_refl
        refine .mk (S_pick ha hb hd (xs := [.int 1, .int 1, .int 1, .int 31, .int (10 ^ (12 : Int).toNat)]) (by simp) (by simp) fun a b d y ha hb hd hy => ?_)
        obtain ⟨m, rfl, m0, m1⟩ : ∃ n, y = .int n ∧ 0 ≤ n ∧ n ≤ 1000000000000 := by
          have e : (10 : Int) ^ (12 : Int).toNat = 1000000000000 := by decide
          rw [e] at hy
          simp only [List.mem_cons, List.not_mem_nil, or_false] at hy
          rcases hy with h | h | h | h | h <;> exact ⟨_, h, by omega, by omega⟩
        repeat eq_refl
        refine ⟨mulL (by omega) (by omega), ?_⟩
        have sm : -1000000000000 ≤ st * m ∧ st * m ≤ 1000000000000 := by rcases st1 with rfl | rfl <;> omega
        generalize st * m = v at sm
        repeat eq_refl
        have l1 : ((c.ties.map Tr.q).set x.toNat (w + v)).length = c.ties.length := by simp
        have b1 : bnd BB ((c.ties.map Tr.q).set x.toNat (w + v)) := bnd_set (bnd_mono h1 (by decide)) (by simp only [BB]; omega) (by simp only [BB]; omega)
        generalize (c.ties.map Tr.q).set x.toNat (w + v) = bs at l1 b1
        have l2 : (c.asks.map Tr.q).length = c.asks.length := by simp
        have l3 : (c.offs.map Tr.q).length = c.offs.length := by simp
        refine .of (fun g2 => ?_) (fun g2 => ?_)
        · repeat eq_refl
          rw [res_rows]
          refine .mk (S_made_good' V l2 l3 l1 (bnd_mono h2 (by decide)) (bnd_mono h3 (by decide)) b1 fun bs' ss' m1 m2 n1 n2 => ?_)
          repeat eq_refl
          try infer_instance
          refine fz 3 _ _ rfl ?_
          try infer_instance
          refine fz 4 _ _ rfl ?_
          try infer_instance
          refine fg [6, 7, 8, 9, 10, 11] _ rfl ?_
          try infer_instance
          refine sp_fin hn ha hb hd (cw_ok V m1 m2 l1 n1 n2 (bnd_mono b1 (by decide))) ?_ ?_ ?_
          · rw [cw_rows m1 m2 l1]; exact rfl
          · exact rfl
          · rw [cw_parts m1 m2 l1]
        · repeat eq_refl
          refine fz 2 _ _ rfl ?_
          try infer_instance
          refine fz 3 _ _ rfl ?_
          try infer_instance
          refine fz 4 _ _ rfl ?_
          try infer_instance
          refine fg [6, 7, 8, 9, 10, 11] _ rfl ?_
          try infer_instance
          refine sp_fin hn ha hb hd (cw_ok V l2 l3 l1 (bnd_mono h2 (by decide)) (bnd_mono h3 (by decide)) (bnd_mono b1 (by decide))) ?_ ?_ ?_
          · rw [cw_rows l2 l3 l1]; exact rfl
          · exact rfl
          · rw [cw_parts l2 l3 l1]
      · have hms : c.ms.length = c.ms.length := Eq.refl _
        obtain ⟨w, hw⟩ := int_get (xs := c.ms) s0 (by have := s1; simp only [ti_len] at this; exact this)
        repeat eq_refl
        refine .of (fun g4 => ?_) (fun g4 => ?_)
        · repeat eq_refl
          refine fz 2 _ _ rfl ?_
          try infer_instance
          refine fz 3 _ _ rfl ?_
          try infer_instance
          refine fz 4 _ _ rfl ?_
          try infer_instance
          refine fg [6, 7, 8, 9, 10] _ rfl ?_
          try infer_instance
          exact sp_fin (c' := { c with ms := c.ms.set spot.toNat (w + st) }) hn ha hb hd (ms_ok V (by simp)) rfl rfl rfl
        repeat eq_refl
        refine .of (fun g5 => ?_) (fun g5 => ?_)
        · repeat eq_refl
          refine .mk (S_pick ha hb hd (xs := [.int 100, .int (-100), .int 99, .int (-99), .int (10 ^ (30 : Int).toNat)]) (by simp) (by simp) fun a b d y ha hb hd hy => ?_)
          obtain ⟨m, rfl⟩ : ∃ n, y = .int n := by
            simp only [List.mem_cons, List.not_mem_nil, or_false] at hy
            rcases hy with h | h | h | h | h <;> exact ⟨_, h⟩
          repeat eq_refl
          refine fz 2 _ _ rfl ?_
          try infer_instance
          refine fz 3 _ _ rfl ?_
          try infer_instance
          refine fz 4 _ _ rfl ?_
          try infer_instance
          refine fg [6, 7, 8, 9, 10] _ rfl ?_
          try infer_instance
          exact sp_fin (c' := { c with ms := c.ms.set spot.toNat m }) hn ha hb hd (ms_ok V (by simp)) rfl rfl rfl
        repeat eq_refl
        refine .of (fun g6 => ?_) (fun g6 => ?_)
        · repeat eq_refl
          refine .mk (S_draw ha hb hd (by rw [ti_len]; omega) (by rw [ti_len]; omega) fun a b d oth ha hb hd o0 o1 => ?_)
          rw [ti_len] at o1
          obtain ⟨w2, hw2⟩ := int_get (xs := c.ms) o0 o1
          repeat eq_refl
          try infer_instance
          obtain ⟨w3, hw3⟩ := int_get (xs := c.ms.set spot.toNat w2) o0 (by simpa using o1)
          repeat eq_refl
          refine fz 2 _ _ rfl ?_
          try infer_instance
          refine fz 3 _ _ rfl ?_
          try infer_instance
          refine fz 4 _ _ rfl ?_
          try infer_instance
          refine fg [6, 7, 8, 9, 10, 12] _ rfl ?_
          try infer_instance
          exact sp_fin (c' := { c with ms := (c.ms.set spot.toNat w2).set oth.toNat w }) hn ha hb hd (ms_ok V (by simp)) rfl rfl rfl
        repeat eq_refl
        refine .of (fun g7 => ?_) (fun g7 => ?_)
        · repeat eq_refl
          refine ⟨?_⟩
          try infer_instance
          refine lc_map (enc := D.int) (xs := c.ms) (E := ?_) (f := fun n => .d (.int (n + st))) trivial (fun n hn R h => ?_) (fun n hn R h => ?_) (fun n hn => ?_) (by omega) ?_
          rotate_left
          · (repeat ac_rfl) <;> exact h
          · (repeat ac_rfl) <;> exact h
          · exact rfl
          rw [show List.map (fun n => OT.d (D.int (n + st))) c.ms = ti (c.ms.map fun n => n + st) from by simp [ti, Function.comp_def]]
          repeat eq_refl
          refine fz 2 _ _ rfl ?_
          try infer_instance
          refine fz 3 _ _ rfl ?_
          try infer_instance
          refine fz 4 _ _ rfl ?_
          try infer_instance
          refine fg [6, 7, 8, 9, 10] _ rfl ?_
          try infer_instance
          exact sp_fin (c' := { c with ms := c.ms.map fun n => n + st }) hn ha hb hd (ms_ok V (by simp)) rfl rfl rfl
        repeat eq_refl
        refine .of (fun g8 => ?_) (fun g8 => ?_)
        · repeat eq_refl
          refine .of (fun g9 => ?_) (fun g9 => ?_)
          · have hpos : 0 < c.offs.length := by
              cases hc : c.offs with
              | nil => rw [hc] at g9; simp at g9
              | cons y ys => simp
            repeat eq_refl
            refine .mk (S_draw ha hb hd (by simp; omega) (by simp; omega) fun a b d x ha hb hd x0 x1 => ?_)
            obtain ⟨t, ht⟩ := int_get (xs := c.offs) x0 (by simpa using x1)
            have hr : (c.offs.map dRow)[x.toNat]? = some (dRow t) := map_get ht
            have hr2 : ((c.offs.map dRow).map OT.d)[x.toNat]? = some (OT.d (dRow t)) := map_get hr
            repeat eq_refl
            refine .mk (S_draw ha hb hd (by simp) (by simp) fun a b d r ha hb hd r0 r1 => ?_)
            repeat eq_refl
            rcases (show r = 0 ∨ r = 1 from by omega) with rfl | rfl
            · simp only [show (2 - (if decide ((0 : Int) < 2) = true then (1 : Int) else 0) * 0) = 2 from by decide, show ((2 : Int) * (if decide ((0 : Int) < 2) = true then (1 : Int) else 0)) = 2 from by decide]
              repeat eq_refl
              generalize hv : (if (if t.p + st < 99 then t.p + st else 99) > -99 then if t.p + st < 99 then t.p + st else 99 else -99) = v
              have vb : -99 ≤ v ∧ v ≤ 99 := by split at hv <;> split at hv <;> omega
              rw [set_row (t := { t with p := v }) (Eq.refl _) (Eq.refl _) (Eq.refl _)]
              refine fz 2 _ _ rfl ?_
              try infer_instance
              refine fz 3 _ _ rfl ?_
              try infer_instance
              refine fz 4 _ _ rfl ?_
              try infer_instance
              refine fg [5, 6, 7, 8, 9, 10, 11, 14, 15, 16, 17, 18] _ rfl ?_
              try infer_instance
              have tm := List.mem_of_getElem? ht
              obtain ⟨q1, q2, q3, q4, q5⟩ := V.ok t tm
              refine sp_fin (c' := { c with offs := c.offs.set x.toNat { t with p := v } }) hn ha hb hd (rows_offs V ⟨q1, q2, q3, vb.1, vb.2⟩ (V.ob t tm)) rfl rfl ?_
              show _ = D.lst [.lst (li (c.asks.map Tr.q)), .lst (li ((c.offs.set x.toNat { t with p := v }).map Tr.q)), .lst (li (c.ties.map Tr.q))]
              rw [set_q (t' := { t with p := v }) ht (Eq.refl _)]
            · simp only [show (2 - (if decide ((0 : Int) < 2) = true then (1 : Int) else 0) * 1) = 1 from by decide, show ((1 : Int) * (if decide ((0 : Int) < 2) = true then (1 : Int) else 0)) = 1 from by decide]
              repeat eq_refl
              generalize hv : (if (if t.u + st < 30 then t.u + st else 30) > 1 then if t.u + st < 30 then t.u + st else 30 else 1) = v
              have vb : 1 ≤ v ∧ v ≤ 30 := by split at hv <;> split at hv <;> omega
              rw [set_row (t := { t with u := v }) (Eq.refl _) (Eq.refl _) (Eq.refl _)]
              refine fz 2 _ _ rfl ?_
              try infer_instance
              refine fz 3 _ _ rfl ?_
              try infer_instance
              refine fz 4 _ _ rfl ?_
              try infer_instance
              refine fg [5, 6, 7, 8, 9, 10, 11, 14, 15, 16, 17, 18] _ rfl ?_
              try infer_instance
              have tm := List.mem_of_getElem? ht
              obtain ⟨q1, q2, q3, q4, q5⟩ := V.ok t tm
              refine sp_fin (c' := { c with offs := c.offs.set x.toNat { t with u := v } }) hn ha hb hd (rows_offs V ⟨q1, vb.1, vb.2, q4, q5⟩ (V.ob t tm)) rfl rfl ?_
              show _ = D.lst [.lst (li (c.asks.map Tr.q)), .lst (li ((c.offs.set x.toNat { t with u := v }).map Tr.q)), .lst (li (c.ties.map Tr.q))]
              rw [set_q (t' := { t with u := v }) ht (Eq.refl _)]
          · repeat eq_refl
            refine fz 2 _ _ rfl ?_
            try infer_instance
            refine fz 3 _ _ rfl ?_
            try infer_instance
            refine fz 4 _ _ rfl ?_
            try infer_instance
            refine fg [6, 7, 8, 9, 10] _ rfl ?_
            try infer_instance
            exact sp_fin (c' := c) hn ha hb hd V rfl rfl rfl
        · repeat eq_refl
          refine fz 2 _ _ rfl ?_
          try infer_instance
          refine fz 3 _ _ rfl ?_
          try infer_instance
          refine fz 4 _ _ rfl ?_
          try infer_instance
          refine fg [6, 7, 8, 9, 10] _ rfl ?_
          try infer_instance
          exact sp_fin (c' := c) hn ha hb hd V rfl rfl rfl
    · rintro e ⟨a, b, d, c', ha, hb, hd, V', rfl⟩
      repeat eq_refl
      exact h a b d c' ha hb hd V'
end K84
end SP84k
section SP84p
set_option linter.all false
set_option Elab.async false
set_option maxHeartbeats 1000000
open PySem PySem.Spec PyProof.Rows L2
namespace K84
open Bv
def zsum (m f : Int → Int) : Nat → Int
  | 0 => 0
  | n + 1 => zsum m f n + m n * f n
theorem zsum_zero {m : Int → Int} : ∀ n, zsum m (fun _ => 0) n = 0
  | 0 => rfl
  | n + 1 => by simp [zsum, zsum_zero n]
theorem zsum_add {m f g : Int → Int} : ∀ n, zsum m (fun j => f j + g j) n = zsum m f n + zsum m g n
  | 0 => rfl
  | n + 1 => by simp only [zsum, zsum_add n, Int.mul_add]; omega
theorem zsum_congr {m f g : Int → Int} : ∀ n, (∀ j : Nat, j < n → f j = g j) → zsum m f n = zsum m g n
  | 0, _ => rfl
  | n + 1, h => by simp only [zsum, zsum_congr n fun j hj => h j (by omega), h n (by omega)]
theorem zsum_single {m : Int → Int} {s q : Int} : ∀ n : Nat, 0 ≤ s → zsum m (fun j => if s = j then q else 0) n = if s < n then m s * q else 0
  | 0, h => by simp [zsum]; intro; omega
  | n + 1, h => by
    simp only [zsum, zsum_single n h]
    by_cases h1 : s < (n : Int)
    · rw [if_pos h1, if_pos (show s < ((n + 1 : Nat) : Int) by omega), if_neg (show ¬ s = (n : Int) by omega)]; simp
    · rw [if_neg h1]
      by_cases h2 : s = (n : Int)
      · rw [if_pos h2, if_pos (show s < ((n + 1 : Nat) : Int) by omega), h2]; simp
      · rw [if_neg h2, if_neg (show ¬ s < ((n + 1 : Nat) : Int) by omega)]; simp
theorem zsum_at {m : Int → Int} {n : Nat} : ∀ {ts : List Tr}, (∀ t ∈ ts, 0 ≤ t.s ∧ t.s < n) → zsum m (sumAt ts) n = (ts.map fun t => m t.s * t.q).sum
  | [], _ => by
    have : sumAt [] = fun _ => 0 := by funext j; simp [sumAt]
    rw [this, zsum_zero]; simp
  | t :: ts, h => by
    have : sumAt (t :: ts) = fun j => (if t.s = j then t.q else 0) + sumAt ts j := by funext j; simp [sumAt]
    have h0 := h t List.mem_cons_self
    rw [this, zsum_add, zsum_single n h0.1, if_pos h0.2, zsum_at fun x hx => h x (List.mem_cons_of_mem _ hx)]
    simp
theorem zsum_tie {m : Int → Int} {n : Nat} : ∀ {ts : List Tr}, (∀ t ∈ ts, (0 ≤ t.s ∧ t.s < n) ∧ 0 ≤ t.u ∧ t.u < n) → zsum m (tieAt ts) n = (ts.map fun t => t.q * (m t.u - m t.s)).sum
  | [], _ => by
    have : tieAt [] = fun _ => 0 := by funext j; simp [tieAt]
    rw [this, zsum_zero]; simp
  | t :: ts, h => by
    have : tieAt (t :: ts) = fun j => ((if t.s = j then -t.q else 0) + if t.u = j then t.q else 0) + tieAt ts j := by funext j; simp [tieAt]
    have h0 := h t List.mem_cons_self
    rw [this, zsum_add, zsum_add, zsum_single n h0.1.1, if_pos h0.1.2, zsum_single n h0.2.1, if_pos h0.2.2, zsum_tie fun x hx => h x (List.mem_cons_of_mem _ hx)]
    simp only [List.map_cons, List.sum_cons, Int.mul_sub, Int.mul_neg, Int.mul_comm (m t.s), Int.mul_comm (m t.u), Int.neg_mul]
    omega
theorem fine_sums {c : Cs} (V : Rows c) (F : Fine c) : (pays c).sum = (gets c).sum + (rents c).sum := by
  have z0 := V.z0
  have h1 : ∀ t ∈ c.ties, (0 ≤ t.s ∧ t.s < c.z) ∧ 0 ≤ t.u ∧ t.u < c.z := fun t ht => ⟨(V.tk t ht).1, (V.tk t ht).2.1⟩
  have h2 : ∀ t ∈ c.asks, 0 ≤ t.s ∧ t.s < c.z := fun t ht => (V.ak t ht).1
  have h3 : ∀ t ∈ c.offs, 0 ≤ t.s ∧ t.s < c.z := fun t ht => (V.ok t ht).1
  have hz : ((c.z.toNat : Nat) : Int) = c.z := by omega
  have key : ∀ j : Nat, j < c.z.toNat → tieAt c.ties j + sumAt c.offs j = sumAt c.asks j := fun j hj => by
    have e := net_get (z := c.z) (j := (j : Int)) (ties := c.ties) (asks := c.asks) (offs := c.offs) (by omega) (by omega) (fun t ht => ⟨(h1 t ht).1.1, (h1 t ht).2.1⟩) (fun t ht => (h2 t ht).1) (fun t ht => (h3 t ht).1)
    rw [F.2.2.2.2, Int.toNat_natCast, List.getElem?_replicate, if_pos hj] at e
    cases e' : tieAt c.ties j - sumAt c.asks j + sumAt c.offs j with
    | _ => rw [e'] at e; simp only [Option.some.injEq] at e; omega
  have k2 := zsum_congr (m := mk c) (f := fun j => tieAt c.ties j + sumAt c.offs j) (g := sumAt c.asks) c.z.toNat key
  rw [zsum_add (m := mk c) (f := tieAt c.ties) (g := sumAt c.offs)] at k2
  rw [zsum_tie (n := c.z.toNat) (by rw [hz]; exact h1), zsum_at (n := c.z.toNat) (by rw [hz]; exact h3), zsum_at (n := c.z.toNat) (by rw [hz]; exact h2)] at k2
  simp only [pays, gets, rents]
  omega
theorem fine_rents {c : Cs} (V : Rows c) (F : Fine c) : ∀ r ∈ rents c, 0 ≤ r := fun r hr => by
  obtain ⟨t, ht, rfl⟩ := List.mem_map.mp hr
  obtain ⟨_, _, _, p0, _⟩ := V.tk t ht
  obtain ⟨_, _, f1, f2⟩ := F.2.2.2.1 t ht
  rcases Int.lt_trichotomy (mk c t.s) (mk c t.u) with g | g | g
  · rw [f1 g]; exact Int.mul_nonneg p0 (by omega)
  · rw [g, Int.sub_self, Int.mul_zero]; exact Int.le_refl _
  · rw [f2 g]; exact Int.mul_nonneg_of_nonpos_of_nonpos (by omega) (by omega)
theorem fine_pays {c : Cs} (V : Rows c) (F : Fine c) {t : Tr} (ht : t ∈ c.asks) : mk c t.s * t.q ≤ t.p * t.q := by
  obtain ⟨q0, _, _, f2⟩ := F.2.1 t ht
  by_cases g : mk c t.s ≤ t.p
  · exact Int.mul_le_mul_of_nonneg_right g q0
  · rw [f2 (by omega)]; simp
theorem fine_gets {c : Cs} (V : Rows c) (F : Fine c) {t : Tr} (ht : t ∈ c.offs) : t.p * t.q ≤ mk c t.s * t.q := by
  obtain ⟨q0, _, _, f2⟩ := F.2.2.1 t ht
  by_cases g : t.p ≤ mk c t.s
  · exact Int.mul_le_mul_of_nonneg_right g q0
  · rw [f2 (by omega)]; simp
end K84
end SP84p
section SP84l
set_option linter.all false
set_option Elab.async false
set_option maxHeartbeats 1000000
open PySem PySem.Spec PyProof.Rows L2
namespace K84
open Bv
local macro_rules | `(tactic| infer_instance) => `(tactic| simp only [frameE, argF, List.map_cons, List.map_nil, List.cons_append, List.nil_append, List.length_cons, List.length_nil, Nat.reduceAdd, Nat.reduceSub, Int.reduceAdd, List.replicate, sset, clr, clr1, mutE, treeOf, sget, SV.put, nodeSet, clrx, clrx1, hideR, restE, keepD, refs, Int.toNat_zero, Int.reduceToNat, List.set_cons_zero, List.set_cons_succ, reduceIte, Nat.reduceEqDiff, reduceCtorEq, sx, res, resL, resL_ti, resL_d, resL_f, resL_tts, forgetL, forget, ti_snoc, tts_snoc, ti_set, List.getElem?_cons_zero, List.getElem?_cons_succ, nodeAt, Bool.and_false, Bool.false_and, Bool.false_eq_true])
local macro_rules | `(tactic| eq_refl) => `(tactic| first | with_reducible assumption | (with_reducible refine seqRet ?_) | (with_reducible refine orV (c1 := ?_) (c2 := ?_) (fun R h => ?_) (fun g R h => ?_) ?_; rotate_left 2) | (with_reducible refine andV (c1 := ?_) (c2 := ?_) (fun R h => ?_) (fun g R h => ?_) ?_; rotate_left 2) | (with_reducible refine seqIf (c := ?_) (fun R h => ?_) ?_; rotate_left) | (with_reducible refine ifS (c := ?_) (fun R h => ?_) ?_; rotate_left) | (with_reducible refine orT (c1 := ?_) (c2 := ?_) (fun R h => ?_) (fun g R h => ?_) ?_; rotate_left 2) | (with_reducible refine andT (c1 := ?_) (c2 := ?_) (fun R h => ?_) (fun g R h => ?_) ?_; rotate_left 2) | (with_reducible refine testC (w := wChain _ _ _ _ _) (c := ?_) (fun R h => ?_) ?_; rotate_left) | (with_reducible refine chainV (x := ?_) (y := ?_) (z := ?_) (c1 := ?_) (c2 := ?_) (fun R h => ?_) (fun R h => ?_) (fun R h => ?_) (fun g R h => ?_) (fun g R h => ?_) ?_; rotate_left 5) | (with_reducible refine notT (c1 := ?_) (fun R h => ?_) ?_; rotate_left) | refine ⟨rfl, ?_⟩ | refine ⟨_, rfl, ?_⟩ | refine ⟨⟨⟩, ?_⟩ | (apply Gf.mk; try infer_instance) | refine ⟨by first | decide | (dsimp only; decide), ?_⟩ | refine ⟨⟨by decide, by decide, by decide⟩, ?_⟩ | refine ⟨Or.inr ⟨by decide, by decide⟩, ?_⟩ | refine ⟨Or.inl ⟨by decide, by decide⟩, ?_⟩ | refine ixS_at (by assumption) (by first | exact ti_get (by assumption) | exact map_get (li_get (by assumption)) | exact map_get (by assumption)) ?_ | refine ⟨nd1, ?_⟩ | refine ⟨nd0, ?_⟩ | refine ⟨Nat.le_of_ble_eq_true rfl, ?_⟩ | refine ⟨by simp only [ti_len, tts_len, li_len, List.length_map, List.length_append, List.length_cons, List.length_nil]; omega, ?_⟩ | refine ⟨⟨rfl, by decide⟩, _, rfl, ?_⟩ | refine ⟨⟨rfl, by decide⟩, ?_⟩ | ((with_reducible apply tupD); exact rfl; first | exact allD_ti | exact allD_f | exact allD_map _) | ((with_reducible apply consTup); exact rfl; first | exact allD_ti | exact allD_f | exact allD_map _) | ((with_reducible apply tupCons); exact rfl; first | exact allD_ti | exact allD_f | exact allD_map _) | ((with_reducible apply tupS); exact rfl; first | exact allD_ti | exact allD_f | exact allD_map _) | ((with_reducible apply lstS); exact rfl; first | exact allD_ti | exact allD_f | exact allD_map _) | refine Brn.t rfl ?_ | refine Brn.f rfl ?_ | assumption)
local macro_rules | `(tactic| ac_rfl) => `(tactic| first | with_reducible assumption | (with_reducible refine seqRet ?_) | (with_reducible refine orV (c1 := ?_) (c2 := ?_) (fun R h => ?_) (fun g R h => ?_) ?_; rotate_left 2) | (with_reducible refine andV (c1 := ?_) (c2 := ?_) (fun R h => ?_) (fun g R h => ?_) ?_; rotate_left 2) | (with_reducible refine seqIf (c := ?_) (fun R h => ?_) ?_; rotate_left) | (with_reducible refine ifS (c := ?_) (fun R h => ?_) ?_; rotate_left) | (with_reducible refine orT (c1 := ?_) (c2 := ?_) (fun R h => ?_) (fun g R h => ?_) ?_; rotate_left 2) | (with_reducible refine andT (c1 := ?_) (c2 := ?_) (fun R h => ?_) (fun g R h => ?_) ?_; rotate_left 2) | (with_reducible refine testC (w := wChain _ _ _ _ _) (c := ?_) (fun R h => ?_) ?_; rotate_left) | (with_reducible refine chainV (x := ?_) (y := ?_) (z := ?_) (c1 := ?_) (c2 := ?_) (fun R h => ?_) (fun R h => ?_) (fun R h => ?_) (fun g R h => ?_) (fun g R h => ?_) ?_; rotate_left 5) | (with_reducible refine notT (c1 := ?_) (fun R h => ?_) ?_; rotate_left) | refine ⟨rfl, ?_⟩ | refine ⟨_, rfl, ?_⟩ | refine ⟨⟨⟩, ?_⟩ | refine ⟨by first | decide | (dsimp only; decide), ?_⟩ | refine ⟨⟨by decide, by decide, by decide⟩, ?_⟩ | refine ⟨Or.inr ⟨by decide, by decide⟩, ?_⟩ | refine ⟨Or.inl ⟨by decide, by decide⟩, ?_⟩ | refine ixS_at (by assumption) (by first | exact ti_get (by assumption) | exact map_get (li_get (by assumption)) | exact map_get (by assumption)) ?_ | refine ⟨nd1, ?_⟩ | refine ⟨nd0, ?_⟩ | refine ⟨Nat.le_of_ble_eq_true rfl, ?_⟩ | refine ⟨by simp only [ti_len, tts_len, li_len, List.length_map, List.length_append, List.length_cons, List.length_nil]; omega, ?_⟩ | refine ⟨⟨rfl, by decide⟩, _, rfl, ?_⟩ | refine ⟨⟨rfl, by decide⟩, ?_⟩ | ((with_reducible apply tupD); exact rfl; first | exact allD_ti | exact allD_f | exact allD_map _) | ((with_reducible apply consTup); exact rfl; first | exact allD_ti | exact allD_f | exact allD_map _) | ((with_reducible apply tupCons); exact rfl; first | exact allD_ti | exact allD_f | exact allD_map _) | ((with_reducible apply tupS); exact rfl; first | exact allD_ti | exact allD_f | exact allD_map _) | ((with_reducible apply lstS); exact rfl; first | exact allD_ti | exact allD_f | exact allD_map _) | refine Brn.t rfl ?_ | refine Brn.f rfl ?_ | assumption)
theorem same_eq (ad : Nat → Addr) : ∀ d, W_law_same ad d = G_same d
  | 0 => rfl
  | d + 1 => by
    show bodyW _ _ _ = bodyW _ _ _
    rw [same_eq ad d]
theorem S_same {ad : Nat → Addr} {x : D} {Q : EV → BEnv → Prop} (hp : plainD 8 x = true) (h : Q (.d (.bl true)) [SV.no, SV.no]) : W_law_same ad 8 [.t (.d x), .t (.d x)] Q := by
  rw [same_eq]
  exact same_ok 8 hp h
theorem pl_li {d : Nat} {ns : List Int} (h : ns.length < 1000000) : plainD (d + 2) (.tup (li ns)) = true := by
  show (decide ((li ns).length < 1000000) && (li ns).all (plainD (d + 1))) = true
  rw [li_len, Bool.and_eq_true, decide_eq_true_eq, List.all_eq_true]
  refine ⟨h, fun x hx => ?_⟩
  obtain ⟨n, _, rfl⟩ := List.mem_map.mp hx
  rfl
theorem pl_rows {d : Nat} {ts : List Tr} (h : ts.length < 1000000) : plainD (d + 3) (.tup (ts.map dRow)) = true := by
  show (decide ((ts.map dRow).length < 1000000) && (ts.map dRow).all (plainD (d + 2))) = true
  rw [List.length_map, Bool.and_eq_true, decide_eq_true_eq, List.all_eq_true]
  refine ⟨h, fun x hx => ?_⟩
  obtain ⟨t, _, rfl⟩ := List.mem_map.mp hx
  rfl
theorem ints_li : ∀ {ns : List Int}, intsD (li ns) = some ns
  | [] => rfl
  | n :: ns => by
    simp only [li, List.map_cons, intsD]
    rw [show intsD (List.map D.int ns) = some ns from ints_li]
theorem sum_sl {j : Nat} {k : Nat} {e : BEnv} {xs : List D} {ns : List Int} {R : EV → BEnv → Prop} (h1 : sget e j = .t (.d (.tup xs))) (h2 : xs[k]? = some (.tup (li ns))) (q : R (.d (.int ns.sum)) e) : wBL bSum (wCons (wD (wSubN j (wD (wC (.int (k : Int)))))) wNil) e R := by
  refine ⟨congrArg isNo h1, ?_⟩
  show subNQ j _ (.int (k : Int)) e
  unfold subNQ
  have h3 : nodeOf e (.s j) = some (.d (.tup xs)) := by simp only [nodeOf, h1]
  rw [h3]
  refine ixS_at (by omega) (map_get (f := OT.d) (x := .tup (li ns)) ((Int.toNat_natCast k).symm ▸ h2)) ?_
  show (match intsD (li ns) with | some ns => R (.d (.int ns.sum)) e | none => False)
  exact (show (match some ns with | some ns => R (.d (.int ns.sum)) e | none => False) from q) |> fun z => by simpa only [ints_li] using z
theorem S_case {ad : Nat → Addr} {c : Cs} {Q : EV → BEnv → Prop} (V : Rows c) (h : Q (.d (.bl true)) [SV.no]) : W_law_case ad [.t (.d (casD c))] Q := by
  have al := V.al
  have ol := V.ol
  have tl := V.tl
  have z0 := V.z0
  have z1 := V.z1
  have ml := V.ml
  have hrows : plainD 8 (.tup [.int c.z, .tup (c.ties.map dRow), .tup (c.asks.map dRow), .tup (c.offs.map dRow)]) = true := by
    have e1 : plainD 7 (.tup (c.ties.map dRow)) = true := pl_rows (d := 4) (by omega)
    have e2 : plainD 7 (.tup (c.asks.map dRow)) = true := pl_rows (d := 4) (by omega)
    have e3 : plainD 7 (.tup (c.offs.map dRow)) = true := pl_rows (d := 4) (by omega)
    show (decide (4 < 1000000) && (true && (plainD 7 (.tup (c.ties.map dRow)) && (plainD 7 (.tup (c.asks.map dRow)) && (plainD 7 (.tup (c.offs.map dRow)) && true))))) = true
    rw [e1, e2, e3]
    decide
  unfold W_law_case bodyW
  try infer_instance
  repeat eq_refl
  refine .mk (S_products V ?_)
  repeat eq_refl
  refine .mk (S_broken V fun L hL => ?_)
  repeat eq_refl
  obtain ⟨b, hb, hbi⟩ := eqD_pc (d := 2) (by decide) (pc_li (d := 0) (ns := L)) (pc_li (d := 0) (ns := []))
  have hf : b = true ↔ Fine c := by rw [hbi, D.lst.injEq, li_inj, hL]
  refine ⟨b, by rw [← resL_ti] at hb; exact hb, ?_⟩
  repeat eq_refl
  refine .mk (S_init V ⟨rfl, rfl, ?_⟩)
  refine Gf.fz 7 _ rfl (.mk ?_)
  try infer_instance
  repeat eq_refl
  refine .mk (S_shows_clearing V fun b' hb' => ?_)
  have hbb : b' = b := (pdec_eq hb').trans (pdec_eq hf).symm
  subst hbb
  repeat eq_refl
  refine .mk (S_same (by rfl) ?_)
  repeat eq_refl
  refine .mk (S_settlement V ?_)
  repeat eq_refl
  have hpay : plainD 8 (payD c) = true := by
    have e1 : plainD 7 (.tup (li (pays c))) = true := pl_li (d := 5) (by simp [pays]; omega)
    have e2 : plainD 7 (.tup (li (gets c))) = true := pl_li (d := 5) (by simp [gets]; omega)
    have e3 : plainD 7 (.tup (li (rents c))) = true := pl_li (d := 5) (by simp [rents]; omega)
    show (decide (3 < 1000000) && (plainD 7 (.tup (li (pays c))) && (plainD 7 (.tup (li (gets c))) && (plainD 7 (.tup (li (rents c))) && true)))) = true
    rw [e1, e2, e3]
    decide
  refine .mk (S_same hpay ?_)
  repeat eq_refl
  refine .of (fun g => ?_) (fun g => ?_)
  · have F := hf.mp g
    refine seqIf (c := ?_) (fun R h => ?_) ?_
    rotate_left
    refine orT (c1 := ?_) (c2 := ?_) (fun R h => ?_) (fun g R h => ?_) ?_
    rotate_left 2
    refine sum_sl (j := 8) (k := 0) (xs := [.tup (li (pays c)), .tup (li (gets c)), .tup (li (rents c))]) (ns := pays c) rfl rfl ?_
    refine sum_sl (j := 8) (k := 1) (xs := [.tup (li (pays c)), .tup (li (gets c)), .tup (li (rents c))]) (ns := gets c) rfl rfl ?_
    refine sum_sl (j := 8) (k := 2) (xs := [.tup (li (pays c)), .tup (li (gets c)), .tup (li (rents c))]) (ns := rents c) rfl rfl ?_
    repeat eq_refl
    · refine ⟨?_⟩
      try infer_instance
      refine lc_pure (enc := D.int) (xs := rents c) (E := ?_) (c := fun r => decide (r < 0)) (f := fun n => .d (.int n)) trivial (fun n hn R h => ?_) (fun n hn R h => ?_) (fun n hn g R h => ?_) (fun n hn => ?_) (by simp [rents]; omega) ?_
      rotate_left
      · (repeat ac_rfl) <;> exact h
      · (repeat ac_rfl) <;> exact h
      · (repeat ac_rfl) <;> exact h
      · exact rfl
      rw [List.filter_eq_nil_iff.mpr fun n hn => by simpa using fine_rents V F n hn]
      repeat eq_refl
    repeat eq_refl
    refine .f (by simp [fine_sums V F, resL]) ?_
    refine Gf.mk ?_
    try infer_instance
    refine seqIf (c := ?_) (fun R h => ?_) ?_
    rotate_left
    · refine ⟨rfl, ?_⟩
      refine ⟨⟨by simp <;> omega, by simp <;> omega⟩, ?_⟩
      refine ⟨?_⟩
      try infer_instance
      refine lc_upF (E := ?_) (c := fun _ => false) (f := fun _ => .d .non) trivial (fun k hk R h => ?_) (fun k hk R h => ?_) (fun k hk g R h => nomatch g) (fun k => ?_) (by simp <;> omega) ?_
      rotate_left
      · (repeat ac_rfl) <;> exact h
      · have hk : k < c.asks.length := by simpa using hk
        have k0 : 0 ≤ (k : Int) := by omega
        have ht : c.asks[k]? = some (c.asks[k]) := List.getElem?_eq_getElem hk
        generalize c.asks[k] = t at ht
        have hm := List.mem_of_getElem? ht
        have hr : (c.asks.map dRow)[(k : Int).toNat]? = some (dRow t) := map_get ht
        have hq : (c.asks.map Tr.q)[(k : Int).toNat]? = some t.q := map_get ht
        have hp : (pays c)[(k : Int).toNat]? = some (mk c t.s * t.q) := map_get ht
        have pb := V.ak t hm
        repeat eq_refl
        refine ⟨mulL (by omega) (by omega), ?_⟩
        repeat eq_refl
        have e0 : decide (t.p * t.q < mk c t.s * t.q) = false := by have := fine_pays V F hm; simp; omega
        first | (rw [e0]; done) | (rw [e0]; exact h)
      · exact rfl
      rw [List.filter_eq_nil_iff.mpr (by simp)]
      repeat eq_refl
    refine .f (by simp [resL]) ?_
    refine Gf.mk ?_
    try infer_instance
    refine seqIf (c := ?_) (fun R h => ?_) ?_
    rotate_left
    · refine ⟨rfl, ?_⟩
      refine ⟨⟨by simp <;> omega, by simp <;> omega⟩, ?_⟩
      refine ⟨?_⟩
      try infer_instance
      refine lc_upF (E := ?_) (c := fun _ => false) (f := fun _ => .d .non) trivial (fun k hk R h => ?_) (fun k hk R h => ?_) (fun k hk g R h => nomatch g) (fun k => ?_) (by simp <;> omega) ?_
      rotate_left
      · (repeat ac_rfl) <;> exact h
      · have hk : k < c.offs.length := by simpa using hk
        have k0 : 0 ≤ (k : Int) := by omega
        have ht : c.offs[k]? = some (c.offs[k]) := List.getElem?_eq_getElem hk
        generalize c.offs[k] = t at ht
        have hm := List.mem_of_getElem? ht
        have hr : (c.offs.map dRow)[(k : Int).toNat]? = some (dRow t) := map_get ht
        have hq : (c.offs.map Tr.q)[(k : Int).toNat]? = some t.q := map_get ht
        have hp : (gets c)[(k : Int).toNat]? = some (mk c t.s * t.q) := map_get ht
        have pb := V.ok t hm
        repeat eq_refl
        refine ⟨mulL (by omega) (by omega), ?_⟩
        repeat eq_refl
        have e0 : decide (mk c t.s * t.q < t.p * t.q) = false := by have := fine_gets V F hm; simp; omega
        first | (rw [e0]; done) | (rw [e0]; exact h)
      · exact rfl
      rw [List.filter_eq_nil_iff.mpr (by simp)]
      repeat eq_refl
    refine .f (by simp [resL]) ?_
    refine Gf.mk ?_
    try infer_instance
    repeat eq_refl
    refine .mk (S_same hrows ?_)
    repeat eq_refl
  · repeat eq_refl
    refine .mk (S_same hrows ?_)
    repeat eq_refl
theorem right_rows {c : Cs} (R : RightOk c) : Rows c := by
  have hz := R.ml
  have at_ : ∀ {s : Int} {m : Int}, c.ms[s.toNat]? = some m → 0 ≤ s → s < c.z := fun {s m} h h0 => by have := (List.getElem?_eq_some_iff.mp h).1; omega
  refine ⟨R.z0, R.z1, R.ml, Nat.le_trans R.tl (by decide), R.al, R.ol, fun t ht => ?_, fun t ht => ?_, fun t ht => ?_, fun t ht => ?_, fun t ht => ?_, fun t ht => ?_⟩
  · obtain ⟨m, n, a1, a2, a3, a4, a5, a6, a7, _⟩ := R.tk t ht
    exact ⟨⟨a1, at_ a2 a1⟩, ⟨a3, at_ a4 a3⟩, a5, a6, a7⟩
  · obtain ⟨m, a1, a2, a3, a4, a5, a6, _⟩ := R.ak t ht
    exact ⟨⟨a1, at_ a2 a1⟩, a3, a4, a5, a6⟩
  · obtain ⟨m, a1, a2, a3, a4, a5, a6, _⟩ := R.ok t ht
    exact ⟨⟨a1, at_ a2 a1⟩, a3, a4, a5, a6⟩
  · obtain ⟨m, n, a1, a2, a3, a4, a5, a6, a7, a8, a9, _⟩ := R.tk t ht
    omega
  · obtain ⟨m, a1, a2, a3, a4, a5, a6, a7, a8, _⟩ := R.ak t ht
    omega
  · obtain ⟨m, a1, a2, a3, a4, a5, a6, a7, a8, _⟩ := R.ok t ht
    omega
theorem right_fine {c : Cs} (R : RightOk c) : Fine c := by
  have g : ∀ {s m : Int}, c.ms[s.toNat]? = some m → mk c s = m := fun {s m} h => by simp [mk, h]
  refine ⟨R.mb, fun t ht => ?_, fun t ht => ?_, fun t ht => ?_, R.nz⟩
  · obtain ⟨m, a1, a2, a3, a4, a5, a6, a7, a8, a9, a10⟩ := R.ak t ht
    rw [fineA, g a2]
    exact ⟨a7, a8, fun q => a9 (by omega), fun q => a10 (by omega)⟩
  · obtain ⟨m, a1, a2, a3, a4, a5, a6, a7, a8, a9, a10⟩ := R.ok t ht
    rw [fineO, g a2]
    exact ⟨a7, a8, fun q => a9 (by omega), fun q => a10 (by omega)⟩
  · obtain ⟨m, n, a1, a2, a3, a4, a5, a6, a7, a8, a9, a10, a11⟩ := R.tk t ht
    rw [fineT, g a2, g a4]
    exact ⟨a8, a9, a10, a11⟩
theorem right_bnd {c : Cs} (R : RightOk c) : bnd 60 (c.ties.map Tr.q) ∧ bnd 60 (c.asks.map Tr.q) ∧ bnd 60 (c.offs.map Tr.q) := by
  refine ⟨fun x hx => ?_, fun x hx => ?_, fun x hx => ?_⟩
  · obtain ⟨t, ht, rfl⟩ := List.mem_map.mp hx
    obtain ⟨m, n, a1, a2, a3, a4, a5, a6, a7, a8, a9, _⟩ := R.tk t ht
    omega
  · obtain ⟨t, ht, rfl⟩ := List.mem_map.mp hx
    obtain ⟨m, a1, a2, a3, a4, a5, a6, a7, a8, _⟩ := R.ak t ht
    omega
  · obtain ⟨t, ht, rfl⟩ := List.mem_map.mp hx
    obtain ⟨m, a1, a2, a3, a4, a5, a6, a7, a8, _⟩ := R.ok t ht
    omega
theorem good : Good := fun ad ns hl => by
  unfold W_law bodyW
  try infer_instance
  repeat eq_refl
  refine .mk (show G_pool _ _ from pool_ok (by decide) (by decide) fun p => ?_)
  obtain ⟨a, b, d, ha, hb, hd⟩ := p
  repeat eq_refl
  refine .mk (S_right ha hb hd fun a b d c ha hb hd R => ?_)
  have V := right_rows R
  have F := right_fine R
  obtain ⟨b1, b2, b3⟩ := right_bnd R
  repeat eq_refl
  refine ⟨⟨by decide, by decide⟩, ?_⟩
  refine ⟨?_⟩
  refine for_up (E := fun s : Int × Int × Int × List Cs => [.t (.d (.lsk (ns.map D.int))), .t (pl s.1 s.2.1 s.2.2.1), .t (.d (casD c)), .t (.l (s.2.2.2.map fun x => .d (casD x))), .no, .no, .no, .no, .no]) (I := fun k s => 0 ≤ s.1 ∧ 0 ≤ s.2.1 ∧ 0 ≤ s.2.2.1 ∧ s.2.2.2.length = k + 1 ∧ ∀ x ∈ s.2.2.2, Rows x) (s := (a, b, d, [c])) ⟨ha, hb, hd, rfl, by simpa using V⟩ ?_ ?_
  · rintro k ⟨a, b, d, cs⟩ C' hk ⟨ha, hb, hd, hl, hR⟩ cr cb ih ih2 fg fg2
    dsimp only at ha hb hd hl hR
    have hk : k < 6 := hk
    repeat eq_refl
    refine .mk (S_spoilt ha hb hd V b1 b2 b3 fun a b d c' ha hb hd V' => ?_)
    repeat eq_refl
    have es : List.map (fun x => OT.d (casD x)) cs ++ [OT.d (casD c')] = List.map (fun x => OT.d (casD x)) (cs ++ [c']) := by simp
    rw [es]
    refine fg [4] _ rfl (ih (a, b, d, cs ++ [c']) ⟨ha, hb, hd, by simp [hl], fun x hx => ?_⟩)
    rcases List.mem_append.mp hx with q | q
    · exact hR x q
    · exact (List.mem_singleton.mp q) ▸ V'
  rintro ⟨a, b, d, cs⟩ ⟨ha, hb, hd, hl, hR⟩
  dsimp only at ha hb hd hl hR
  obtain ⟨c0, c1, c2, c3, c4, c5, c6, rfl⟩ : ∃ c0 c1 c2 c3 c4 c5 c6, cs = [c0, c1, c2, c3, c4, c5, c6] := match cs, hl with
    | [c0, c1, c2, c3, c4, c5, c6], _ => ⟨c0, c1, c2, c3, c4, c5, c6, Eq.refl _⟩
  refine ⟨⟨⟩, ?_⟩
  repeat eq_refl
  refine .mk (S_broken V fun L hL => ?_)
  have hL := hL.mpr F
  subst hL
  repeat eq_refl
  refine .mk (S_case (hR c0 (by simp)) ?_)
  repeat eq_refl
  refine .mk (S_case (hR c1 (by simp)) ?_)
  repeat eq_refl
  refine .mk (S_case (hR c2 (by simp)) ?_)
  repeat eq_refl
  refine .mk (S_case (hR c3 (by simp)) ?_)
  repeat eq_refl
  refine .mk (S_case (hR c4 (by simp)) ?_)
  repeat eq_refl
  refine .mk (S_case (hR c5 (by simp)) ?_)
  repeat eq_refl
  refine .mk (S_case (hR c6 (by simp)) ?_)
  repeat eq_refl
  refine .mk (S_case (hR c0 (by simp)) ?_)
  repeat eq_refl
theorem all_holds : PySem.Challenge.rw_gridstead_k84_clearing_judge_and_settlem.Holds := holds good
end K84
end SP84l
set_option Elab.async false
set_option maxRecDepth 100000 in
set_option maxHeartbeats 8000000 in
theorem PySem.Challenge.cw_gridstead_k84_clearing_judge_and_settlem_holds : PySem.Challenge.rw_gridstead_k84_clearing_judge_and_settlem.Holds :=
  K84.holds K84.good
