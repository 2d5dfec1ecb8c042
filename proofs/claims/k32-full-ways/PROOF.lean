import PyProof.Rows.All
import HandS.ForMost
import HandS.AnyAll
import HandS.Wide
import HandS.TupAny
import HandS.Conv
import HandS.IsInst
import HandS.Flow
import HandS.Defaults
import HandS.NoneIn
import HandS.Deep
import PySem.Challenge.RW_anyamount_k32_full_ways
set_option Elab.async false
set_option linter.all false
/-! VS0: plain data D, data with owned lists O, how they lie in the abstract heap; states and their steps. -/
namespace VS
open PySem PySem.Spec PyProof.Rows L2

/-- plain data: what is never changed again -/
inductive D where
  | non | bl (b : Bool) | int (i : Int) | str (s : Str) | tup (l : List D) | lst (l : List D) | scr (ns : List Int)

/-- data, or a list that one place alone holds -/
inductive O where
  | fz (d : D) | own (l : List O)

mutual
@[simp] def O.val : O → D
  | .fz d => d
  | .own l => .lst (O.vals l)
@[simp] def O.vals : List O → List D
  | [] => []
  | o :: l => o.val :: O.vals l
end
theorem O.vals_map : ∀ l : List O, O.vals l = l.map O.val
  | [] => rfl
  | o :: l => by rw [O.vals, List.map_cons, O.vals_map l]

theorem D.ind {P : D → Prop} (h0 : P .non) (h1 : ∀ b, P (.bl b)) (h2 : ∀ i, P (.int i)) (h3 : ∀ s, P (.str s)) (h4 : ∀ l, (∀ d ∈ l, P d) → P (.tup l)) (h5 : ∀ l, (∀ d ∈ l, P d) → P (.lst l)) (h6 : ∀ ns, P (.scr ns)) : ∀ d, P d := by
  intro d
  refine D.rec (motive_1 := P) (motive_2 := fun l => ∀ d ∈ l, P d) h0 h1 h2 h3 h4 h5 h6 ?_ ?_ d
  · intro d hd; cases hd
  · intro x l hx hl d hd
    rcases List.mem_cons.mp hd with rfl | h
    · exact hx
    · exact hl d h
theorem O.ind {P : O → Prop} (h0 : ∀ d, P (.fz d)) (h1 : ∀ l, (∀ o ∈ l, P o) → P (.own l)) : ∀ o, P o := by
  intro o
  refine O.rec (motive_1 := P) (motive_2 := fun l => ∀ o ∈ l, P o) h0 h1 ?_ ?_ o
  · intro d hd; cases hd
  · intro x l hx hl d hd
    rcases List.mem_cons.mp hd with rfl | h
    · exact hx
    · exact hl d h

section
variable (K : PySem.W.Frag) (H : Hp) (A : List Addr)
/-- a list that was there (the script) -/
def ScrAt (a : Addr) (xs : List V) : Prop := (H a = some (.lst xs) ∧ a ∉ A) ∨ (∃ o, H a = some (.frz o (.lst xs))) ∨
    ∃ (o : Obj) (its : Array Value) (n : Nat), K.lookup a = some o ∧ o.cls = .type "list" ∧ o.dict = none ∧ o.data = .seq its n ∧ its.size ≤ sizeLine ∧ Vals xs its.toList
mutual
/-- v is the datum d; no list in it stands at A -/
def Rep : D → V → Prop
  | .non, v => v = .non
  | .bl b, v => v = .bl b
  | .int i, v => v = .int i
  | .str s, v => v = .str s
  | .tup l, v => ∃ a vs, v = .ref a ∧ SqT K H a vs ∧ Reps l vs
  | .lst l, v => ∃ a vs, v = .ref a ∧ H a = some (.lst vs) ∧ a ∉ A ∧ Reps l vs
  | .scr ns, v => ∃ a, v = .ref a ∧ ScrAt K H A a (ns.map V.int)
def Reps : List D → List V → Prop
  | [], vs => vs = []
  | d :: l, vs => ∃ v r, vs = v :: r ∧ Rep d v ∧ Reps l r
end
mutual
/-- v is o, its owned lists stand at F -/
def RepO : O → V → List Addr → Prop
  | .fz d, v, F => F = [] ∧ Rep K H A d v
  | .own l, v, F => ∃ a vs F', v = .ref a ∧ H a = some (.lst vs) ∧ F = a :: F' ∧ RepOs l vs F'
def RepOs : List O → List V → List Addr → Prop
  | [], vs, F => vs = [] ∧ F = []
  | o :: l, vs, F => ∃ v r F1 F2, vs = v :: r ∧ F = F1 ++ F2 ∧ RepO o v F1 ∧ RepOs l r F2
end
/-- the slots -/
def RepE : List (Option O) → List (Option V) → List Addr → Prop
  | [], σ, F => σ = [] ∧ F = []
  | none :: ε, σ, F => ∃ x r, σ = x :: r ∧ RepE ε r F
  | some o :: ε, σ, F => ∃ v r F1 F2, σ = some v :: r ∧ F = F1 ++ F2 ∧ RepO K H A o v F1 ∧ RepE ε r F2
end

/-- what stays when H becomes H' and the lists at M may change -/
def Keep (T : List Addr) (H : Hp) (M : List Addr) (H' : Hp) : Prop := ∀ b o, H b = some o → b ∉ M → b ∉ T → H' b = some o

section
variable {K : PySem.W.Frag} {T : List Addr} {H H' H'' : Hp} {A A' M M' R F : List Addr}

def Tabs (T : List Addr) (H : Hp) : Prop := ∀ P ∈ T, GxR.TabG H P
theorem Tabs.nlst (t : Tabs T H) {a : Addr} {vs : List V} (h : H a = some (.lst vs)) : a ∉ T := fun hm => by
  obtain ⟨ps, e, _⟩ := t a hm
  rw [h] at e; cases e
theorem Tabs.ntup (t : Tabs T H) {a : Addr} {vs : List V} (h : H a = some (.tup vs)) : a ∉ T := fun hm => by
  obtain ⟨ps, e, _⟩ := t a hm
  rw [h] at e; cases e
theorem Tabs.nfrz (t : Tabs T H) {a : Addr} {ob : Obj} {u : HO} (h : H a = some (.frz ob u)) : a ∉ T := fun hm => by
  obtain ⟨ps, e, _⟩ := t a hm
  rw [h] at e; cases e

/-- all owned places hold lists -/
def Lists (H : Hp) (M : List Addr) : Prop := ∀ a ∈ M, ∃ vs, H a = some (.lst vs)
theorem Lists.ntup (l : Lists H M) {a : Addr} {vs : List V} (h : H a = some (.tup vs)) : a ∉ M := fun hm => by
  obtain ⟨ps, e⟩ := l a hm
  rw [h] at e; cases e
theorem Lists.nfrz (l : Lists H M) {a : Addr} {ob : Obj} {u : HO} (h : H a = some (.frz ob u)) : a ∉ M := fun hm => by
  obtain ⟨ps, e⟩ := l a hm
  rw [h] at e; cases e

theorem Keep.refl : Keep T H M H := fun _ _ h _ _ => h
theorem Keep.sqT (k : Keep T H M H') (t : Tabs T H) (l : Lists H M) {a : Addr} {vs : List V} (h : SqT K H a vs) : SqT K H' a vs := by
  rcases h with (h | ⟨o, h⟩) | h
  · exact .inl (.inl (k _ _ h (l.ntup h) (t.ntup h)))
  · exact .inl (.inr ⟨o, k _ _ h (l.nfrz h) (t.nfrz h)⟩)
  · exact .inr h
theorem ScrAt.sq {a : Addr} {xs : List V} (h : ScrAt K H A a xs) : SqL K H a xs := by
  rcases h with ⟨h, _⟩ | ⟨o, h⟩ | h
  · exact .inl (.inl h)
  · exact .inl (.inr ⟨o, h⟩)
  · exact .inr h
theorem ScrAt.of {a : Addr} {xs : List V} (h : SqL K H a xs) (n : a ∉ A) : ScrAt K H A a xs := by
  rcases h with (h | ⟨o, h⟩) | h
  · exact .inl ⟨h, n⟩
  · exact .inr (.inl ⟨o, h⟩)
  · exact .inr (.inr h)
theorem Keep.scrAt (k : Keep T H M H') (t : Tabs T H) (l : Lists H M) (hM : ∀ a ∈ M, a ∈ A) (hA : ∀ a ∈ A', a ∈ A ∨ H a = none) {a : Addr} {xs : List V} (h : ScrAt K H A a xs) : ScrAt K H' A' a xs := by
  rcases h with ⟨h, n⟩ | ⟨o, h⟩ | h
  · refine .inl ⟨k _ _ h (fun z => n (hM _ z)) (t.nlst h), fun z => ?_⟩
    rcases hA a z with z | z
    · exact n z
    · rw [h] at z; cases z
  · exact .inr (.inl ⟨o, k _ _ h (l.nfrz h) (t.nfrz h)⟩)
  · exact .inr (.inr h)
theorem ScrAt.anti {a : Addr} {xs : List V} (h : ScrAt K H A a xs) (hA : ∀ a ∈ A', a ∈ A) : ScrAt K H A' a xs := by
  rcases h with ⟨h, n⟩ | h
  · exact .inl ⟨h, fun z => n (hA _ z)⟩
  · exact .inr h

/-! ### lists of data -/
theorem Reps.length : ∀ {l : List D} {vs : List V}, Reps K H A l vs → vs.length = l.length
  | [], _, h => by rw [Reps] at h; subst h; rfl
  | d :: l, _, h => by
    rw [Reps] at h
    obtain ⟨v, r, rfl, _, h⟩ := h
    rw [List.length_cons, List.length_cons, Reps.length h]
theorem Reps.get : ∀ {l : List D} {vs : List V} {i : Nat} {v : V}, Reps K H A l vs → vs[i]? = some v → ∃ d, l[i]? = some d ∧ Rep K H A d v
  | [], _, i, v, h, e => by rw [Reps] at h; subst h; simp at e
  | d :: l, _, i, v, h, e => by
    rw [Reps] at h
    obtain ⟨w, r, rfl, hw, h⟩ := h
    cases i with
    | zero => simp at e; subst e; exact ⟨d, rfl, hw⟩
    | succ i =>
      obtain ⟨d', h1, h2⟩ := Reps.get h (by simpa using e)
      exact ⟨d', by simpa using h1, h2⟩
theorem Reps.get' : ∀ {l : List D} {vs : List V} {i : Nat} {d : D}, Reps K H A l vs → l[i]? = some d → ∃ v, vs[i]? = some v ∧ Rep K H A d v
  | [], _, i, v, h, e => by simp at e
  | d :: l, _, i, v, h, e => by
    rw [Reps] at h
    obtain ⟨w, r, rfl, hw, h⟩ := h
    cases i with
    | zero => simp at e; subst e; exact ⟨w, rfl, hw⟩
    | succ i =>
      obtain ⟨d', h1, h2⟩ := Reps.get' h (by simpa using e)
      exact ⟨d', by simpa using h1, h2⟩
theorem Reps.append : ∀ {l l' : List D} {vs vs' : List V}, Reps K H A l vs → Reps K H A l' vs' → Reps K H A (l ++ l') (vs ++ vs')
  | [], _, _, _, h, h' => by rw [Reps] at h; subst h; exact h'
  | d :: l, _, _, _, h, h' => by
    rw [Reps] at h
    obtain ⟨v, r, rfl, hv, h⟩ := h
    show Reps K H A (d :: (l ++ _)) _
    rw [Reps]
    exact ⟨v, _, rfl, hv, Reps.append h h'⟩
theorem Reps.take : ∀ {l : List D} {vs : List V} (n : Nat), Reps K H A l vs → Reps K H A (l.take n) (vs.take n)
  | _, _, 0, _ => by simp [Reps]
  | [], _, n + 1, h => by rw [Reps] at h; subst h; simp [Reps]
  | d :: l, _, n + 1, h => by
    rw [Reps] at h
    obtain ⟨v, r, rfl, hv, h⟩ := h
    rw [List.take_succ_cons, List.take_succ_cons, Reps]
    exact ⟨v, _, rfl, hv, Reps.take n h⟩
theorem Reps.drop : ∀ {l : List D} {vs : List V} (n : Nat), Reps K H A l vs → Reps K H A (l.drop n) (vs.drop n)
  | _, _, 0, h => h
  | [], _, n + 1, h => by rw [Reps] at h; subst h; simp [Reps]
  | d :: l, _, n + 1, h => by
    rw [Reps] at h
    obtain ⟨v, r, rfl, hv, h⟩ := h
    exact Reps.drop n h
theorem Reps.set : ∀ {l : List D} {vs : List V} {d : D} {v : V} (n : Nat), Reps K H A l vs → Rep K H A d v → Reps K H A (l.set n d) (vs.set n v)
  | [], _, _, _, n, h, _ => by rw [Reps] at h; subst h; simp [Reps]
  | d :: l, _, _, _, 0, h, hd => by
    rw [Reps] at h
    obtain ⟨v, r, rfl, hv, h⟩ := h
    rw [List.set_cons_zero, List.set_cons_zero, Reps]
    exact ⟨_, _, rfl, hd, h⟩
  | d :: l, _, _, _, n + 1, h, hd => by
    rw [Reps] at h
    obtain ⟨v, r, rfl, hv, h⟩ := h
    rw [List.set_cons_succ, List.set_cons_succ, Reps]
    exact ⟨_, _, rfl, hv, Reps.set n h hd⟩
theorem Reps.of : ∀ {l : List D} {vs : List V}, vs.length = l.length → (∀ (i : Nat) (d : D) (v : V), l[i]? = some d → vs[i]? = some v → Rep K H A d v) → Reps K H A l vs
  | [], vs, hl, _ => by rw [Reps]; exact List.length_eq_zero_iff.mp hl
  | d :: l, [], hl, _ => by simp at hl
  | d :: l, v :: vs, hl, h => by
    rw [Reps]
    exact ⟨v, vs, rfl, h 0 d v rfl rfl, Reps.of (by simpa using hl) fun i d' v' h1 h2 => h (i + 1) d' v' (by simpa using h1) (by simpa using h2)⟩
theorem Reps.mem {l : List D} {vs : List V} (h : Reps K H A l vs) {v : V} (hv : v ∈ vs) : ∃ d ∈ l, Rep K H A d v := by
  obtain ⟨i, hi, e⟩ := List.getElem_of_mem hv
  obtain ⟨d, h1, h2⟩ := h.get (i := i) (v := v) (by rw [List.getElem?_eq_getElem hi, e])
  exact ⟨d, List.mem_of_getElem? h1, h2⟩
theorem Reps.reverse {l : List D} {vs : List V} (h : Reps K H A l vs) : Reps K H A l.reverse vs.reverse := by
  refine Reps.of (by rw [List.length_reverse, List.length_reverse, h.length]) fun i d v h1 h2 => ?_
  have hl := h.length
  have hi : i < l.length := by
    obtain ⟨q, _⟩ := List.getElem?_eq_some_iff.mp h1
    simpa using q
  rw [List.getElem?_reverse hi] at h1
  rw [List.getElem?_reverse (by omega)] at h2
  obtain ⟨d', e1, e2⟩ := h.get (v := v) h2
  rw [hl] at e1
  rw [h1] at e1
  cases e1
  exact e2
theorem Reps.ints : ∀ {ns : List Int}, Reps K H A (ns.map D.int) (ns.map V.int)
  | [] => by simp [Reps]
  | n :: ns => by
    rw [List.map_cons, List.map_cons, Reps]
    exact ⟨_, _, rfl, by rw [Rep], Reps.ints⟩

/-! ### what stays -/
theorem Rep.mono (k : Keep T H M H') (t : Tabs T H) (l : Lists H M) (hM : ∀ a ∈ M, a ∈ A) (hA : ∀ a ∈ A', a ∈ A ∨ H a = none) : ∀ (d : D) (v : V), Rep K H A d v → Rep K H' A' d v := by
  have lists : ∀ (l : List D), (∀ d ∈ l, ∀ v, Rep K H A d v → Rep K H' A' d v) → ∀ vs, Reps K H A l vs → Reps K H' A' l vs := by
    intro l
    induction l with
    | nil => intro _ vs h; rw [Reps] at h ⊢; exact h
    | cons d l ih =>
      intro hl vs h
      rw [Reps] at h ⊢
      obtain ⟨v, r, e, h1, h2⟩ := h
      exact ⟨v, r, e, hl d List.mem_cons_self v h1, ih (fun d hd => hl d (List.mem_cons_of_mem _ hd)) r h2⟩
  intro d
  induction d using D.ind with
  | h0 => intro v h; rw [Rep] at h ⊢; exact h
  | h1 b => intro v h; rw [Rep] at h ⊢; exact h
  | h2 i => intro v h; rw [Rep] at h ⊢; exact h
  | h3 s => intro v h; rw [Rep] at h ⊢; exact h
  | h4 ds ih =>
    intro v h
    rw [Rep] at h ⊢
    obtain ⟨a, vs, e, h1, h2⟩ := h
    exact ⟨a, vs, e, k.sqT t l h1, lists ds ih vs h2⟩
  | h5 ds ih =>
    intro v h
    rw [Rep] at h ⊢
    obtain ⟨a, vs, e, h1, n, h2⟩ := h
    refine ⟨a, vs, e, k _ _ h1 (fun z => n (hM _ z)) (t.nlst h1), fun z => ?_, lists ds ih vs h2⟩
    rcases hA a z with z | z
    · exact n z
    · rw [h1] at z; cases z
  | h6 ns =>
    intro v h
    rw [Rep] at h ⊢
    obtain ⟨a, e, h1⟩ := h
    exact ⟨a, e, k.scrAt t l hM hA h1⟩
theorem Reps.mono (k : Keep T H M H') (t : Tabs T H) (l : Lists H M) (hM : ∀ a ∈ M, a ∈ A) (hA : ∀ a ∈ A', a ∈ A ∨ H a = none) : ∀ (ds : List D) (vs : List V), Reps K H A ds vs → Reps K H' A' ds vs
  | [], vs, h => by rw [Reps] at h ⊢; exact h
  | d :: ds, vs, h => by
    rw [Reps] at h ⊢
    obtain ⟨v, r, e, h1, h2⟩ := h
    exact ⟨v, r, e, h1.mono k t l hM hA, Reps.mono k t l hM hA ds r h2⟩
theorem Rep.anti (hA : ∀ a ∈ A', a ∈ A) : ∀ (d : D) (v : V), Rep K H A d v → Rep K H A' d v := by
  have lists : ∀ (l : List D), (∀ d ∈ l, ∀ v, Rep K H A d v → Rep K H A' d v) → ∀ vs, Reps K H A l vs → Reps K H A' l vs := by
    intro l
    induction l with
    | nil => intro _ vs h; rw [Reps] at h ⊢; exact h
    | cons d l ih =>
      intro hl vs h
      rw [Reps] at h ⊢
      obtain ⟨v, r, e, h1, h2⟩ := h
      exact ⟨v, r, e, hl d List.mem_cons_self v h1, ih (fun d hd => hl d (List.mem_cons_of_mem _ hd)) r h2⟩
  intro d
  induction d using D.ind with
  | h0 => intro v h; rw [Rep] at h ⊢; exact h
  | h1 b => intro v h; rw [Rep] at h ⊢; exact h
  | h2 i => intro v h; rw [Rep] at h ⊢; exact h
  | h3 s => intro v h; rw [Rep] at h ⊢; exact h
  | h4 ds ih =>
    intro v h
    rw [Rep] at h ⊢
    obtain ⟨a, vs, e, h1, h2⟩ := h
    exact ⟨a, vs, e, h1, lists ds ih vs h2⟩
  | h5 ds ih =>
    intro v h
    rw [Rep] at h ⊢
    obtain ⟨a, vs, e, h1, n, h2⟩ := h
    exact ⟨a, vs, e, h1, fun z => n (hA _ z), lists ds ih vs h2⟩
  | h6 ns =>
    intro v h
    rw [Rep] at h ⊢
    obtain ⟨a, e, h1⟩ := h
    exact ⟨a, e, h1.anti hA⟩
theorem Reps.anti (hA : ∀ a ∈ A', a ∈ A) : ∀ (ds : List D) (vs : List V), Reps K H A ds vs → Reps K H A' ds vs
  | [], vs, h => by rw [Reps] at h ⊢; exact h
  | d :: ds, vs, h => by
    rw [Reps] at h ⊢
    obtain ⟨v, r, e, h1, h2⟩ := h
    exact ⟨v, r, e, h1.anti hA, Reps.anti hA ds r h2⟩

/-! ### owned lists -/
theorem RepO.ls : ∀ (o : O) (v : V) (F : List Addr), RepO K H A o v F → Lists H F := by
  intro o
  induction o using O.ind with
  | h0 d =>
    intro v F h
    rw [RepO] at h
    rw [h.1]
    intro a ha; cases ha
  | h1 l ih =>
    have lists : ∀ (l : List O), (∀ o ∈ l, ∀ v F, RepO K H A o v F → Lists H F) → ∀ vs F, RepOs K H A l vs F → Lists H F := by
      intro l
      induction l with
      | nil =>
        intro _ vs F h
        rw [RepOs] at h
        rw [h.2]
        intro a ha; cases ha
      | cons o l ih =>
        intro hl vs F h
        rw [RepOs] at h
        obtain ⟨v, r, F1, F2, e, e2, h1, h2⟩ := h
        rw [e2]
        intro a ha
        rcases List.mem_append.mp ha with ha | ha
        · exact hl o List.mem_cons_self v F1 h1 a ha
        · exact ih (fun d hd => hl d (List.mem_cons_of_mem _ hd)) r F2 h2 a ha
    intro v F h
    rw [RepO] at h
    obtain ⟨a, vs, F', e, h1, e2, h2⟩ := h
    rw [e2]
    intro b hb
    rcases List.mem_cons.mp hb with rfl | hb
    · exact ⟨vs, h1⟩
    · exact lists l ih vs F' h2 b hb
theorem RepOs.ls : ∀ (l : List O) (vs : List V) (F : List Addr), RepOs K H A l vs F → Lists H F
  | [], vs, F, h => by
    rw [RepOs] at h
    rw [h.2]
    intro a ha; cases ha
  | o :: l, vs, F, h => by
    rw [RepOs] at h
    obtain ⟨v, r, F1, F2, e, e2, h1, h2⟩ := h
    rw [e2]
    intro a ha
    rcases List.mem_append.mp ha with ha | ha
    · exact h1.ls _ _ _ a ha
    · exact RepOs.ls l r F2 h2 a ha
theorem RepO.mono (k : Keep T H M H') (t : Tabs T H) (l : Lists H M) (hM : ∀ a ∈ M, a ∈ A) (hA : ∀ a ∈ A', a ∈ A ∨ H a = none) : ∀ (o : O) (v : V) (F : List Addr), RepO K H A o v F → (∀ a ∈ F, a ∉ M) → RepO K H' A' o v F := by
  intro o
  induction o using O.ind with
  | h0 d =>
    intro v F h _
    rw [RepO] at h ⊢
    exact ⟨h.1, h.2.mono k t l hM hA⟩
  | h1 os ih =>
    have lists : ∀ (os : List O), (∀ o ∈ os, ∀ v F, RepO K H A o v F → (∀ a ∈ F, a ∉ M) → RepO K H' A' o v F) → ∀ vs F, RepOs K H A os vs F → (∀ a ∈ F, a ∉ M) → RepOs K H' A' os vs F := by
      intro os
      induction os with
      | nil => intro _ vs F h _; rw [RepOs] at h ⊢; exact h
      | cons o os ih =>
        intro hl vs F h hF
        rw [RepOs] at h ⊢
        obtain ⟨v, r, F1, F2, e, e2, h1, h2⟩ := h
        rw [e2] at hF
        exact ⟨v, r, F1, F2, e, e2, hl o List.mem_cons_self v F1 h1 fun a ha => hF a (List.mem_append_left _ ha), ih (fun d hd => hl d (List.mem_cons_of_mem _ hd)) r F2 h2 fun a ha => hF a (List.mem_append_right _ ha)⟩
    intro v F h hF
    rw [RepO] at h ⊢
    obtain ⟨a, vs, F', e, h1, e2, h2⟩ := h
    rw [e2] at hF
    exact ⟨a, vs, F', e, k _ _ h1 (hF a List.mem_cons_self) (t.nlst h1), e2, lists os ih vs F' h2 fun b hb => hF b (List.mem_cons_of_mem _ hb)⟩
theorem RepOs.mono (k : Keep T H M H') (t : Tabs T H) (l : Lists H M) (hM : ∀ a ∈ M, a ∈ A) (hA : ∀ a ∈ A', a ∈ A ∨ H a = none) : ∀ (os : List O) (vs : List V) (F : List Addr), RepOs K H A os vs F → (∀ a ∈ F, a ∉ M) → RepOs K H' A' os vs F
  | [], vs, F, h, _ => by rw [RepOs] at h ⊢; exact h
  | o :: os, vs, F, h, hF => by
    rw [RepOs] at h ⊢
    obtain ⟨v, r, F1, F2, e, e2, h1, h2⟩ := h
    rw [e2] at hF
    exact ⟨v, r, F1, F2, e, e2, h1.mono k t l hM hA _ _ _ (fun a ha => hF a (List.mem_append_left _ ha)), RepOs.mono k t l hM hA os r F2 h2 fun a ha => hF a (List.mem_append_right _ ha)⟩
theorem RepO.anti (hA : ∀ a ∈ A', a ∈ A) : ∀ (o : O) (v : V) (F : List Addr), RepO K H A o v F → RepO K H A' o v F := by
  intro o
  induction o using O.ind with
  | h0 d =>
    intro v F h
    rw [RepO] at h ⊢
    exact ⟨h.1, h.2.anti hA⟩
  | h1 os ih =>
    have lists : ∀ (os : List O), (∀ o ∈ os, ∀ v F, RepO K H A o v F → RepO K H A' o v F) → ∀ vs F, RepOs K H A os vs F → RepOs K H A' os vs F := by
      intro os
      induction os with
      | nil => intro _ vs F h; rw [RepOs] at h ⊢; exact h
      | cons o os ih =>
        intro hl vs F h
        rw [RepOs] at h ⊢
        obtain ⟨v, r, F1, F2, e, e2, h1, h2⟩ := h
        exact ⟨v, r, F1, F2, e, e2, hl o List.mem_cons_self v F1 h1, ih (fun d hd => hl d (List.mem_cons_of_mem _ hd)) r F2 h2⟩
    intro v F h
    rw [RepO] at h ⊢
    obtain ⟨a, vs, F', e, h1, e2, h2⟩ := h
    exact ⟨a, vs, F', e, h1, e2, lists os ih vs F' h2⟩
theorem RepOs.anti (hA : ∀ a ∈ A', a ∈ A) : ∀ (os : List O) (vs : List V) (F : List Addr), RepOs K H A os vs F → RepOs K H A' os vs F
  | [], vs, F, h => by rw [RepOs] at h ⊢; exact h
  | o :: os, vs, F, h => by
    rw [RepOs] at h ⊢
    obtain ⟨v, r, F1, F2, e, e2, h1, h2⟩ := h
    exact ⟨v, r, F1, F2, e, e2, h1.anti hA, RepOs.anti hA os r F2 h2⟩
/-- owned lists given up: data -/
theorem RepO.freeze (hA : ∀ a ∈ A', a ∈ A) : ∀ (o : O) (v : V) (F : List Addr), RepO K H A o v F → (∀ a ∈ F, a ∉ A') → Rep K H A' o.val v := by
  intro o
  induction o using O.ind with
  | h0 d =>
    intro v F h _
    rw [RepO] at h
    rw [O.val]
    exact h.2.anti hA
  | h1 os ih =>
    have lists : ∀ (os : List O), (∀ o ∈ os, ∀ v F, RepO K H A o v F → (∀ a ∈ F, a ∉ A') → Rep K H A' o.val v) → ∀ vs F, RepOs K H A os vs F → (∀ a ∈ F, a ∉ A') → Reps K H A' (O.vals os) vs := by
      intro os
      induction os with
      | nil => intro _ vs F h _; rw [RepOs] at h; rw [O.vals, Reps]; exact h.1
      | cons o os ih =>
        intro hl vs F h hF
        rw [RepOs] at h
        obtain ⟨v, r, F1, F2, e, e2, h1, h2⟩ := h
        rw [e2] at hF
        rw [O.vals, Reps]
        exact ⟨v, r, e, hl o List.mem_cons_self v F1 h1 fun a ha => hF a (List.mem_append_left _ ha), ih (fun d hd => hl d (List.mem_cons_of_mem _ hd)) r F2 h2 fun a ha => hF a (List.mem_append_right _ ha)⟩
    intro v F h hF
    rw [RepO] at h
    obtain ⟨a, vs, F', e, h1, e2, h2⟩ := h
    rw [e2] at hF
    rw [O.val, Rep]
    exact ⟨a, vs, e, h1, hF a List.mem_cons_self, lists os ih vs F' h2 fun b hb => hF b (List.mem_cons_of_mem _ hb)⟩
theorem RepOs.freeze (hA : ∀ a ∈ A', a ∈ A) : ∀ (os : List O) (vs : List V) (F : List Addr), RepOs K H A os vs F → (∀ a ∈ F, a ∉ A') → Reps K H A' (O.vals os) vs
  | [], vs, F, h, _ => by rw [RepOs] at h; rw [O.vals, Reps]; exact h.1
  | o :: os, vs, F, h, hF => by
    rw [RepOs] at h
    obtain ⟨v, r, F1, F2, e, e2, h1, h2⟩ := h
    rw [e2] at hF
    rw [O.vals, Reps]
    exact ⟨v, r, e, h1.freeze hA _ _ _ (fun a ha => hF a (List.mem_append_left _ ha)), RepOs.freeze hA os r F2 h2 fun a ha => hF a (List.mem_append_right _ ha)⟩
theorem RepOs.length : ∀ {l : List O} {vs : List V} {F : List Addr}, RepOs K H A l vs F → vs.length = l.length
  | [], _, _, h => by rw [RepOs] at h; rw [h.1]; rfl
  | o :: l, _, _, h => by
    rw [RepOs] at h
    obtain ⟨v, r, F1, F2, rfl, e2, h1, h2⟩ := h
    rw [List.length_cons, List.length_cons, RepOs.length h2]
theorem RepOs.append : ∀ {l l' : List O} {vs vs' : List V} {F F' : List Addr}, RepOs K H A l vs F → RepOs K H A l' vs' F' → RepOs K H A (l ++ l') (vs ++ vs') (F ++ F')
  | [], _, _, _, _, _, h, h' => by rw [RepOs] at h; obtain ⟨rfl, rfl⟩ := h; exact h'
  | o :: l, _, _, _, _, _, h, h' => by
    rw [RepOs] at h
    obtain ⟨v, r, F1, F2, rfl, rfl, h1, h2⟩ := h
    show RepOs K H A (o :: (l ++ _)) _ _
    rw [RepOs]
    exact ⟨v, _, F1, _, rfl, by rw [List.append_assoc], h1, RepOs.append h2 h'⟩
theorem RepOs.data : ∀ {l : List D} {vs : List V}, Reps K H A l vs → RepOs K H A (l.map O.fz) vs []
  | [], _, h => by rw [Reps] at h; rw [List.map_nil, RepOs]; exact ⟨h, rfl⟩
  | d :: l, _, h => by
    rw [Reps] at h
    obtain ⟨v, r, rfl, h1, h2⟩ := h
    rw [List.map_cons, RepOs]
    exact ⟨v, r, [], [], rfl, rfl, by rw [RepO]; exact ⟨rfl, h1⟩, RepOs.data h2⟩

/-! ### the slots -/
theorem RepE.ls : ∀ {ε : List (Option O)} {σ : List (Option V)} {F : List Addr}, RepE K H A ε σ F → Lists H F
  | [], _, _, h => by rw [RepE] at h; rw [h.2]; intro a ha; cases ha
  | none :: ε, _, _, h => by
    rw [RepE] at h
    obtain ⟨x, r, _, h⟩ := h
    exact RepE.ls h
  | some o :: ε, _, _, h => by
    rw [RepE] at h
    obtain ⟨v, r, F1, F2, _, e2, h1, h2⟩ := h
    rw [e2]
    intro a ha
    rcases List.mem_append.mp ha with ha | ha
    · exact h1.ls _ _ _ a ha
    · exact RepE.ls h2 a ha
theorem RepE.mono (k : Keep T H M H') (t : Tabs T H) (l : Lists H M) (hM : ∀ a ∈ M, a ∈ A) (hA : ∀ a ∈ A', a ∈ A ∨ H a = none) : ∀ {ε : List (Option O)} {σ : List (Option V)} {F : List Addr}, RepE K H A ε σ F → (∀ a ∈ F, a ∉ M) → RepE K H' A' ε σ F
  | [], _, _, h, _ => by rw [RepE] at h ⊢; exact h
  | none :: ε, _, _, h, hF => by
    rw [RepE] at h ⊢
    obtain ⟨x, r, e, h⟩ := h
    exact ⟨x, r, e, RepE.mono k t l hM hA h hF⟩
  | some o :: ε, _, _, h, hF => by
    rw [RepE] at h ⊢
    obtain ⟨v, r, F1, F2, e, e2, h1, h2⟩ := h
    rw [e2] at hF
    exact ⟨v, r, F1, F2, e, e2, h1.mono k t l hM hA _ _ _ (fun a ha => hF a (List.mem_append_left _ ha)), RepE.mono k t l hM hA h2 fun a ha => hF a (List.mem_append_right _ ha)⟩
theorem RepE.anti (hA : ∀ a ∈ A', a ∈ A) : ∀ {ε : List (Option O)} {σ : List (Option V)} {F : List Addr}, RepE K H A ε σ F → RepE K H A' ε σ F
  | [], _, _, h => by rw [RepE] at h ⊢; exact h
  | none :: ε, _, _, h => by
    rw [RepE] at h ⊢
    obtain ⟨x, r, e, h⟩ := h
    exact ⟨x, r, e, RepE.anti hA h⟩
  | some o :: ε, _, _, h => by
    rw [RepE] at h ⊢
    obtain ⟨v, r, F1, F2, e, e2, h1, h2⟩ := h
    exact ⟨v, r, F1, F2, e, e2, h1.anti hA, RepE.anti hA h2⟩
theorem RepE.length : ∀ {ε : List (Option O)} {σ : List (Option V)} {F : List Addr}, RepE K H A ε σ F → σ.length = ε.length
  | [], _, _, h => by rw [RepE] at h; rw [h.1]; rfl
  | none :: ε, _, _, h => by
    rw [RepE] at h
    obtain ⟨x, r, rfl, h⟩ := h
    rw [List.length_cons, List.length_cons, RepE.length h]
  | some o :: ε, _, _, h => by
    rw [RepE] at h
    obtain ⟨v, r, F1, F2, rfl, e2, h1, h2⟩ := h
    rw [List.length_cons, List.length_cons, RepE.length h2]
/-- the slot i taken out -/
theorem RepE.take : ∀ {ε : List (Option O)} {σ : List (Option V)} {F : List Addr} {i : Nat} {o : O}, RepE K H A ε σ F → ε[i]? = some (some o) →
    ∃ v F2 G, σ[i]? = some (some v) ∧ F.Perm (F2 ++ G) ∧ RepO K H A o v F2 ∧ RepE K H A (ε.set i none) σ G
  | [], _, _, i, o, h, e => by simp at e
  | none :: ε, _, _, i, o, h, e => by
    rw [RepE] at h
    obtain ⟨x, r, rfl, h⟩ := h
    cases i with
    | zero => simp at e
    | succ i =>
      obtain ⟨v, F2, G, h1, h2, h3, h4⟩ := RepE.take h (i := i) (o := o) (by simpa using e)
      exact ⟨v, F2, G, by simpa using h1, h2, h3, by rw [List.set_cons_succ, RepE]; exact ⟨x, r, rfl, h4⟩⟩
  | some p :: ε, _, _, i, o, h, e => by
    rw [RepE] at h
    obtain ⟨w, r, G1, G2, rfl, rfl, hp, h⟩ := h
    cases i with
    | zero =>
      simp at e
      subst e
      exact ⟨w, G1, G2, rfl, List.Perm.refl _, hp, by rw [List.set_cons_zero, RepE]; exact ⟨_, _, rfl, h⟩⟩
    | succ i =>
      obtain ⟨v, F2, G, h1, h2, h3, h4⟩ := RepE.take h (i := i) (o := o) (by simpa using e)
      refine ⟨v, F2, G1 ++ G, by simpa using h1, ?_, h3, ?_⟩
      · refine (List.Perm.append_left G1 h2).trans ?_
        rw [← List.append_assoc, ← List.append_assoc]
        exact List.Perm.append_right G List.perm_append_comm
      · rw [List.set_cons_succ, RepE]
        exact ⟨w, r, G1, G, rfl, rfl, hp, h4⟩
/-- the slot i dropped -/
theorem RepE.drop : ∀ {ε : List (Option O)} {σ : List (Option V)} {F : List Addr} (i : Nat), RepE K H A ε σ F → ∃ G, G.Sublist F ∧ RepE K H A (ε.set i none) σ G
  | [], _, F, i, h => ⟨F, List.Sublist.refl _, h⟩
  | none :: ε, _, F, 0, h => ⟨F, List.Sublist.refl _, h⟩
  | some o :: ε, _, _, 0, h => by
    rw [RepE] at h
    obtain ⟨v, r, F1, F2, rfl, rfl, h1, h2⟩ := h
    exact ⟨F2, List.sublist_append_right _ _, by rw [List.set_cons_zero, RepE]; exact ⟨_, _, rfl, h2⟩⟩
  | none :: ε, _, _, i + 1, h => by
    rw [RepE] at h
    obtain ⟨x, r, rfl, h⟩ := h
    obtain ⟨G, h1, h2⟩ := RepE.drop i h
    exact ⟨G, h1, by rw [List.set_cons_succ, RepE]; exact ⟨_, _, rfl, h2⟩⟩
  | some o :: ε, _, _, i + 1, h => by
    rw [RepE] at h
    obtain ⟨v, r, F1, F2, rfl, rfl, h1, h2⟩ := h
    obtain ⟨G, h3, h4⟩ := RepE.drop i h2
    exact ⟨F1 ++ G, List.Sublist.append (List.Sublist.refl _) h3, by rw [List.set_cons_succ, RepE]; exact ⟨_, _, _, _, rfl, rfl, h1, h4⟩⟩
/-- something put at the slot i -/
theorem RepE.put : ∀ {ε : List (Option O)} {σ : List (Option V)} {G F : List Addr} {i : Nat} {o : O} {v : V}, RepE K H A (ε.set i none) σ G → RepO K H A o v F → i < ε.length →
    ∃ M, M.Perm (F ++ G) ∧ RepE K H A (ε.set i (some o)) (σ.set i (some v)) M
  | [], _, _, _, i, _, _, _, _, hi => by simp at hi
  | x :: ε, _, G, F, 0, o, v, h, ho, hi => by
    rw [List.set_cons_zero, RepE] at h
    obtain ⟨y, r, rfl, h⟩ := h
    exact ⟨F ++ G, List.Perm.refl _, by rw [List.set_cons_zero, List.set_cons_zero, RepE]; exact ⟨v, r, F, G, rfl, rfl, ho, h⟩⟩
  | none :: ε, _, G, F, i + 1, o, v, h, ho, hi => by
    rw [List.set_cons_succ, RepE] at h
    obtain ⟨y, r, rfl, h⟩ := h
    obtain ⟨M, h1, h2⟩ := RepE.put h ho (by simpa using hi)
    exact ⟨M, h1, by rw [List.set_cons_succ, List.set_cons_succ, RepE]; exact ⟨_, _, rfl, h2⟩⟩
  | some p :: ε, _, _, F, i + 1, o, v, h, ho, hi => by
    rw [List.set_cons_succ, RepE] at h
    obtain ⟨w, r, G1, G2, rfl, rfl, hp, h⟩ := h
    obtain ⟨M, h1, h2⟩ := RepE.put h ho (by simpa using hi)
    refine ⟨G1 ++ M, ?_, by rw [List.set_cons_succ, List.set_cons_succ, RepE]; exact ⟨w, _, G1, M, rfl, rfl, hp, h2⟩⟩
    refine (List.Perm.append_left G1 h1).trans ?_
    rw [← List.append_assoc, ← List.append_assoc]
    exact List.Perm.append_right G2 List.perm_append_comm
/-- the same value: the slots as they are -/
theorem RepE.put' {ε : List (Option O)} {σ : List (Option V)} {G F : List Addr} {i : Nat} {o : O} {v : V} (h : RepE K H A (ε.set i none) σ G) (ho : RepO K H A o v F) (hi : σ[i]? = some (some v)) (hl : σ.length = ε.length) :
    ∃ M, M.Perm (F ++ G) ∧ RepE K H A (ε.set i (some o)) σ M := by
  obtain ⟨hi', e⟩ := List.getElem?_eq_some_iff.mp hi
  obtain ⟨M, h1, h2⟩ := h.put ho (by omega)
  have e2 : σ.set i (some v) = σ := by
    rw [← e, List.set_getElem_self]
  rw [e2] at h2
  exact ⟨M, h1, h2⟩
/-- a slot without a claim may hold anything -/
theorem RepE.any : ∀ {ε : List (Option O)} {σ : List (Option V)} {G : List Addr} {i : Nat} (x : Option V), RepE K H A (ε.set i none) σ G → RepE K H A (ε.set i none) (σ.set i x) G
  | [], _, _, i, x, h => by rw [List.set_nil, RepE] at h ⊢; rw [h.1, List.set_nil]; exact ⟨rfl, h.2⟩
  | y :: ε, _, G, 0, x, h => by
    rw [List.set_cons_zero, RepE] at h ⊢
    obtain ⟨z, r, rfl, h⟩ := h
    exact ⟨x, r, rfl, h⟩
  | none :: ε, _, G, i + 1, x, h => by
    rw [List.set_cons_succ, RepE] at h ⊢
    obtain ⟨z, r, rfl, h⟩ := h
    exact ⟨z, _, rfl, RepE.any x h⟩
  | some p :: ε, _, _, i + 1, x, h => by
    rw [List.set_cons_succ, RepE] at h ⊢
    obtain ⟨w, r, G1, G2, rfl, rfl, hp, h⟩ := h
    exact ⟨w, _, G1, G2, rfl, rfl, hp, RepE.any x h⟩
theorem RepE.get {ε : List (Option O)} {σ : List (Option V)} {F : List Addr} {i : Nat} {o : O} (h : RepE K H A ε σ F) (e : ε[i]? = some (some o)) : ∃ v F2, σ[i]? = some (some v) ∧ RepO K H A o v F2 ∧ ∀ a ∈ F2, a ∈ F := by
  obtain ⟨v, F2, G, h1, h2, h3, h4⟩ := h.take e
  exact ⟨v, F2, h1, h3, fun a ha => h2.mem_iff.mpr (List.mem_append_left _ ha)⟩
end
end VS


set_option Elab.async false
set_option linter.all false
/-! VS1: states, steps, what an expression gives; names, constants, operators. -/
namespace VS
open PySem PySem.Spec PyProof.Rows L2

abbrev Env' := List (Option O)
/-- what an expression gives: a thing, or what slot i holds (looked at late) -/
inductive Ro where
  | o (x : O) | b (i : Nat)
abbrev VF := Env' → Option (Ro × Env')
abbrev TF := Env' → Option (Bool × Env')

structure Ok (K : PySem.W.Frag) (T : List Addr) (H : Hp) (M R : List Addr) (ε : Env') (σ : L2.St) : Prop where
  rep : RepE K H (M ++ R) ε σ M
  nd : (M ++ R).Nodup
  ls : Lists H (M ++ R)
  tab : Tabs T H
/-- from one state to a later one -/
structure Stp (T : List Addr) (H : Hp) (M : List Addr) (H' : Hp) (M' : List Addr) : Prop where
  keep : Keep T H M H'
  live : ∀ b o, H b = some o → ∃ o', H' b = some o'
  sub : ∀ a ∈ M', a ∈ M ∨ H a = none

section
variable {K : PySem.W.Frag} {T : List Addr} {H H' H'' : Hp} {M M' M'' R R' F F' A A' : List Addr} {ε ε' : Env'} {σ : L2.St}

theorem Stp.refl : Stp T H M H M := ⟨.refl, fun _ o h => ⟨o, h⟩, fun a h => .inl h⟩
theorem Stp.back (x : Stp T H M H' M') {a : Addr} (h : H' a = none) : H a = none := by
  cases e : H a with
  | none => rfl
  | some o =>
    obtain ⟨o', z⟩ := x.live a o e
    rw [h] at z; cases z
theorem Stp.trans (x : Stp T H M H' M') (y : Stp T H' M' H'' M'') : Stp T H M H'' M'' where
  keep := fun b o h hm ht => y.keep b o (x.keep b o h hm ht) (fun z => (x.sub b z).elim hm fun z => by rw [h] at z; cases z) ht
  live := fun b o h => let ⟨o', h'⟩ := x.live b o h; y.live b o' h'
  sub := fun a ha => (y.sub a ha).elim (x.sub a) fun z => .inr (x.back z)
theorem Stp.ofSame (h : Same H H') : Stp T H M H' M := ⟨fun b o e _ _ => h b o e, fun b o e => ⟨o, h b o e⟩, fun a h => .inl h⟩
theorem Stp.less (x : Stp T H M H' M') (h : ∀ a ∈ M'', a ∈ M') : Stp T H M H' M'' := ⟨x.keep, x.live, fun a ha => x.sub a (h a ha)⟩
theorem Keep.ofSame (h : Same H H') : Keep T H M H' := fun b o e _ _ => h b o e
theorem Lists.same (l : Lists H M) (h : Same H H') : Lists H' M := fun a ha => let ⟨vs, e⟩ := l a ha; ⟨vs, h _ _ e⟩
theorem Lists.sub (l : Lists H M) (h : ∀ a ∈ M', a ∈ M) : Lists H M' := fun a ha => l a (h a ha)
theorem Lists.nil : Lists H [] := fun a ha => by cases ha
theorem Lists.app (l : Lists H M) (l' : Lists H M') : Lists H (M ++ M') := fun a ha => (List.mem_append.mp ha).elim (l a) (l' a)
theorem Tabs.same (t : Tabs T H) (h : Same H H') : Tabs T H' := fun P hP => let ⟨ps, e, r⟩ := t P hP; ⟨ps, h _ _ e, r⟩

theorem Ok.ls1 (k : Ok K T H M R ε σ) : Lists H M := k.ls.sub fun a h => List.mem_append_left _ h
theorem Ok.ls2 (k : Ok K T H M R ε σ) : Lists H R := k.ls.sub fun a h => List.mem_append_right _ h
theorem Ok.apart (k : Ok K T H M R ε σ) {a : Addr} (h : a ∈ R) : a ∉ M := fun z => (List.nodup_append.mp k.nd).2.2 a z a h rfl
theorem Ok.apart' (k : Ok K T H M R ε σ) {a : Addr} (h : a ∈ M) : a ∉ R := fun z => k.apart z h
theorem Ok.len (k : Ok K T H M R ε σ) : σ.length = ε.length := k.rep.length
/-- other owners, fewer or in another order -/
theorem Ok.other (k : Ok K T H M R ε σ) (hs : ∀ a ∈ R', a ∈ R) (hn : R'.Nodup) : Ok K T H M R' ε σ where
  rep := k.rep.anti fun a h => (List.mem_append.mp h).elim (fun z => List.mem_append_left _ z) fun z => List.mem_append_right _ (hs a z)
  nd := by
    refine List.nodup_append.mpr ⟨(List.nodup_append.mp k.nd).1, hn, fun a ha b hb e => ?_⟩
    subst e
    exact k.apart (hs a hb) ha
  ls := k.ls1.app (k.ls2.sub hs)
  tab := k.tab
theorem Ok.drop (k : Ok K T H M (F ++ R) ε σ) : Ok K T H M R ε σ :=
  k.other (fun a h => List.mem_append_right _ h) (List.nodup_append.mp (List.nodup_append.mp k.nd).2.1).2.1
theorem Ok.swap (k : Ok K T H M (F ++ (F' ++ R)) ε σ) : Ok K T H M ((F' ++ F) ++ R) ε σ :=
  have p : ((F' ++ F) ++ R).Perm (F ++ (F' ++ R)) := by
    rw [← List.append_assoc]
    exact List.Perm.append_right R List.perm_append_comm
  k.other (fun a h => p.mem_iff.mp h) (p.nodup_iff.mpr (List.nodup_append.mp k.nd).2.1)
theorem Ok.join (k : Ok K T H M (F ++ (F' ++ R)) ε σ) : Ok K T H M ((F ++ F') ++ R) ε σ := by
  rw [List.append_assoc]
  exact k
/-- all objects kept -/
theorem Ok.same (k : Ok K T H M R ε σ) (h : Same H H') : Ok K T H' M R ε σ where
  rep := k.rep.mono (M := []) (Keep.ofSame h) k.tab .nil (fun a ha => by cases ha) (fun a ha => .inl ha) fun a _ z => by cases z
  nd := k.nd
  ls := k.ls.same h
  tab := k.tab.same h
/-- new owned lists -/
theorem Ok.new (k : Ok K T H M R ε σ) (h : Same H H') (hF : ∀ a ∈ F, H a = none) (nF : F.Nodup) (lF : Lists H' F) : Ok K T H' M (F ++ R) ε σ where
  rep := k.rep.mono (M := []) (Keep.ofSame h) k.tab .nil (fun a ha => by cases ha) (fun a ha => by
    rcases List.mem_append.mp ha with z | z
    · exact .inl (List.mem_append_left _ z)
    · rcases List.mem_append.mp z with z | z
      · exact .inr (hF a z)
      · exact .inl (List.mem_append_right _ z)) fun a _ z => by cases z
  nd := by
    have no : ∀ a ∈ F, a ∉ M ++ R := fun a ha z => by
      obtain ⟨vs, e⟩ := k.ls a z
      rw [hF a ha] at e; cases e
    have p : (M ++ (F ++ R)).Perm (F ++ (M ++ R)) := by
      rw [← List.append_assoc, ← List.append_assoc]
      exact List.Perm.append_right R List.perm_append_comm
    refine p.nodup_iff.mpr (List.nodup_append.mpr ⟨nF, k.nd, fun a ha b hb e => ?_⟩)
    subst e
    exact no a ha hb
  ls := (k.ls1.same h).app (lF.app (k.ls2.same h))
  tab := k.tab.same h

/-- what stands behind an expression that gave v for o -/
structure Post (K : PySem.W.Frag) (T : List Addr) (H : Hp) (M R : List Addr) (ε' : Env') (σ : L2.St) (o : O) (v : V) (H' : Hp) (M' F : List Addr) : Prop where
  ok : Ok K T H' M' (F ++ R) ε' σ
  stp : Stp T H M H' (M' ++ F)
  rep : RepO K H' (M' ++ (F ++ R)) o v F
def PostR (K : PySem.W.Frag) (T : List Addr) (H : Hp) (M R : List Addr) (ε' : Env') (σ : L2.St) (r : Ro) (v : V) (H' : Hp) (M' F : List Addr) : Prop := match r with
  | .o o => Post K T H M R ε' σ o v H' M' F
  | .b i => F = [] ∧ Ok K T H' M' R ε' σ ∧ Stp T H M H' M' ∧ σ[i]? = some (some v)
def tV (K : PySem.W.Frag) (T : List Addr) (f : VF) : TE := fun σ H Q => ∃ M R ε r ε', Ok K T H M R ε σ ∧ f ε = some (r, ε') ∧ ∀ v H' M' F, PostR K T H M R ε' σ r v H' M' F → Q v H'
def tT (K : PySem.W.Frag) (T : List Addr) (f : TF) : TT := fun σ H Q => ∃ M R ε b ε', Ok K T H M R ε σ ∧ f ε = some (b, ε') ∧ ∀ H' M', Ok K T H' M' R ε' σ → Stp T H M H' M' → Q b H'
structure VE (X : Cx) (T : List Addr) (e : Expr) (f : VF) : Prop where
  pe : PE X e (tV X.K T f)
structure VT (X : Cx) (T : List Addr) (e : Expr) (f : TF) : Prop where
  pt : PT X e (tT X.K T f)
structure VW (X : Cx) (T : List Addr) (e : Expr) (f : TF) : Prop where
  pw : PW X e (tT X.K T f)
theorem PE.imp {X : Cx} {e : Expr} {t t' : TE} (h : PE X e t) (i : ∀ σ H Q, t' σ H Q → t σ H Q) : PE X e t' := ⟨fun pins s σ H Q I q => h.run pins s σ H Q I (i σ H Q q)⟩
theorem PT.imp {X : Cx} {e : Expr} {t t' : TT} (h : PT X e t) (i : ∀ σ H Q, t' σ H Q → t σ H Q) : PT X e t' := ⟨fun pins s σ H Q I q => h.run pins s σ H Q I (i σ H Q q)⟩
theorem PW.imp {X : Cx} {e : Expr} {t t' : TT} (h : PW X e t) (i : ∀ σ H Q, t' σ H Q → t σ H Q) : PW X e t' := ⟨fun w pins s σ H Q I q => h.run w pins s σ H Q I (i σ H Q q)⟩
theorem PS.imp {X : Cx} {e : Stmt} {t t' : TS} (h : PS X e t) (i : ∀ D σ H, t' D σ H → t D σ H) : PS X e t' := ⟨fun pins s σ H Q I q => h.run pins s σ H Q I (i Q σ H q)⟩
theorem PSs.imp {X : Cx} {e : List Stmt} {t t' : TS} (h : PSs X e t) (i : ∀ D σ H, t' D σ H → t D σ H) : PSs X e t' := ⟨fun pins s σ H Q I q => h.run pins s σ H Q I (i Q σ H q)⟩
theorem PA.imp {X : Cx} {e : List Expr} {t t' : TA} (h : PA X e t) (i : ∀ σ H Q, t' σ H Q → t σ H Q) : PA X e t' := ⟨fun p pins s σ H Q I q => h.run p pins s σ H Q I (i σ H Q q)⟩

theorem Post.data {o : O} {v : V} (p : Post K T H M R ε' σ o v H' M' F) : Rep K H' (M' ++ R) o.val v :=
  p.rep.freeze (fun a h => (List.mem_append.mp h).elim (fun z => List.mem_append_left _ z) fun z => List.mem_append_right _ (List.mem_append_right _ z)) _ _ _ fun a ha z => by
    have n := p.ok.nd
    rcases List.mem_append.mp z with z | z
    · exact p.ok.apart (List.mem_append_left _ ha) z
    · exact (List.nodup_append.mp (List.nodup_append.mp n).2.1).2.2 a ha a z rfl
theorem Post.ok' {o : O} {v : V} (p : Post K T H M R ε' σ o v H' M' F) : Ok K T H' M' R ε' σ := p.ok.drop
theorem Post.stp' {o : O} {v : V} (p : Post K T H M R ε' σ o v H' M' F) : Stp T H M H' M' := p.stp.less fun a h => List.mem_append_left _ h
/-- a datum -/
theorem Post.fz {d : D} {v : V} (ok : Ok K T H' M' R ε' σ) (s : Stp T H M H' M') (h : Rep K H' (M' ++ R) d v) : Post K T H M R ε' σ (.fz d) v H' M' [] :=
  ⟨ok, s.less fun a h => by simpa using h, by rw [RepO]; exact ⟨rfl, h⟩⟩
/-- what was given stays -/
theorem RepO.later {o : O} {v : V} {H1 H2 : Hp} {M1 M2 F1 F2 : List Addr} (ok : Ok K T H1 M1 (F1 ++ R) ε σ) (s : Stp T H1 M1 H2 (M2 ++ F2)) (h : RepO K H1 (M1 ++ (F1 ++ R)) o v F1) : RepO K H2 (M2 ++ (F2 ++ (F1 ++ R))) o v F1 :=
  h.mono s.keep ok.tab ok.ls1 (fun a h => List.mem_append_left _ h) (fun a h => by
    rcases List.mem_append.mp h with z | z
    · rcases s.sub a (List.mem_append_left _ z) with z | z
      · exact .inl (List.mem_append_left _ z)
      · exact .inr z
    · rcases List.mem_append.mp z with z | z
      · rcases s.sub a (List.mem_append_right _ z) with z | z
        · exact .inl (List.mem_append_left _ z)
        · exact .inr z
      · exact .inl (List.mem_append_right _ z)) _ _ _ fun a ha => ok.apart (List.mem_append_left _ ha)

/-- v is d, if d is a list it may be an owned one -/
def Rep0 (K : PySem.W.Frag) (H : Hp) (A : List Addr) : D → V → Prop
  | .lst l, v => ∃ a vs, v = .ref a ∧ H a = some (.lst vs) ∧ Reps K H A l vs
  | d, v => Rep K H A d v
theorem Rep.rep0 : ∀ {d : D} {v : V}, Rep K H A d v → Rep0 K H A d v
  | .lst l, v, h => by rw [Rep] at h; obtain ⟨a, vs, e, h1, _, h2⟩ := h; exact ⟨a, vs, e, h1, h2⟩
  | .non, _, h => h
  | .bl _, _, h => h
  | .int _, _, h => h
  | .str _, _, h => h
  | .tup _, _, h => h
  | .scr _, _, h => h
theorem Rep0.anti (hA : ∀ a ∈ A', a ∈ A) : ∀ {d : D} {v : V}, Rep0 K H A d v → Rep0 K H A' d v
  | .lst l, v, h => let ⟨a, vs, e, h1, h2⟩ := h; ⟨a, vs, e, h1, h2.anti hA⟩
  | .non, _, h => Rep.anti hA _ _ h
  | .bl _, _, h => Rep.anti hA _ _ h
  | .int _, _, h => Rep.anti hA _ _ h
  | .str _, _, h => Rep.anti hA _ _ h
  | .tup _, _, h => Rep.anti hA _ _ h
  | .scr _, _, h => Rep.anti hA _ _ h

/-- the data of a flat list -/
@[simp] def flatD : List O → Option (List D)
  | [] => some []
  | .fz d :: l => (flatD l).map (d :: ·)
  | .own _ :: _ => none
theorem flatD_fz : ∀ l : List D, flatD (l.map O.fz) = some l
  | [] => rfl
  | d :: l => by rw [List.map_cons, flatD, flatD_fz l]; rfl
theorem RepOs.flat : ∀ {l : List O} {vs : List V} {F : List Addr} {ds : List D}, RepOs K H A l vs F → flatD l = some ds → Reps K H A ds vs
  | [], _, _, ds, h, e => by rw [RepOs] at h; rw [flatD] at e; cases e; rw [Reps]; exact h.1
  | .fz d :: l, _, _, ds, h, e => by
    rw [RepOs] at h
    obtain ⟨v, r, F1, F2, e1, e2, h1, h2⟩ := h
    rw [flatD] at e
    cases q : flatD l with
    | none => rw [q] at e; cases e
    | some l' =>
      rw [q] at e
      cases e
      rw [RepO] at h1
      rw [Reps]
      exact ⟨v, r, e1, h1.2, RepOs.flat h2 q⟩
  | .own _ :: _, _, _, ds, h, e => by rw [flatD] at e; cases e
/-- what is read late -/
@[simp] def peek : Option (Option O) → Option D
  | some (some (.fz d)) => some d
  | some (some (.own l)) => (flatD l).map D.lst
  | _ => none
@[simp] def look (r : Ro) (ε : Env') : Option D := match r with
  | .o x => some x.val
  | .b i => peek ε[i]?
theorem look_slot {i : Nat} {d : D} {v : V} (ok : Ok K T H M R ε σ) (e : look (.b i) ε = some d) (h : σ[i]? = some (some v)) : Rep0 K H (M ++ R) d v := by
  replace e : peek ε[i]? = some d := e
  cases q : ε[i]? with
  | none => rw [q] at e; cases e
  | some x =>
    cases x with
    | none => rw [q] at e; cases e
    | some o =>
      obtain ⟨v', F2, g1, g2, g3⟩ := ok.rep.get q
      rw [h] at g1
      cases g1
      cases o with
      | fz d' =>
        rw [q] at e
        cases e
        rw [RepO] at g2
        exact g2.2.rep0
      | own l =>
        rw [q, peek] at e
        cases q2 : flatD l with
        | none => rw [q2] at e; cases e
        | some ds =>
          rw [q2] at e
          cases e
          rw [RepO] at g2
          obtain ⟨a, vs, F', e1, h1, _, h2⟩ := g2
          exact ⟨a, vs, e1, h1, h2.flat q2⟩
/-- a result of new objects and what was there -/
structure New (K : PySem.W.Frag) (H : Hp) (A : List Addr) (o : O) (v : V) (H' : Hp) (F : List Addr) : Prop where
  same : Same H H'
  new : ∀ a ∈ F, H a = none
  nd : F.Nodup
  rep : RepO K H' (F ++ A) o v F
theorem New.post {o : O} {v : V} (ok : Ok K T H M R ε σ) (n : New K H (M ++ R) o v H' F) : Post K T H M R ε σ o v H' M F where
  ok := ok.new n.same n.new n.nd (n.rep.ls _ _ _)
  stp := ⟨.ofSame n.same, fun b o e => ⟨o, n.same b o e⟩, fun a ha => (List.mem_append.mp ha).elim .inl fun z => .inr (n.new a z)⟩
  rep := n.rep.anti (fun a ha => by
    rcases List.mem_append.mp ha with z | z
    · exact List.mem_append_right _ (List.mem_append_left _ z)
    · rcases List.mem_append.mp z with z | z
      · exact List.mem_append_left _ z
      · exact List.mem_append_right _ (List.mem_append_right _ z)) _ _ _
theorem Post.before {o : O} {v : V} {H1 : Hp} {M1 : List Addr} (s : Stp T H M H1 M1) (p : Post K T H1 M1 R ε' σ o v H' M' F) : Post K T H M R ε' σ o v H' M' F := ⟨p.ok, s.trans p.stp, p.rep⟩
/-- a datum without anything new -/
theorem New.fz {d : D} {v : V} (h : Rep K H A d v) : New K H A (.fz d) v H [] where
  same := Same.refl _
  new := fun a h => by cases h
  nd := List.nodup_nil
  rep := by
    rw [RepO]
    exact ⟨rfl, h⟩
/-- a new tuple -/
theorem New.tup {l : List D} {vs : List V} {p : Addr} (h : Reps K H A l vs) (lA : Lists H A) (tA : Tabs T H) (hp : H p = none) : New K H A (.fz (.tup l)) (.ref p) (upd H p (.tup vs)) [] where
  same := fun b o e => by rw [upd_ne (ne_of_none e hp)]; exact e
  new := fun a h => by cases h
  nd := List.nodup_nil
  rep := by
    rw [RepO, Rep]
    refine ⟨rfl, p, vs, rfl, SqT.of upd_same, ?_⟩
    exact h.mono (T := T) (M := []) (fun b o e _ _ => by rw [upd_ne (ne_of_none e hp)]; exact e) tA .nil (fun a h => by cases h) (fun a h => .inl h)
/-- a new list of data -/
theorem New.lst {l : List D} {vs : List V} {p : Addr} (h : Reps K H A l vs) (lA : Lists H A) (tA : Tabs T H) (hp : H p = none) : New K H A (.own (l.map O.fz)) (.ref p) (upd H p (.lst vs)) [p] where
  same := fun b o e => by rw [upd_ne (ne_of_none e hp)]; exact e
  new := fun a h => by
    have e : a = p := by simpa using h
    rw [e]; exact hp
  nd := by simp
  rep := by
    rw [RepO]
    refine ⟨p, vs, [], rfl, upd_same, rfl, RepOs.data ?_⟩
    exact h.mono (T := T) (M := []) (fun b o e _ _ => by rw [upd_ne (ne_of_none e hp)]; exact e) tA .nil (fun a h => by cases h) (fun a h => by
      rcases List.mem_append.mp h with z | z
      · have e : a = p := by simpa using z
        rw [e]; exact .inr hp
      · exact .inl z)

/-! ### names, constants -/
/-- slot i, from now on data -/
@[simp] def vRd (i : Nat) : VF := fun ε => match ε[i]? with
  | some (some o) => some (.o (.fz o.val), ε.set i (some (.fz o.val)))
  | _ => none
/-- slot i, moved out -/
@[simp] def vMv (i : Nat) : VF := fun ε => match ε[i]? with
  | some (some o) => some (.o o, ε.set i none)
  | _ => none
/-- slot i, looked at late -/
@[simp] def vBw (i : Nat) : VF := fun ε => match ε[i]? with
  | some (some _) => some (.b i, ε)
  | _ => none
@[simp] def vC (d : D) : VF := fun ε => some (.o (.fz d), ε)

theorem Ok.take {i : Nat} {o : O} (k : Ok K T H M R ε σ) (e : ε[i]? = some (some o)) : ∃ v F M', σ[i]? = some (some v) ∧ M.Perm (F ++ M') ∧ RepO K H (M ++ R) o v F ∧ Ok K T H M' (F ++ R) (ε.set i none) σ := by
  obtain ⟨v, F2, G, h1, h2, h3, h4⟩ := k.rep.take e
  refine ⟨v, F2, G, h1, h2, h3, ?_, ?_, ?_, k.tab⟩
  · refine h4.anti fun a ha => ?_
    rcases List.mem_append.mp ha with z | z
    · exact List.mem_append_left _ (h2.mem_iff.mpr (List.mem_append_right _ z))
    · rcases List.mem_append.mp z with z | z
      · exact List.mem_append_left _ (h2.mem_iff.mpr (List.mem_append_left _ z))
      · exact List.mem_append_right _ z
  · have p : (G ++ (F2 ++ R)).Perm (M ++ R) := by
      rw [← List.append_assoc]
      exact List.Perm.append_right R (List.perm_append_comm.trans h2.symm)
    exact p.nodup_iff.mpr k.nd
  · refine k.ls.sub fun a ha => ?_
    rcases List.mem_append.mp ha with z | z
    · exact List.mem_append_left _ (h2.mem_iff.mpr (List.mem_append_right _ z))
    · rcases List.mem_append.mp z with z | z
      · exact List.mem_append_left _ (h2.mem_iff.mpr (List.mem_append_left _ z))
      · exact List.mem_append_right _ z
/-- the other way: what is held goes to slot i (σ' has it there) -/
theorem Ok.put {i : Nat} {o : O} {v : V} (k : Ok K T H M (F ++ R) (ε.set i none) σ) (h : RepO K H (M ++ (F ++ R)) o v F) (hi : i < ε.length) : ∃ M', M'.Perm (F ++ M) ∧ Ok K T H M' R (ε.set i (some o)) (σ.set i (some v)) := by
  obtain ⟨M', h1, h2⟩ := k.rep.put h hi
  have mem : ∀ a, a ∈ M' ++ R ↔ a ∈ M ++ (F ++ R) := fun a => by
    simp only [List.mem_append, h1.mem_iff]
    constructor
    · rintro ((z | z) | z)
      · exact .inr (.inl z)
      · exact .inl z
      · exact .inr (.inr z)
    · rintro (z | z | z)
      · exact .inl (.inr z)
      · exact .inl (.inl z)
      · exact .inr z
  refine ⟨M', h1, h2.anti fun a ha => (mem a).mp ha, ?_, k.ls.sub fun a ha => (mem a).mp ha, k.tab⟩
  have p : (M' ++ R).Perm (M ++ (F ++ R)) := by
    refine (List.Perm.append_right R (h1.trans List.perm_append_comm)).trans ?_
    rw [List.append_assoc]
  exact p.nodup_iff.mpr k.nd
theorem Ok.put' {i : Nat} {o : O} {v : V} (k : Ok K T H M (F ++ R) (ε.set i none) σ) (h : RepO K H (M ++ (F ++ R)) o v F) (hi : σ[i]? = some (some v)) : ∃ M', M'.Perm (F ++ M) ∧ Ok K T H M' R (ε.set i (some o)) σ := by
  obtain ⟨hi', e⟩ := List.getElem?_eq_some_iff.mp hi
  have hl := k.len
  rw [List.length_set] at hl
  obtain ⟨M', h1, h2⟩ := k.put h (i := i) (by omega)
  have e2 : σ.set i (some v) = σ := by
    rw [← e, List.set_getElem_self]
  rw [e2] at h2
  exact ⟨M', h1, h2⟩

/-- slot i given up: data -/
theorem Ok.frozen {i : Nat} {o : O} (k : Ok K T H M R ε σ) (e : ε[i]? = some (some o)) : ∃ v M', σ[i]? = some (some v) ∧ (∀ a ∈ M', a ∈ M) ∧ Ok K T H M' R (ε.set i (some (.fz o.val))) σ ∧ Rep K H (M' ++ R) o.val v := by
  obtain ⟨v, F, M1, h1, h2, h3, h4⟩ := k.take e
  have sub : ∀ a ∈ M1, a ∈ M := fun a ha => h2.mem_iff.mpr (List.mem_append_right _ ha)
  have fr : Rep K H (M1 ++ R) o.val v := h3.freeze (fun a ha => (List.mem_append.mp ha).elim (fun z => List.mem_append_left _ (sub a z)) fun z => List.mem_append_right _ z) _ _ _ fun a ha z => by
    rcases List.mem_append.mp z with z | z
    · exact h4.apart (List.mem_append_left _ ha) z
    · exact (List.nodup_append.mp (List.nodup_append.mp h4.nd).2.1).2.2 a ha a z rfl
  have h5 : Ok K T H M1 ([] ++ R) (ε.set i none) σ := h4.drop
  obtain ⟨M2, p, h6⟩ := h5.put' (o := .fz o.val) (v := v) (by rw [RepO]; exact ⟨rfl, fr⟩) h1
  have m : ∀ a, a ∈ M2 ↔ a ∈ M1 := fun a => by simpa using p.mem_iff (a := a)
  exact ⟨v, M2, h1, fun a ha => sub a ((m a).mp ha), h6, fr.anti (fun a ha => (List.mem_append.mp ha).elim (fun z => List.mem_append_left _ ((m a).mp z)) fun z => List.mem_append_right _ z)⟩

variable {X : Cx}
theorem ve_rd {i : Nat} {x : Str} {pos : Pos} (hN : X.N[i]? = some x) (hv : Vis X.env.scope x) (hd : (x == ("__debug__" : Str)) = false) (hcd : (x == ("__classdict__" : Str)) = false) : VE X T (.Name x pos) (vRd i) := by
  refine ⟨PE.imp (pe_var hN hv hd hcd) fun σ H Q h => ?_⟩
  obtain ⟨M, R, ε, r, ε', ok, hf, post⟩ := h
  unfold vRd at hf
  split at hf
  · rename_i o e
    obtain ⟨v, M', h1, h2, h3, h4⟩ := ok.frozen e
    cases hf
    exact ⟨v, h1, post v H M' [] (Post.fz h3 ⟨.refl, fun b o e => ⟨o, e⟩, fun a ha => .inl (h2 a ha)⟩ h4)⟩
  · cases hf
theorem ve_mv {i : Nat} {x : Str} {pos : Pos} (hN : X.N[i]? = some x) (hv : Vis X.env.scope x) (hd : (x == ("__debug__" : Str)) = false) (hcd : (x == ("__classdict__" : Str)) = false) : VE X T (.Name x pos) (vMv i) := by
  refine ⟨PE.imp (pe_var hN hv hd hcd) fun σ H Q h => ?_⟩
  obtain ⟨M, R, ε, r, ε', ok, hf, post⟩ := h
  unfold vMv at hf
  split at hf
  · rename_i o e
    obtain ⟨v, F, M', h1, h2, h3, h4⟩ := ok.take e
    cases hf
    have mem : ∀ a, a ∈ M' ++ (F ++ R) → a ∈ M ++ R := fun a ha => by
      rcases List.mem_append.mp ha with z | z
      · exact List.mem_append_left _ (h2.mem_iff.mpr (List.mem_append_right _ z))
      · rcases List.mem_append.mp z with z | z
        · exact List.mem_append_left _ (h2.mem_iff.mpr (List.mem_append_left _ z))
        · exact List.mem_append_right _ z
    refine ⟨v, h1, post v H M' F ⟨h4, ⟨.refl, fun b o e => ⟨o, e⟩, fun a ha => .inl (h2.mem_iff.mpr ?_)⟩, h3.anti mem _ _ _⟩⟩
    exact (List.perm_append_comm.mem_iff).mp ha
  · cases hf
theorem ve_bw {i : Nat} {x : Str} {pos : Pos} (hN : X.N[i]? = some x) (hv : Vis X.env.scope x) (hd : (x == ("__debug__" : Str)) = false) (hcd : (x == ("__classdict__" : Str)) = false) : VE X T (.Name x pos) (vBw i) := by
  refine ⟨PE.imp (pe_var hN hv hd hcd) fun σ H Q h => ?_⟩
  obtain ⟨M, R, ε, r, ε', ok, hf, post⟩ := h
  unfold vBw at hf
  split at hf
  · rename_i o e
    obtain ⟨v, F2, g1, _, _⟩ := ok.rep.get e
    cases hf
    exact ⟨v, g1, post v H M [] ⟨rfl, ok, .refl, g1⟩⟩
  · cases hf
theorem ve_c {d : D} {v : V} {e : Expr} (h : PE X e (tC v)) (hr : ∀ K H A, Rep K H A d v) : VE X T e (vC d) := by
  refine ⟨PE.imp h fun σ H Q h => ?_⟩
  obtain ⟨M, R, ε, r, ε', ok, hf, post⟩ := h
  cases hf
  exact post v H M [] (Post.fz ok .refl (hr _ _ _))
theorem ve_int {i j pos} : VE X T (.Constant (.int i) j pos) (vC (.int i)) := ve_c pe_int fun _ _ _ => by rw [Rep]
theorem ve_bl {b j pos} : VE X T (.Constant (.bool b) j pos) (vC (.bl b)) := ve_c pe_bl fun _ _ _ => by rw [Rep]
theorem ve_non {j pos} : VE X T (.Constant .none j pos) (vC .non) := ve_c pe_non fun _ _ _ => by rw [Rep]
theorem ve_str {x j pos} : VE X T (.Constant (.str x) j pos) (vC (.str x)) := ve_c pe_str fun _ _ _ => by rw [Rep]

/-! ### values one after another -/
@[simp] def evs : List VF → Env' → Option (List Ro × Env')
  | [], ε => some ([], ε)
  | f :: fs, ε => match f ε with
    | some (r, ε1) => match evs fs ε1 with
      | some (rs, ε2) => some (r :: rs, ε2)
      | none => none
    | none => none
section
variable (K : PySem.W.Frag) (H : Hp) (A : List Addr) (σ : L2.St)
def Held : List Ro → List V → List Addr → Prop
  | [], vs, F => vs = [] ∧ F = []
  | .o o :: rs, vs, F => ∃ v r F1 F2, vs = v :: r ∧ F = F1 ++ F2 ∧ RepO K H A o v F1 ∧ Held rs r F2
  | .b i :: rs, vs, F => ∃ v r, vs = v :: r ∧ σ[i]? = some (some v) ∧ Held rs r F
end
theorem Held.mono (k : Keep T H M H') (t : Tabs T H) (l : Lists H M) (hM : ∀ a ∈ M, a ∈ A) (hA : ∀ a ∈ A', a ∈ A ∨ H a = none) : ∀ {rs : List Ro} {vs : List V} {F : List Addr}, Held K H A σ rs vs F → (∀ a ∈ F, a ∉ M) → Held K H' A' σ rs vs F
  | [], _, _, h, _ => h
  | .o o :: rs, _, _, ⟨v, r, F1, F2, e, e2, h1, h2⟩, hF => by
    subst e2
    exact ⟨v, r, F1, F2, e, rfl, h1.mono k t l hM hA _ _ _ (fun a ha => hF a (List.mem_append_left _ ha)), Held.mono k t l hM hA h2 fun a ha => hF a (List.mem_append_right _ ha)⟩
  | .b i :: rs, _, _, ⟨v, r, e, e2, h⟩, hF => ⟨v, r, e, e2, Held.mono k t l hM hA h hF⟩
theorem Held.anti (hA : ∀ a ∈ A', a ∈ A) : ∀ {rs : List Ro} {vs : List V} {F : List Addr}, Held K H A σ rs vs F → Held K H A' σ rs vs F
  | [], _, _, h => h
  | .o o :: rs, _, _, ⟨v, r, F1, F2, e, e2, h1, h2⟩ => ⟨v, r, F1, F2, e, e2, h1.anti hA, Held.anti hA h2⟩
  | .b i :: rs, _, _, ⟨v, r, e, e2, h⟩ => ⟨v, r, e, e2, Held.anti hA h⟩
structure PostL (K : PySem.W.Frag) (T : List Addr) (H : Hp) (M R : List Addr) (ε' : Env') (σ : L2.St) (rs : List Ro) (vs : List V) (H' : Hp) (M' F : List Addr) : Prop where
  ok : Ok K T H' M' (F ++ R) ε' σ
  stp : Stp T H M H' (M' ++ F)
  rep : Held K H' (M' ++ (F ++ R)) σ rs vs F
theorem Stp.two {H1 H2 : Hp} {M1 F1 M2 F2 : List Addr} (p : Stp T H M H1 (M1 ++ F1)) (q : Stp T H1 M1 H2 (M2 ++ F2)) : Stp T H M H2 (M2 ++ (F1 ++ F2)) where
  keep := fun b o h hm ht => q.keep b o (p.keep b o h hm ht) (fun z => (p.sub b (List.mem_append_left _ z)).elim hm fun z => by rw [h] at z; cases z) ht
  live := fun b o h => let ⟨o', h'⟩ := p.live b o h; q.live b o' h'
  sub := fun a ha => by
    have go : a ∈ M2 ++ F2 → a ∈ M ∨ H a = none := fun z => (q.sub a z).elim (fun z => p.sub a (List.mem_append_left _ z)) fun z => .inr (p.back z)
    rcases List.mem_append.mp ha with z | z
    · exact go (List.mem_append_left _ z)
    · rcases List.mem_append.mp z with z | z
      · exact p.sub a (List.mem_append_right _ z)
      · exact go (List.mem_append_right _ z)
theorem PostR.cons {r : Ro} {rs : List Ro} {x : V} {vs : List V} {H1 H2 : Hp} {M1 F1 M2 F2 : List Addr} {ε1 ε2 : Env'} (p : PostR K T H M R ε1 σ r x H1 M1 F1) (q : PostL K T H1 M1 (F1 ++ R) ε2 σ rs vs H2 M2 F2) :
    PostL K T H M R ε2 σ (r :: rs) (x :: vs) H2 M2 (F1 ++ F2) := by
  cases r with
  | o o =>
    obtain ⟨ok, stp, rep⟩ := p
    refine ⟨q.ok.swap, stp.two q.stp, x, vs, F1, F2, rfl, rfl, ?_, q.rep.anti fun a ha => ?_⟩
    · refine (RepO.later ok q.stp rep).anti (fun a ha => ?_) _ _ _
      simp only [List.mem_append] at ha ⊢
      rcases ha with z | (z | z) | z
      · exact .inl z
      · exact .inr (.inr (.inl z))
      · exact .inr (.inl z)
      · exact .inr (.inr (.inr z))
    · simp only [List.mem_append] at ha ⊢
      rcases ha with z | (z | z) | z
      · exact .inl z
      · exact .inr (.inr (.inl z))
      · exact .inr (.inl z)
      · exact .inr (.inr (.inr z))
  | b i =>
    obtain ⟨rfl, ok, stp, e⟩ := p
    refine ⟨q.ok, ?_, x, vs, rfl, e, q.rep⟩
    exact Stp.two (F1 := []) (by rw [List.append_nil]; exact stp) q.stp
/-- one value after another, then k -/
def chain (K : PySem.W.Frag) (T : List Addr) : List VF → L2.St → Hp → (List V → Hp → Prop) → Prop
  | [], _, H, k => k [] H
  | f :: fs, σ, H, k => tV K T f σ H fun v H1 => chain K T fs σ H1 fun vs H2 => k (v :: vs) H2
theorem chain_of : ∀ {fs : List VF} {H : Hp} {k : List V → Hp → Prop} {M R : List Addr} {ε ε' : Env'} {rs : List Ro}, Ok K T H M R ε σ → evs fs ε = some (rs, ε') → (∀ vs H' M' F, PostL K T H M R ε' σ rs vs H' M' F → k vs H') → chain K T fs σ H k
  | [], H, k, M, R, ε, ε', rs, ok, he, h => by
    cases he
    exact h [] H M [] ⟨ok, Stp.refl.less fun a ha => by simpa using ha, rfl, rfl⟩
  | f :: fs, H, k, M, R, ε, ε', rs, ok, he, h => by
    rw [evs] at he
    split at he
    · rename_i r ε1 h1
      split at he
      · rename_i rs' ε2 h2
        cases he
        refine ⟨M, R, ε, r, ε1, ok, h1, fun v H1 M1 F1 P1 => ?_⟩
        have ok1 : Ok K T H1 M1 (F1 ++ R) ε1 σ := by
          cases r with
          | o o => exact P1.ok
          | b i => obtain ⟨rfl, ok, _, _⟩ := P1; exact ok
        exact chain_of ok1 h2 fun vs H' M' F P2 => h (v :: vs) H' M' _ (P1.cons P2)
      · cases he
    · cases he

@[simp] def looks : List Ro → Env' → Option (List D)
  | [], _ => some []
  | r :: rs, ε => match look r ε, looks rs ε with
    | some d, some ds => some (d :: ds)
    | _, _ => none
def Rep0s (K : PySem.W.Frag) (H : Hp) (A : List Addr) : List D → List V → Prop
  | [], vs => vs = []
  | d :: l, vs => ∃ v r, vs = v :: r ∧ Rep0 K H A d v ∧ Rep0s K H A l r
theorem Held.look (ok : Ok K T H M R ε σ) (hA : ∀ a ∈ M ++ R, a ∈ A) : ∀ {rs : List Ro} {vs : List V} {F : List Addr} {ds : List D}, Held K H A σ rs vs F → (∀ a ∈ F, a ∉ M ++ R) → looks rs ε = some ds → Rep0s K H (M ++ R) ds vs
  | [], _, _, ds, h, _, e => by cases e; exact h.1
  | r :: rs, vs, F, ds, h, hF, e => by
    rw [looks] at e
    split at e
    · rename_i d ds' h1 h2
      cases e
      cases r with
      | o o =>
        obtain ⟨v, r, F1, F2, e, rfl, g1, g2⟩ := h
        cases h1
        exact ⟨v, r, e, (g1.freeze hA _ _ _ fun a ha => hF a (List.mem_append_left _ ha)).rep0, Held.look ok hA g2 (fun a ha => hF a (List.mem_append_right _ ha)) h2⟩
      | b i =>
        obtain ⟨v, r, e, g1, g2⟩ := h
        exact ⟨v, r, e, look_slot ok h1 g1, Held.look ok hA g2 hF h2⟩
    · cases e
theorem PostL.look {rs : List Ro} {vs : List V} {ds : List D} (p : PostL K T H M R ε' σ rs vs H' M' F) (e : looks rs ε' = some ds) : Rep0s K H' (M' ++ R) ds vs :=
  p.rep.look p.ok.drop (fun a h => (List.mem_append.mp h).elim (fun z => List.mem_append_left _ z) fun z => List.mem_append_right _ (List.mem_append_right _ z)) (fun a ha z => by
    have n := p.ok.nd
    rcases List.mem_append.mp z with z | z
    · exact p.ok.apart (List.mem_append_left _ ha) z
    · exact (List.nodup_append.mp (List.nodup_append.mp n).2.1).2.2 a ha a z rfl) e
/-- the end: something made of the data -/
theorem PostL.made {rs : List Ro} {vs : List V} {o : O} {v : V} {H2 : Hp} {F2 : List Addr} (p : PostL K T H M R ε' σ rs vs H' M' F) (n : New K H' (M' ++ R) o v H2 F2) : Post K T H M R ε' σ o v H2 M' F2 :=
  (n.post p.ok.drop).before (p.stp.less fun a h => List.mem_append_left _ h)

/-! ### operators and calls by data -/
/-- a reading by data: of arguments -/
def rP (K : PySem.W.Frag) (T : List Addr) (p : List D → Option O) : List V → Hp → VK → Prop := fun vs H Q => ∃ A ds o, Lists H A ∧ Tabs T H ∧ Rep0s K H A ds vs ∧ p ds = some o ∧ ∀ v H' F, New K H A o v H' F → Q v H'
def rP2 (K : PySem.W.Frag) (T : List Addr) (p : D → D → Option O) : R2 := fun x y H Q => ∃ A d e o, Lists H A ∧ Tabs T H ∧ Rep0 K H A d x ∧ Rep0 K H A e y ∧ p d e = some o ∧ ∀ v H' F, New K H A o v H' F → Q v H'
def rP1 (K : PySem.W.Frag) (T : List Addr) (p : D → Option O) : V → Hp → VK → Prop := fun x H Q => ∃ A d o, Lists H A ∧ Tabs T H ∧ Rep0 K H A d x ∧ p d = some o ∧ ∀ v H' F, New K H A o v H' F → Q v H'
theorem OpR.imp {X : Cx} {f : Value → Value → Sem Value} {r r' : R2} (h : OpR X f r) (i : ∀ x y H Q, r' x y H Q → r x y H Q) : OpR X f r' := fun pins s σ H x y v u Q I rx ry q => h pins s σ H x y v u Q I rx ry (i x y H Q q)
theorem UnR.imp {X : Cx} {f : Value → Sem Value} {r r' : V → Hp → VK → Prop} (h : UnR X f r) (i : ∀ x H Q, r' x H Q → r x H Q) : UnR X f r' := fun pins s σ H x v Q I rx q => h pins s σ H x v Q I rx (i x H Q q)
theorem CallR.imp {X : Cx} {f : Value} {r r' : List V → Hp → VK → Prop} (h : CallR X f r) (i : ∀ xs H Q, r' xs H Q → r xs H Q) : CallR X f r' := fun pins s σ H xs us Q I rx q => h pins s σ H xs us Q I rx (i xs H Q q)
theorem IxR.imp {X : Cx} {r r' : R2} (h : IxR X r) (i : ∀ x y H Q, r' x y H Q → r x y H Q) : IxR X r' := fun a b pins s σ H x y v u Q I rx ry q => h a b pins s σ H x y v u Q I rx ry (i x y H Q q)
theorem MtR.imp {X : Cx} {id : String} {r r' : V → List V → Hp → VK → Prop} (h : MtR X id r) (i : ∀ x xs H Q, r' x xs H Q → r x xs H Q) : MtR X id r' := fun pins s σ H x xs v us Q I rx rs q => h pins s σ H x xs v us Q I rx rs (i x xs H Q q)

@[simp] def vBin (p : D → D → Option O) (f g : VF) : VF := fun ε => match f ε with
  | some (r1, ε1) => match g ε1 with
    | some (r2, ε2) => match look r1 ε2, look r2 ε2 with
      | some d, some e => match p d e with
        | some o => some (.o o, ε2)
        | none => none
      | _, _ => none
    | none => none
  | none => none
@[simp] def vUn (p : D → Option O) (f : VF) : VF := fun ε => match f ε with
  | some (r1, ε1) => match look r1 ε1 with
      | some d => match p d with
        | some o => some (.o o, ε1)
        | none => none
      | none => none
  | none => none
@[simp] def vPrim (p : List D → Option O) (fs : List VF) : VF := fun ε => match evs fs ε with
  | some (rs, ε1) => match looks rs ε1 with
      | some ds => match p ds with
        | some o => some (.o o, ε1)
        | none => none
      | none => none
  | none => none
theorem tOp_of {p : D → D → Option O} {f g : VF} {H : Hp} {Q : VK} (h : tV K T (vBin p f g) σ H Q) : tOp (rP2 K T p) (tV K T f) (tV K T g) σ H Q := by
  obtain ⟨M, R, ε, r, ε', ok, hf, post⟩ := h
  unfold vBin at hf
  split at hf
  · rename_i r1 ε1 h1
    split at hf
    · rename_i r2 ε2 h2
      split at hf
      · rename_i d e g1 g2
        split at hf
        · rename_i o ho
          cases hf
          have he : evs [f, g] ε = some ([r1, r2], ε') := by simp only [evs, h1, h2]
          refine chain_of (fs := [f, g]) (k := fun vs H2 => match vs with | [x, y] => rP2 K T p x y H2 Q | _ => False) ok he fun vs H' M' F P => ?_
          have hl : looks [r1, r2] ε' = some [d, e] := by simp only [looks, g1, g2]
          have hd := P.look hl
          obtain ⟨x, r, rfl, hx, y, r', rfl, hy, rfl⟩ := hd
          exact ⟨M' ++ R, d, e, o, P.ok.drop.ls, P.ok.tab, hx, hy, ho, fun v H2 F2 n => post v H2 M' F2 (P.made n)⟩
        · cases hf
      · cases hf
    · cases hf
  · cases hf
theorem tUn_of {p : D → Option O} {f : VF} {H : Hp} {Q : VK} (h : tV K T (vUn p f) σ H Q) : tUn (rP1 K T p) (tV K T f) σ H Q := by
  obtain ⟨M, R, ε, r, ε', ok, hf, post⟩ := h
  unfold vUn at hf
  split at hf
  · rename_i r1 ε1 h1
    split at hf
    · rename_i d g1
      split at hf
      · rename_i o ho
        cases hf
        have he : evs [f] ε = some ([r1], ε') := by simp only [evs, h1]
        refine chain_of (fs := [f]) (k := fun vs H2 => match vs with | [x] => rP1 K T p x H2 Q | _ => False) ok he fun vs H' M' F P => ?_
        have hl : looks [r1] ε' = some [d] := by simp only [looks, g1]
        have hd := P.look hl
        obtain ⟨x, r, rfl, hx, rfl⟩ := hd
        exact ⟨M' ++ R, d, o, P.ok.drop.ls, P.ok.tab, hx, ho, fun v H2 F2 n => post v H2 M' F2 (P.made n)⟩
      · cases hf
    · cases hf
  · cases hf
theorem tPrim_of {p : List D → Option O} {fs : List VF} {H : Hp} {Q : VK} (h : tV K T (vPrim p fs) σ H Q) : chain K T fs σ H fun vs H2 => rP K T p vs H2 Q := by
  obtain ⟨M, R, ε, r, ε', ok, hf, post⟩ := h
  unfold vPrim at hf
  split at hf
  · rename_i rs ε1 h1
    split at hf
    · rename_i ds g1
      split at hf
      · rename_i o ho
        cases hf
        exact chain_of ok h1 fun vs H' M' F P => ⟨M' ++ R, ds, o, P.ok.drop.ls, P.ok.tab, P.look g1, ho, fun v H2 F2 n => post v H2 M' F2 (P.made n)⟩
      · cases hf
    · cases hf
  · cases hf

variable {a b : Expr} {f g : VF} {pos : Pos}
theorem ve_bin {op : Operator} {p : D → D → Option O} (ho : OpR X (binaryOp op) (rP2 X.K T p)) (ha : VE X T a f) (hb : VE X T b g) : VE X T (.BinOp a op b pos) (vBin p f g) :=
  ⟨PE.imp (pe_op ho ha.pe hb.pe) fun _ _ _ h => tOp_of h⟩
theorem ve_cmp {op : CmpOp} {p : D → D → Option O} (ho : OpR X (compareOp op) (rP2 X.K T p)) (hm : behindInMarks op b = false) (ha : VE X T a f) (hb : VE X T b g) : VE X T (.Compare a [op] [b] pos) (vBin p f g) :=
  ⟨PE.imp (pe_cmpR ho ha.pe hb.pe hm) fun _ _ _ h => tOp_of h⟩
theorem ve_un {op : UnaryOp} {p : D → Option O} (ho : UnR X (unaryOp op) (rP1 X.K T p)) (ha : VE X T a f) (hp : op ≠ .Not) : VE X T (.UnaryOp op a pos) (vUn p f) :=
  ⟨PE.imp (pe_un ho ha.pe) fun _ _ _ h => tUn_of h⟩
theorem ve_ix {p : D → D → Option O} (ho : IxR X (rP2 X.K T p)) (hs : PlainIx b) (ha : VE X T a f) (hb : VE X T b g) : VE X T (.Subscript a b pos) (vBin p f g) :=
  ⟨PE.imp (pe_ix ho ha.pe hb.pe hs) fun _ _ _ h => tOp_of h⟩
structure VA (X : Cx) (T : List Addr) (es : List Expr) (fs : List VF) : Prop where
  pa : PA X es (fun σ H Q => chain X.K T fs σ H Q)
theorem va_nil : VA X T [] [] := ⟨PA.imp pa_nil fun _ _ _ h => h⟩
theorem va_cons {e : Expr} {es : List Expr} {fs : List VF} (ha : VE X T e f) (hr : VA X T es fs) (hs : starEach (e :: es) X.env = (false, eval e X.env) :: starEach es X.env := by rfl) : VA X T (e :: es) (f :: fs) :=
  ⟨PA.imp (pa_cons ha.pe hr.pa hs) fun _ _ _ h => h⟩
theorem ve_callB {x : Str} {id : String} {p : List D → Option O} {e : Expr} {es : List Expr} {fs : List VF} {pn : Pos} (hc : CallR X (.builtin id) (rP X.K T p)) (hg : Gl X x) (hm : X.mg x = none) (hv : bootBuiltins x = some (.builtin id)) (ha : VA X T (e :: es) fs)
    (hn : x ≠ "__name__") (hdb : (x == ("__debug__" : Str)) = false) (he : starEach (e :: es) X.env = (false, eval e X.env) :: starEach es X.env := by rfl) (hpl : (backTo pos (starEach es X.env)).any (·.1) = false := by rfl) : VE X T (.Call (.Name x pn) (e :: es) [] pos) (vPrim p fs) :=
  ⟨PE.imp (pe_callB hc hg hm hv ha.pa hn hdb he hpl) fun _ _ _ h => tPrim_of h⟩
theorem ve_callTy {x : Str} {ty : String} {p : List D → Option O} {e : Expr} {es : List Expr} {fs : List VF} {pn : Pos} (hc : CallR X (.type ty) (rP X.K T p)) (hg : Gl X x) (hm : X.mg x = none) (hv : bootBuiltins x = some (.type ty)) (ha : VA X T (e :: es) fs)
    (hn : x ≠ "__name__") (hdb : (x == ("__debug__" : Str)) = false) (he : starEach (e :: es) X.env = (false, eval e X.env) :: starEach es X.env := by rfl) (hpl : (backTo pos (starEach es X.env)).any (·.1) = false := by rfl) : VE X T (.Call (.Name x pn) (e :: es) [] pos) (vPrim p fs) :=
  ⟨PE.imp (pe_callTy hc hg hm hv ha.pa hn hdb he hpl) fun _ _ _ h => tPrim_of h⟩
end
end VS


set_option Elab.async false
set_option linter.all false
/-! VS2: tests, statements, loops. -/
namespace VS
open PySem PySem.Spec PyProof.Rows L2

inductive Fl where
  | nx | rt (o : O) | bk | ct
abbrev SF := Env' → Option (Fl × Env')
abbrev BF := D → Env' → Option Env'

section
variable {K : PySem.W.Frag} {T : List Addr} {P : List Nat} {H H' H'' : Hp} {M M' M'' R R' F F' A A' : List Addr} {ε ε' : Env'} {σ σ' σ'' : L2.St} {X : Cx}

/-! ### tests -/
@[simp] def tVal (f : VF) : TF := fun ε => match f ε with
  | some (.o (.fz (.bl b)), ε1) => some (b, ε1)
  | _ => none
@[simp] def tNo (f : TF) : TF := fun ε => match f ε with
  | some (b, ε1) => some (!b, ε1)
  | none => none
@[simp] def tAn (f g : TF) : TF := fun ε => match f ε with
  | some (true, ε1) => g ε1
  | some (false, ε1) => some (false, ε1)
  | none => none
@[simp] def tOr' (f g : TF) : TF := fun ε => match f ε with
  | some (true, ε1) => some (true, ε1)
  | some (false, ε1) => g ε1
  | none => none
/-- a test as a value -/
@[simp] def vT (f : TF) : VF := fun ε => match f ε with
  | some (b, ε1) => some (.o (.fz (.bl b)), ε1)
  | none => none
@[simp] def vAn (f g : VF) : VF := fun ε => match f ε with
  | some (.o (.fz (.bl true)), ε1) => g ε1
  | some (.o (.fz (.bl false)), ε1) => some (.o (.fz (.bl false)), ε1)
  | _ => none
@[simp] def vOr (f g : VF) : VF := fun ε => match f ε with
  | some (.o (.fz (.bl true)), ε1) => some (.o (.fz (.bl true)), ε1)
  | some (.o (.fz (.bl false)), ε1) => g ε1
  | _ => none
@[simp] def vNo (f : VF) : VF := fun ε => match f ε with
  | some (.o (.fz (.bl b)), ε1) => some (.o (.fz (.bl (!b))), ε1)
  | _ => none
@[simp] def vIf (c : TF) (f g : VF) : VF := fun ε => match c ε with
  | some (true, ε1) => f ε1
  | some (false, ε1) => g ε1
  | none => none

theorem PostR.before {r : Ro} {v : V} {H1 : Hp} {M1 : List Addr} (s : Stp T H M H1 M1) (p : PostR K T H1 M1 R ε' σ r v H' M' F) : PostR K T H M R ε' σ r v H' M' F := by
  cases r with
  | o o => exact Post.before s p
  | b i =>
    obtain ⟨e, ok, st, h⟩ := p
    exact ⟨e, ok, s.trans st, h⟩
theorem Post.bool {b : Bool} {v : V} (p : Post K T H M R ε' σ (.fz (.bl b)) v H' M' F) : v = .bl b ∧ F = [] ∧ Ok K T H' M' R ε' σ ∧ Stp T H M H' M' := by
  have h := p.rep
  rw [RepO, Rep] at h
  obtain ⟨rfl, h⟩ := h
  exact ⟨h, rfl, p.ok, p.stp'⟩

theorem vt_val {e : Expr} {f : VF} (h : VE X T e f) (he : ∀ whole, isTrue e X.env whole = (do let v ← whole; standAt e.pos; holding [v] (truthy v)) := by intro _; rfl) : VT X T e (tVal f) := by
  refine ⟨PT.imp (pt_val h.pe he) fun σ H Q h => ?_⟩
  obtain ⟨M, R, ε, b, ε', ok, hf, post⟩ := h
  unfold tVal at hf
  split at hf
  · rename_i b' ε1 h1
    cases hf
    refine ⟨M, R, ε, _, _, ok, h1, fun v H' M' F p => ?_⟩
    obtain ⟨rfl, rfl, ok', st⟩ := Post.bool p
    exact ⟨b, rfl, post H' M' ok' st⟩
  · cases hf
theorem vt_no {e : Expr} {f : TF} {pos : Pos} (h : VT X T e f) : VT X T (.UnaryOp .Not e pos) (tNo f) := by
  refine ⟨PT.imp (pt_not h.pt) fun σ H Q h => ?_⟩
  obtain ⟨M, R, ε, b, ε', ok, hf, post⟩ := h
  unfold tNo at hf
  split at hf
  · rename_i b' ε1 h1
    cases hf
    exact ⟨M, R, ε, _, _, ok, h1, fun H' M' ok' st => post H' M' ok' st⟩
  · cases hf
theorem vw_an1 {e : Expr} {f : TF} {pos : Pos} (h : VT X T e f) : VW X T (.BoolOp .And [e] pos) f := ⟨pw_and1 h.pt⟩
theorem vw_or1 {e : Expr} {f : TF} {pos : Pos} (h : VT X T e f) : VW X T (.BoolOp .Or [e] pos) f := ⟨pw_or1 h.pt⟩
theorem vw_an {a b : Expr} {rest : List Expr} {f g : TF} {pos : Pos} (ha : VT X T a f) (hb : VW X T (.BoolOp .And (b :: rest) pos) g) : VW X T (.BoolOp .And (a :: b :: rest) pos) (tAn f g) := by
  refine ⟨PW.imp (pw_and ha.pt hb.pw) fun σ H Q h => ?_⟩
  obtain ⟨M, R, ε, b, ε', ok, hf, post⟩ := h
  unfold tAn at hf
  split at hf
  · rename_i ε1 h1
    refine ⟨M, R, ε, _, _, ok, h1, fun H' M' ok' st => ?_⟩
    try dsimp only
    rw [if_pos rfl]
    exact ⟨M', R, ε1, b, ε', ok', hf, fun H2 M2 ok2 st2 => post H2 M2 ok2 (st.trans st2)⟩
  · rename_i ε1 h1
    cases hf
    refine ⟨M, R, ε, _, _, ok, h1, fun H' M' ok' st => ?_⟩
    try dsimp only
    rw [if_neg Bool.false_ne_true]
    exact post H' M' ok' st
  · cases hf
theorem vw_or {a b : Expr} {rest : List Expr} {f g : TF} {pos : Pos} (ha : VT X T a f) (hb : VW X T (.BoolOp .Or (b :: rest) pos) g) : VW X T (.BoolOp .Or (a :: b :: rest) pos) (tOr' f g) := by
  refine ⟨PW.imp (pw_or ha.pt hb.pw) fun σ H Q h => ?_⟩
  obtain ⟨M, R, ε, b, ε', ok, hf, post⟩ := h
  unfold tOr' at hf
  split at hf
  · rename_i ε1 h1
    cases hf
    refine ⟨M, R, ε, _, _, ok, h1, fun H' M' ok' st => ?_⟩
    try dsimp only
    rw [if_pos rfl]
    exact post H' M' ok' st
  · rename_i ε1 h1
    refine ⟨M, R, ε, _, _, ok, h1, fun H' M' ok' st => ?_⟩
    try dsimp only
    rw [if_neg Bool.false_ne_true]
    exact ⟨M', R, ε1, b, ε', ok', hf, fun H2 M2 ok2 st2 => post H2 M2 ok2 (st.trans st2)⟩
  · cases hf
theorem vt_w {e : Expr} {f : TF} (h : VW X T e f) : VT X T e f := ⟨h.pw.pt⟩
theorem ve_an {a b : Expr} {rest : List Expr} {f g : VF} {pos : Pos} (ha : VE X T a f) (hb : VE X T (.BoolOp .And (b :: rest) pos) g) : VE X T (.BoolOp .And (a :: b :: rest) pos) (vAn f g) := by
  refine ⟨PE.imp (pe_and ha.pe hb.pe) fun σ H Q h => ?_⟩
  obtain ⟨M, R, ε, r, ε', ok, hf, post⟩ := h
  unfold vAn at hf
  split at hf
  · rename_i ε1 h1
    refine ⟨M, R, ε, _, _, ok, h1, fun v H' M' F p => ?_⟩
    obtain ⟨rfl, rfl, ok', st⟩ := Post.bool p
    refine ⟨true, rfl, ?_⟩
    try dsimp only
    rw [if_pos rfl]
    exact ⟨M', R, ε1, r, ε', ok', hf, fun v H2 M2 F2 p2 => post v H2 M2 F2 (p2.before st)⟩
  · rename_i ε1 h1
    cases hf
    refine ⟨M, R, ε, _, _, ok, h1, fun v H' M' F p => ?_⟩
    obtain ⟨rfl, rfl, ok', st⟩ := Post.bool p
    refine ⟨false, rfl, ?_⟩
    try dsimp only
    rw [if_neg Bool.false_ne_true]
    exact post _ H' M' [] p
  · cases hf
theorem ve_or {a b : Expr} {rest : List Expr} {f g : VF} {pos : Pos} (ha : VE X T a f) (hb : VE X T (.BoolOp .Or (b :: rest) pos) g) : VE X T (.BoolOp .Or (a :: b :: rest) pos) (vOr f g) := by
  refine ⟨PE.imp (pe_or ha.pe hb.pe) fun σ H Q h => ?_⟩
  obtain ⟨M, R, ε, r, ε', ok, hf, post⟩ := h
  unfold vOr at hf
  split at hf
  · rename_i ε1 h1
    cases hf
    refine ⟨M, R, ε, _, _, ok, h1, fun v H' M' F p => ?_⟩
    obtain ⟨rfl, rfl, ok', st⟩ := Post.bool p
    refine ⟨true, rfl, ?_⟩
    try dsimp only
    rw [if_pos rfl]
    exact post _ H' M' [] p
  · rename_i ε1 h1
    refine ⟨M, R, ε, _, _, ok, h1, fun v H' M' F p => ?_⟩
    obtain ⟨rfl, rfl, ok', st⟩ := Post.bool p
    refine ⟨false, rfl, ?_⟩
    try dsimp only
    rw [if_neg Bool.false_ne_true]
    exact ⟨M', R, ε1, r, ε', ok', hf, fun v H2 M2 F2 p2 => post v H2 M2 F2 (p2.before st)⟩
  · cases hf
theorem ve_one {a : Expr} {op : BoolOp} {f : VF} {pos : Pos} (ha : VE X T a f) : VE X T (.BoolOp op [a] pos) f := ⟨pe_one ha.pe⟩
theorem ve_no {a : Expr} {f : VF} {pos : Pos} (ha : VE X T a f) : VE X T (.UnaryOp .Not a pos) (vNo f) := by
  refine ⟨PE.imp (pe_not ha.pe) fun σ H Q h => ?_⟩
  obtain ⟨M, R, ε, r, ε', ok, hf, post⟩ := h
  unfold vNo at hf
  split at hf
  · rename_i b ε1 h1
    cases hf
    refine ⟨M, R, ε, _, _, ok, h1, fun v H' M' F p => ?_⟩
    obtain ⟨rfl, rfl, ok', st⟩ := Post.bool p
    exact ⟨b, rfl, post _ H' M' [] (Post.fz ok' st (by rw [Rep]))⟩
  · cases hf
theorem ve_if {c a b : Expr} {t : TF} {f g : VF} {pos : Pos} (hc : VT X T c t) (ha : VE X T a f) (hb : VE X T b g) : VE X T (.IfExp c a b pos) (vIf t f g) := by
  refine ⟨PE.imp (pe_ifExp hc.pt ha.pe hb.pe) fun σ H Q h => ?_⟩
  obtain ⟨M, R, ε, r, ε', ok, hf, post⟩ := h
  unfold vIf at hf
  split at hf
  · rename_i ε1 h1
    refine ⟨M, R, ε, _, _, ok, h1, fun H' M' ok' st => ?_⟩
    try dsimp only
    rw [if_pos rfl]
    exact ⟨M', R, ε1, r, ε', ok', hf, fun v H2 M2 F2 p2 => post v H2 M2 F2 (p2.before st)⟩
  · rename_i ε1 h1
    refine ⟨M, R, ε, _, _, ok, h1, fun H' M' ok' st => ?_⟩
    try dsimp only
    rw [if_neg Bool.false_ne_true]
    exact ⟨M', R, ε1, r, ε', ok', hf, fun v H2 M2 F2 p2 => post v H2 M2 F2 (p2.before st)⟩
  · cases hf

/-! ### statements -/
/-- the protected slots are as they were -/
def Same' (P : List Nat) (σ σ' : L2.St) : Prop := σ'.length = σ.length ∧ ∀ i ∈ P, σ'[i]? = σ[i]?
theorem Same'.refl : Same' P σ σ := ⟨rfl, fun _ _ => rfl⟩
theorem Same'.trans (a : Same' P σ σ') (b : Same' P σ' σ'') : Same' P σ σ'' := ⟨b.1.trans a.1, fun i h => (b.2 i h).trans (a.2 i h)⟩
theorem Same'.set {i : Nat} {x : Option V} (h : i ∉ P) : Same' P σ (σ.set i x) := ⟨List.length_set, fun j hj => by
  rw [List.getElem?_set_ne]
  rintro rfl
  exact h hj⟩
/-- the end -/
structure EndS (K : PySem.W.Frag) (T : List Addr) (P : List Nat) (H : Hp) (M R : List Addr) (ε' : Env') (σ σ' : L2.St) (H' : Hp) (M' : List Addr) : Prop where
  ok : Ok K T H' M' R ε' σ'
  stp : Stp T H M H' M'
  pr : Same' P σ σ'
structure EndV (K : PySem.W.Frag) (T : List Addr) (P : List Nat) (H : Hp) (M R : List Addr) (ε' : Env') (o : O) (σ σ' : L2.St) (v : V) (H' : Hp) (M' F : List Addr) : Prop where
  post : Post K T H M R ε' σ' o v H' M' F
  pr : Same' P σ σ'
def After (K : PySem.W.Frag) (T : List Addr) (P : List Nat) (D : Ends) (σ : L2.St) (H : Hp) (M R : List Addr) (fl : Fl) (ε' : Env') : Prop := match fl with
  | .nx => ∀ σ' H' M', EndS K T P H M R ε' σ σ' H' M' → D.nx σ' H'
  | .bk => ∀ σ' H' M', EndS K T P H M R ε' σ σ' H' M' → D.bk σ' H'
  | .ct => ∀ σ' H' M', EndS K T P H M R ε' σ σ' H' M' → D.ct σ' H'
  | .rt o => ∀ σ' v H' M' F, EndV K T P H M R ε' o σ σ' v H' M' F → D.rt v H'
def tS (K : PySem.W.Frag) (T : List Addr) (P : List Nat) (f : SF) : TS := fun D σ H => ∃ M R ε fl ε', Ok K T H M R ε σ ∧ f ε = some (fl, ε') ∧ After K T P D σ H M R fl ε'
structure VS (X : Cx) (T : List Addr) (P : List Nat) (st : Stmt) (f : SF) : Prop where
  ps : PS X st (tS X.K T P f)
structure VSs (X : Cx) (T : List Addr) (P : List Nat) (st : List Stmt) (f : SF) : Prop where
  ps : PSs X st (tS X.K T P f)
theorem EndS.then {H1 : Hp} {M1 : List Addr} {σ1 : L2.St} {ε1 : Env'} (a : EndS K T P H M R ε1 σ σ1 H1 M1) (b : EndS K T P H1 M1 R ε' σ1 σ' H' M') : EndS K T P H M R ε' σ σ' H' M' := ⟨b.ok, a.stp.trans b.stp, a.pr.trans b.pr⟩
theorem EndS.thenV {H1 : Hp} {M1 : List Addr} {σ1 : L2.St} {ε1 : Env'} {o : O} {v : V} (a : EndS K T P H M R ε1 σ σ1 H1 M1) (b : EndV K T P H1 M1 R ε' o σ1 σ' v H' M' F) : EndV K T P H M R ε' o σ σ' v H' M' F := ⟨b.post.before a.stp, a.pr.trans b.pr⟩
theorem After.then {D : Ends} {H1 : Hp} {M1 : List Addr} {σ1 : L2.St} {ε1 : Env'} {fl : Fl} (a : EndS K T P H M R ε1 σ σ1 H1 M1) (h : After K T P D σ H M R fl ε') : After K T P D σ1 H1 M1 R fl ε' := by
  cases fl with
  | nx => exact fun σ' H' M' e => h σ' H' M' (a.then e)
  | bk => exact fun σ' H' M' e => h σ' H' M' (a.then e)
  | ct => exact fun σ' H' M' e => h σ' H' M' (a.then e)
  | rt o => exact fun σ' v H' M' F e => h σ' v H' M' F (a.thenV e)

@[simp] def sNx : SF := fun ε => some (.nx, ε)
@[simp] def sBk : SF := fun ε => some (.bk, ε)
@[simp] def sCt : SF := fun ε => some (.ct, ε)
@[simp] def sSeq (f g : SF) : SF := fun ε => match f ε with
  | some (.nx, ε1) => g ε1
  | r => r
@[simp] def sSet (i : Nat) (f : VF) : SF := fun ε => match f ε with
  | some (.o o, ε1) => if i < ε1.length then some (.nx, ε1.set i (some o)) else none
  | _ => none
@[simp] def sExpr (f : VF) : SF := fun ε => match f ε with
  | some (_, ε1) => some (.nx, ε1)
  | none => none
@[simp] def sRet (f : VF) : SF := fun ε => match f ε with
  | some (.o o, ε1) => some (.rt o, ε1)
  | _ => none
@[simp] def sIf (c : TF) (f g : SF) : SF := fun ε => match c ε with
  | some (true, ε1) => f ε1
  | some (false, ε1) => g ε1
  | none => none

theorem vss_nil : VSs X T P [] sNx := by
  refine ⟨PSs.imp pss_nil fun D σ H h => ?_⟩
  obtain ⟨M, R, ε, fl, ε', ok, hf, post⟩ := h
  cases hf
  exact post σ H M ⟨ok, .refl, .refl⟩
theorem vs_pass {pos : Pos} : VS X T P (.Pass pos) sNx := by
  refine ⟨PS.imp ps_pass fun D σ H h => ?_⟩
  obtain ⟨M, R, ε, fl, ε', ok, hf, post⟩ := h
  cases hf
  exact post σ H M ⟨ok, .refl, .refl⟩
theorem vs_doc {x : Str} {j : Nat} {pos pos' : Pos} : VS X T P (.Expr (.Constant (.str x) j pos) pos') sNx := by
  refine ⟨PS.imp ps_doc fun D σ H h => ?_⟩
  obtain ⟨M, R, ε, fl, ε', ok, hf, post⟩ := h
  cases hf
  exact post σ H M ⟨ok, .refl, .refl⟩
theorem vs_bk {pos : Pos} : VS X T P (.Break pos) sBk := by
  refine ⟨PS.imp ps_break fun D σ H h => ?_⟩
  obtain ⟨M, R, ε, fl, ε', ok, hf, post⟩ := h
  cases hf
  exact post σ H M ⟨ok, .refl, .refl⟩
theorem vs_ct {pos : Pos} : VS X T P (.Continue pos) sCt := by
  refine ⟨PS.imp ps_continue fun D σ H h => ?_⟩
  obtain ⟨M, R, ε, fl, ε', ok, hf, post⟩ := h
  cases hf
  exact post σ H M ⟨ok, .refl, .refl⟩
theorem vss_one {st : Stmt} {f : SF} (h : VS X T P st f) : VSs X T P [st] f := ⟨pss_one h.ps⟩
theorem vss_cons {st : Stmt} {rest : List Stmt} {f g : SF} (h : VS X T P st f) (hr : VSs X T P rest g) : VSs X T P (st :: rest) (sSeq f g) := by
  refine ⟨PSs.imp (pss_cons h.ps hr.ps) fun D σ H h => ?_⟩
  obtain ⟨M, R, ε, fl, ε', ok, hf, post⟩ := h
  unfold sSeq at hf
  split at hf
  · rename_i ε1 h1
    exact ⟨M, R, ε, .nx, ε1, ok, h1, fun σ' H' M' e => ⟨M', R, ε1, fl, ε', e.ok, hf, post.then e⟩⟩
  · rename_i r hr
    refine ⟨M, R, ε, fl, ε', ok, hf, ?_⟩
    cases fl with
    | nx => exact absurd hf (hr ε')
    | bk => exact post
    | ct => exact post
    | rt o => exact post
theorem vs_expr {e : Expr} {f : VF} {pos : Pos} (h : VE X T e f) (hs : PS X (.Expr e pos) (tDrop (tV X.K T f))) : VS X T P (.Expr e pos) (sExpr f) := by
  refine ⟨PS.imp hs fun D σ H h => ?_⟩
  obtain ⟨M, R, ε, fl, ε', ok, hf, post⟩ := h
  unfold sExpr at hf
  split at hf
  · rename_i r ε1 h1
    cases hf
    refine ⟨M, R, ε, r, _, ok, h1, fun v H' M' F p => ?_⟩
    cases r with
    | o o => exact post σ H' M' ⟨Post.ok' p, Post.stp' p, .refl⟩
    | b i =>
      obtain ⟨_, ok', st, _⟩ := p
      exact post σ H' M' ⟨ok', st, .refl⟩
  · cases hf
theorem vs_ret {e : Expr} {f : VF} {pos : Pos} (h : VE X T e f) : VS X T P (.Return (some e) pos) (sRet f) := by
  refine ⟨PS.imp (ps_ret h.pe) fun D σ H h => ?_⟩
  obtain ⟨M, R, ε, fl, ε', ok, hf, post⟩ := h
  unfold sRet at hf
  split at hf
  · rename_i o ε1 h1
    cases hf
    exact ⟨M, R, ε, _, _, ok, h1, fun v H' M' F p => post σ v H' M' F ⟨p, .refl⟩⟩
  · cases hf
theorem vs_retN {pos : Pos} : VS X T P (.Return none pos) (sRet (vC .non)) := by
  refine ⟨PS.imp ps_retN fun D σ H h => ?_⟩
  obtain ⟨M, R, ε, fl, ε', ok, hf, post⟩ := h
  cases hf
  exact post σ _ H M [] ⟨Post.fz ok .refl (by rw [Rep]), .refl⟩
/-- a slot gets what was given -/
theorem Post.store {o : O} {v : V} {i : Nat} (p : Post K T H M R ε' σ o v H' M' F) (hi : i < ε'.length) (hP : i ∉ P) : ∃ M2, EndS K T P H M R (ε'.set i (some o)) σ (σ.set i (some v)) H' M2 := by
  obtain ⟨G, hs, hr⟩ := p.ok.rep.drop i
  have sub : ∀ a ∈ G, a ∈ M' := fun a ha => hs.mem ha
  have ok1 : Ok K T H' G (F ++ R) (ε'.set i none) σ := by
    refine ⟨hr.anti fun a ha => (List.mem_append.mp ha).elim (fun z => List.mem_append_left _ (sub a z)) fun z => List.mem_append_right _ z, ?_, ?_, p.ok.tab⟩
    · exact p.ok.nd.sublist (hs.append (List.Sublist.refl _))
    · exact p.ok.ls.sub fun a ha => (List.mem_append.mp ha).elim (fun z => List.mem_append_left _ (sub a z)) fun z => List.mem_append_right _ z
  obtain ⟨M2, p2, ok2⟩ := ok1.put (o := o) (v := v) (i := i) (p.rep.anti (fun a ha => (List.mem_append.mp ha).elim (fun z => List.mem_append_left _ (sub a z)) fun z => List.mem_append_right _ z) _ _ _) hi
  refine ⟨M2, ok2, p.stp.less fun a ha => ?_, .set hP⟩
  rcases List.mem_append.mp (p2.mem_iff.mp ha) with z | z
  · exact List.mem_append_right _ z
  · exact List.mem_append_left _ (sub a z)
theorem vs_set {i : Nat} {x : Str} {e : Expr} {f : VF} {pos pos' : Pos} (hN : X.N.Nodup) (hi : X.N[i]? = some x) (hx : Loc X.env.scope x) (hP : i ∉ P) (h : VE X T e f) (hs : PS X (.Assign [.Name x pos'] e pos) (tAsg (tV X.K T f) (gName i))) : VS X T P (.Assign [.Name x pos'] e pos) (sSet i f) := by
  refine ⟨PS.imp hs fun D σ H h => ?_⟩
  obtain ⟨M, R, ε, fl, ε', ok, hf, post⟩ := h
  unfold sSet at hf
  split at hf
  · rename_i o ε1 h1
    split at hf
    · rename_i hl
      cases hf
      refine ⟨M, R, ε, _, _, ok, h1, fun v H' M' F p => ?_⟩
      obtain ⟨M2, q⟩ := Post.store p hl hP
      exact post _ H' M2 q
    · cases hf
  · cases hf
theorem vs_if {c : Expr} {a b : List Stmt} {t : TF} {f g : SF} {pos : Pos} (hc : VT X T c t) (ha : VSs X T P a f) (hb : VSs X T P b g) : VS X T P (.If c a b pos) (sIf t f g) := by
  refine ⟨PS.imp (ps_if hc.pt ha.ps hb.ps) fun D σ H h => ?_⟩
  obtain ⟨M, R, ε, fl, ε', ok, hf, post⟩ := h
  unfold sIf at hf
  split at hf
  · rename_i ε1 h1
    refine ⟨M, R, ε, _, _, ok, h1, fun H' M' ok' st => ?_⟩
    try dsimp only
    rw [if_pos rfl]
    exact ⟨M', R, ε1, fl, ε', ok', hf, post.then ⟨ok', st, .refl⟩⟩
  · rename_i ε1 h1
    refine ⟨M, R, ε, _, _, ok, h1, fun H' M' ok' st => ?_⟩
    try dsimp only
    rw [if_neg Bool.false_ne_true]
    exact ⟨M', R, ε1, fl, ε', ok', hf, post.then ⟨ok', st, .refl⟩⟩
  · cases hf

/-! ### targets -/
/-- what is bound: the slots alone change -/
def gB (K : PySem.W.Frag) (T : List Addr) (P : List Nat) (b : BF) : TG := fun v σ H Q => ∃ M R ε d ε', Ok K T H M R ε σ ∧ Rep K H (M ++ R) d v ∧ b d ε = some ε' ∧ ∀ σ' H' M', EndS K T P H M R ε' σ σ' H' M' → Q σ' H'
structure VG (X : Cx) (T : List Addr) (P : List Nat) (tg : Expr) (b : BF) : Prop where
  pg : PG X tg (gB X.K T P b)
theorem PG.imp {e : Expr} {t t' : TG} (h : PG X e t) (i : ∀ v σ H Q, t' v σ H Q → t v σ H Q) : PG X e t' := ⟨fun pins s σ H v u Q I r q => h.run pins s σ H v u Q I r (i v σ H Q q)⟩
@[simp] def bName (i : Nat) : BF := fun d ε => if i < ε.length then some (ε.set i (some (.fz d))) else none
theorem vg_name {i : Nat} {x : Str} {pos : Pos} (hN : X.N.Nodup) (hi : X.N[i]? = some x) (hx : Loc X.env.scope x) (hP : i ∉ P) (hpg : PG X (.Name x pos) (gName i)) : VG X T P (.Name x pos) (bName i) := by
  refine ⟨PG.imp hpg fun v σ H Q h => ?_⟩
  obtain ⟨M, R, ε, d, ε', ok, hr, hf, post⟩ := h
  unfold bName at hf
  split at hf
  · rename_i hl
    cases hf
    obtain ⟨M2, q⟩ := Post.store (Post.fz ok (Stp.refl (M := M)) hr) hl hP
    exact post _ _ M2 q
  · cases hf
/-- several, one after another -/
@[simp] def bAll : List BF → List D → Env' → Option Env'
  | [], [], ε => some ε
  | b :: bs, d :: ds, ε => match b d ε with
    | some ε1 => bAll bs ds ε1
    | none => none
  | _, _, _ => none
@[simp] def bTup (bs : List BF) : BF := fun d ε => match d with
  | .tup ds => if ds.length = bs.length then bAll bs ds ε else none
  | _ => none
def gBs (K : PySem.W.Frag) (T : List Addr) (P : List Nat) (bs : List BF) : TGs := fun vs σ H Q => ∃ M R ε ds ε', Ok K T H M R ε σ ∧ Reps K H (M ++ R) ds vs ∧ bAll bs ds ε = some ε' ∧ ∀ σ' H' M', EndS K T P H M R ε' σ σ' H' M' → Q σ' H'
structure VGs (X : Cx) (T : List Addr) (P : List Nat) (tgs : List Expr) (bs : List BF) : Prop where
  pg : PGs X tgs (gBs X.K T P bs)
theorem PGs.imp {e : List Expr} {t t' : TGs} (h : PGs X e t) (i : ∀ v σ H Q, t' v σ H Q → t v σ H Q) : PGs X e t' := ⟨fun pins s σ H v u Q I r q => h.run pins s σ H v u Q I r (i v σ H Q q)⟩
theorem vgs_nil : VGs X T P [] [] := by
  refine ⟨PGs.imp pgs_nil fun vs σ H Q h => ?_⟩
  obtain ⟨M, R, ε, ds, ε', ok, hr, hf, post⟩ := h
  cases ds with
  | nil =>
    rw [Reps] at hr
    cases hf
    exact ⟨hr, post σ H M ⟨ok, .refl, .refl⟩⟩
  | cons d ds => cases hf
theorem vgs_cons {tg : Expr} {tgs : List Expr} {b : BF} {bs : List BF} (h : VG X T P tg b) (hr : VGs X T P tgs bs) (hp : (assignEach (tg :: tgs) X.env).map (·.2) = assign tg X.env :: (assignEach tgs X.env).map (·.2) := by rfl) : VGs X T P (tg :: tgs) (b :: bs) := by
  refine ⟨PGs.imp (pgs_cons h.pg hr.pg hp) fun vs σ H Q h => ?_⟩
  obtain ⟨M, R, ε, ds, ε', ok, hr, hf, post⟩ := h
  cases ds with
  | nil => cases hf
  | cons d ds =>
    rw [bAll] at hf
    rw [Reps] at hr
    obtain ⟨v, r, e, h1, h2⟩ := hr
    split at hf
    · rename_i ε1 hb
      refine ⟨v, r, e, M, R, ε, d, ε1, ok, h1, hb, fun σ1 H1 M1 q => ⟨M1, R, ε1, ds, ε', q.ok, ?_, hf, fun σ' H' M' q2 => post σ' H' M' (q.then q2)⟩⟩
      exact h2.mono q.stp.keep ok.tab ok.ls1 (fun a h => List.mem_append_left _ h) (fun a h => by
        rcases List.mem_append.mp h with z | z
        · rcases q.stp.sub a z with z | z
          · exact .inl (List.mem_append_left _ z)
          · exact .inr z
        · exact .inl (List.mem_append_right _ z))
    · cases hf
theorem vg_tup {tgs : List Expr} {k : Nat} {pos : Pos} {bs : List BF} (hpg : PG X (.Tuple tgs k pos) (gTup X.K bs.length (gBs X.K T P bs))) : VG X T P (.Tuple tgs k pos) (bTup bs) := by
  refine ⟨PG.imp hpg fun v σ H Q h => ?_⟩
  obtain ⟨M, R, ε, d, ε', ok, hr, hf, post⟩ := h
  unfold bTup at hf
  split at hf
  · rename_i ds
    split at hf
    · rename_i hl
      rw [Rep] at hr
      obtain ⟨a, vs, e, h1, h2⟩ := hr
      exact ⟨a, vs, e, h1, h2.length.trans hl, M, R, ε, ds, ε', ok, h2, hf, post⟩
    · cases hf
  · cases hf
@[simp] def sAsg (f : VF) (b : BF) : SF := fun ε => match f ε with
  | some (.o o, ε1) => match b o.val ε1 with
    | some ε2 => some (.nx, ε2)
    | none => none
  | _ => none
theorem vs_asg {tg e : Expr} {f : VF} {b : BF} (hg : VG X T P tg b) {pos : Pos} (hs : PS X (.Assign [tg] e pos) (tAsg (tV X.K T f) (gB X.K T P b))) : VS X T P (.Assign [tg] e pos) (sAsg f b) := by
  refine ⟨PS.imp hs fun D σ H h => ?_⟩
  obtain ⟨M, R, ε, fl, ε', ok, hf, post⟩ := h
  unfold sAsg at hf
  split at hf
  · rename_i o ε1 h1
    split at hf
    · rename_i ε2 h2
      cases hf
      refine ⟨M, R, ε, _, _, ok, h1, fun v H' M' F p => ?_⟩
      exact ⟨M', R, ε1, o.val, ε', Post.ok' p, Post.data p, h2, fun σ' H2 M2 q => post σ' H2 M2 (EndS.then ⟨Post.ok' p, Post.stp' p, .refl⟩ q)⟩
    · cases hf
  · cases hf

/-! ### what is walked -/
/-- J gives the data ds, whatever happens to what is owned -/
def ItOk (K : PySem.W.Frag) (T : List Addr) (J : It) (ds : List D) (H0 : Hp) (M0 R : List Addr) : Prop := ∀ H M i, Stp T H0 M0 H M → Tabs T H → Lists H (M ++ R) →
  (∀ d, ds[i]? = some d → J.go i H ∧ ∀ x H', J.yld i H x H' → Same H H' ∧ Rep K H' (M ++ R) d x) ∧ (ds.length ≤ i → J.stop i H)
def wI (K : PySem.W.Frag) (T : List Addr) (it : Env' → Option (List D × Env')) : TI := fun σ H Rk => ∃ M R ε ds ε', Ok K T H M R ε σ ∧ it ε = some (ds, ε') ∧ ∀ H' M' J, Ok K T H' M' R ε' σ → Stp T H M H' M' → ItOk K T J ds H' M' R → Rk J H'
structure VI (X : Cx) (T : List Addr) (tg e : Expr) (it : Env' → Option (List D × Env')) : Prop where
  pi : PI X tg e (wI X.K T it)
theorem PI.imp {tg e : Expr} {t t' : TI} (h : PI X tg e t) (i : ∀ σ H Q, t' σ H Q → t σ H Q) : PI X tg e t' := ⟨fun pins s σ H Q I q => h.run pins s σ H Q I (i σ H Q q)⟩

theorem Stp.sub2 {H0 : Hp} {M0 : List Addr} (s : Stp T H0 M0 H M) : ∀ a ∈ M ++ R, a ∈ M0 ++ R ∨ H0 a = none := fun a h => by
  rcases List.mem_append.mp h with z | z
  · rcases s.sub a z with z | z
    · exact .inl (List.mem_append_left _ z)
    · exact .inr z
  · exact .inl (List.mem_append_right _ z)
/-- the loop by data -/
@[simp] def forRun (b : BF) (body : SF) : List D → Env' → Option (Fl × Env')
  | [], ε => some (.nx, ε)
  | d :: ds, ε => match b d ε with
    | none => none
    | some ε1 => match body ε1 with
      | some (.nx, ε2) => forRun b body ds ε2
      | some (.ct, ε2) => forRun b body ds ε2
      | some (.bk, ε2) => some (.nx, ε2)
      | some (.rt o, ε2) => some (.rt o, ε2)
      | none => none
@[simp] def sFor (it : Env' → Option (List D × Env')) (b : BF) (body : SF) : SF := fun ε => match it ε with
  | some (ds, ε1) => forRun b body ds ε1
  | none => none
theorem vs_for {tg e : Expr} {body : List Stmt} {it : Env' → Option (List D × Env')} {b : BF} {f : SF} {pos : Pos} (hp : PassesOwn (model X.prog X.w) X.A X.env X.xe) (hc : X.calm = true) (hi : VI X T tg e it) (hg : VG X T P tg b) (hb : VSs X T P body f)
    (hs : ∀ x, foldedSetIterable e X.env x = pure x := by intro _; rfl) : VS X T P (.For tg e body [] pos) (sFor it b f) := by
  refine ⟨PS.imp (ps_for hp hc hi.pi hg.pg hb.ps hs) fun D σ H h => ?_⟩
  obtain ⟨M, R, ε, fl, ε', ok, hf, post⟩ := h
  unfold sFor at hf
  split at hf
  · rename_i ds ε1 h1
    refine ⟨M, R, ε, ds, ε1, ok, h1, fun H1 M1 J ok1 st1 hJ => ?_⟩
    refine ⟨fun i m σ2 H2 => ∃ M2 ε2, m = ds.length - i ∧ EndS X.K T P H1 M1 R ε2 σ σ2 H2 M2 ∧ forRun b f (ds.drop i) ε2 = some (fl, ε'), ⟨ds.length, M1, ε1, rfl, ⟨ok1, .refl, .refl⟩, hf⟩, fun i m σ2 H2 hW => ?_⟩
    obtain ⟨M2, ε2, rfl, e2, hr⟩ := hW
    have ee : EndS X.K T P H M R ε2 σ σ2 H2 M2 := EndS.then (ε1 := ε1) ⟨ok1, st1, .refl⟩ e2
    have hj := hJ H2 M2 i e2.stp e2.ok.tab e2.ok.ls
    cases hd : ds[i]? with
    | none =>
      have hle : ds.length ≤ i := List.getElem?_eq_none_iff.mp hd
      refine .inl ⟨hj.2 hle, ?_⟩
      rw [List.drop_of_length_le hle] at hr
      cases hr
      exact post σ2 H2 M2 ee
    | some d =>
      obtain ⟨hlt, hget⟩ := List.getElem?_eq_some_iff.mp hd
      obtain ⟨go, yl⟩ := hj.1 d hd
      refine .inr ⟨go, fun σ3 H3 => ∃ M3 ε3, EndS X.K T P H1 M1 R ε3 σ σ3 H3 M3 ∧ forRun b f (ds.drop (i + 1)) ε3 = some (fl, ε'), fun σ3 H3 ⟨M3, ε3, e3, r3⟩ => ⟨ds.length - (i + 1), by omega, M3, ε3, rfl, e3, r3⟩, fun x H3 hy => ?_⟩
      obtain ⟨sm, rx⟩ := yl x H3 hy
      rw [List.drop_eq_getElem_cons hlt, hget, forRun] at hr
      split at hr
      · cases hr
      · rename_i ε3 hb3
        have e3 : EndS X.K T P H2 M2 R ε2 σ2 σ2 H3 M2 := ⟨e2.ok.same sm, .ofSame sm, .refl⟩
        refine ⟨M2, R, ε2, d, ε3, e3.ok, rx, hb3, fun σ4 H4 M4 e4 => ?_⟩
        have e5 : EndS X.K T P H1 M1 R ε3 σ σ4 H4 M4 := (e2.then e3).then e4
        split at hr
        · rename_i ε5 h5
          exact ⟨M4, R, ε3, .nx, ε5, e4.ok, h5, fun σ6 H6 M6 e6 => ⟨M6, ε5, e5.then e6, hr⟩⟩
        · rename_i ε5 h5
          exact ⟨M4, R, ε3, .ct, ε5, e4.ok, h5, fun σ6 H6 M6 e6 => ⟨M6, ε5, e5.then e6, hr⟩⟩
        · rename_i ε5 h5
          cases hr
          exact ⟨M4, R, ε3, .bk, _, e4.ok, h5, fun σ6 H6 M6 e6 => post σ6 H6 M6 (EndS.then ⟨ok1, st1, .refl⟩ (e5.then e6))⟩
        · rename_i o ε5 h5
          cases hr
          exact ⟨M4, R, ε3, .rt o, _, e4.ok, h5, fun σ6 v H6 M6 F6 e6 => post σ6 v H6 M6 F6 (EndS.thenV ⟨ok1, st1, .refl⟩ (e5.thenV e6))⟩
        · cases hr
  · cases hf
/-- a list or tuple of data -/
def itD (f : VF) : Env' → Option (List D × Env') := fun ε => match f ε with
  | some (.o (.fz (.lst ds)), ε1) => some (ds, ε1)
  | some (.o (.own l), ε1) => some (O.vals l, ε1)
  | _ => none
def itT (f : VF) : Env' → Option (List D × Env') := fun ε => match f ε with
  | some (.o (.fz (.tup ds)), ε1) => some (ds, ε1)
  | _ => none
theorem rep_inj {a : Addr} {vs ws : List V} (h : H a = some (.lst vs)) (h' : H a = some (.lst ws)) : ws = vs := by
  rw [h] at h'
  cases h'
  rfl
end
end VS


set_option Elab.async false
set_option linter.all false
/-! VS3: what is walked, displays, list comprehensions, owned lists changed. -/
namespace VS
noncomputable section
open PySem PySem.Spec PyProof.Rows L2
section
variable {K : PySem.W.Frag} {T : List Addr} {P : List Nat} {H H' H'' : Hp} {M M' M'' R R' F F' A A' : List Addr} {ε ε' : Env'} {σ σ' σ'' : L2.St} {X : Cx}

theorem Rep.later {d : D} {v : V} (h : Rep K H (M ++ R) d v) (s : Stp T H M H' M') (t : Tabs T H) (l : Lists H M) : Rep K H' (M' ++ R) d v :=
  h.mono s.keep t l (fun a h => List.mem_append_left _ h) s.sub2
theorem Reps.later {d : List D} {v : List V} (h : Reps K H (M ++ R) d v) (s : Stp T H M H' M') (t : Tabs T H) (l : Lists H M) : Reps K H' (M' ++ R) d v :=
  h.mono s.keep t l (fun a h => List.mem_append_left _ h) s.sub2

/-! ### walked: lists, tuples, ranges -/
theorem itOk_list {ds : List D} {a : Addr} (h : Rep K H (M ++ R) (.lst ds) (.ref a)) (t : Tabs T H) (l : Lists H M) : ItOk K T (Itl K a) ds H M R := by
  intro H2 M2 i st t2 l2
  have h2 := h.later st t l
  rw [Rep] at h2
  obtain ⟨b, vs, e, h3, _, h4⟩ := h2
  cases e
  have hl := h4.length
  refine ⟨fun d hd => ?_, fun hi => ⟨vs, SqL.of h3, by omega⟩⟩
  obtain ⟨x, hx, rx⟩ := h4.get' hd
  refine ⟨⟨vs, x, SqL.of h3, hx⟩, fun y H3 ⟨e, q⟩ => ?_⟩
  subst e
  have := q vs (SqL.of h3)
  rw [hx] at this
  cases this
  exact ⟨.refl _, rx⟩
theorem itOk_tup {ds : List D} {a : Addr} (h : Rep K H (M ++ R) (.tup ds) (.ref a)) (t : Tabs T H) (l : Lists H M) : ItOk K T (Itt K a) ds H M R := by
  intro H2 M2 i st t2 l2
  have h2 := h.later st t l
  rw [Rep] at h2
  obtain ⟨b, vs, e, h3, h4⟩ := h2
  cases e
  have hl := h4.length
  refine ⟨fun d hd => ?_, fun hi => ⟨vs, h3, by omega⟩⟩
  obtain ⟨x, hx, rx⟩ := h4.get' hd
  refine ⟨⟨vs, x, h3, hx⟩, fun y H3 ⟨e, q⟩ => ?_⟩
  subst e
  have := q vs h3
  rw [hx] at this
  cases this
  exact ⟨.refl _, rx⟩
theorem itOk_scr {ns : List Int} {a : Addr} (h : Rep K H (M ++ R) (.scr ns) (.ref a)) (t : Tabs T H) (l : Lists H M) : ItOk K T (Itl K a) (ns.map D.int) H M R := by
  intro H2 M2 i st t2 l2
  have h2 := h.later st t l
  rw [Rep] at h2
  obtain ⟨b, e, h3⟩ := h2
  cases e
  have h3 := h3.sq
  refine ⟨fun d hd => ?_, fun hi => ⟨_, h3, by simpa using hi⟩⟩
  rw [List.getElem?_map] at hd
  cases hn : ns[i]? with
  | none => rw [hn] at hd; cases hd
  | some n =>
    rw [hn] at hd
    cases hd
    have hx : (ns.map V.int)[i]? = some (.int n) := by rw [List.getElem?_map, hn]; rfl
    refine ⟨⟨_, _, h3, hx⟩, fun y H3 ⟨e, q⟩ => ?_⟩
    subst e
    have := q _ h3
    rw [hx] at this
    cases this
    exact ⟨.refl _, by rw [Rep]⟩
def rng (lo : Int) (n : Nat) : List D := (List.range n).map fun (k : Nat) => D.int (lo + (k : Int))
theorem itOk_rng {lo : Int} {n : Nat} : ItOk K T (Itr lo n) (rng lo n) H M R := by
  intro H2 M2 i st t2 l2
  refine ⟨fun d hd => ?_, fun hi => (by simpa [rng] using hi : n ≤ i)⟩
  unfold rng at hd
  rw [List.getElem?_map] at hd
  cases hn : (List.range n)[i]? with
  | none => rw [hn] at hd; cases hd
  | some k =>
    rw [hn] at hd
    cases hd
    obtain ⟨h1, h2⟩ := List.getElem?_eq_some_iff.mp hn
    rw [List.getElem_range] at h2
    subst h2
    rw [List.length_range] at h1
    refine ⟨h1, fun y H3 ⟨e, q⟩ => ?_⟩
    subst e q
    exact ⟨.refl _, by rw [Rep]⟩

/-- the data of a list, a tuple, the script -/
def seqOf : D → Option (List D)
  | .lst ds => some ds
  | .tup ds => some ds
  | .scr ns => some (ns.map D.int)
  | _ => none
/-- a list (or the script) -/
@[simp] def itL (f : VF) : Env' → Option (List D × Env') := fun ε => match f ε with
  | some (.o o, ε1) => match o.val with
    | .lst ds => some (ds, ε1)
    | .scr ns => some (ns.map D.int, ε1)
    | _ => none
  | _ => none
/-- a tuple -/
@[simp] def itP (f : VF) : Env' → Option (List D × Env') := fun ε => match f ε with
  | some (.o o, ε1) => match o.val with
    | .tup ds => some (ds, ε1)
    | _ => none
  | _ => none
theorem vi_list {tg e : Expr} {f : VF} (h : VE X T e f) : VI X T tg e (itL f) := by
  refine ⟨PI.imp (pi_list h.pe) fun σ H Rk h => ?_⟩
  obtain ⟨M, R, ε, ds, ε', ok, hf, post⟩ := h
  unfold itL at hf
  split at hf
  · rename_i o ε1 h1
    split at hf
    · rename_i ds' hv
      cases hf
      refine ⟨M, R, ε, _, _, ok, h1, fun v H' M' F p => ?_⟩
      have hd := Post.data p
      rw [hv] at hd
      have hd' := hd
      rw [Rep] at hd'
      obtain ⟨a, vs, rfl, h3, _, _⟩ := hd'
      exact ⟨a, rfl, ⟨vs, SqL.of h3⟩, post H' M' _ (Post.ok' p) (Post.stp' p) (itOk_list hd (Post.ok' p).tab (Post.ok' p).ls1)⟩
    · rename_i ns hv
      cases hf
      refine ⟨M, R, ε, _, _, ok, h1, fun v H' M' F p => ?_⟩
      have hd := Post.data p
      rw [hv] at hd
      have hd' := hd
      rw [Rep] at hd'
      obtain ⟨a, rfl, h3⟩ := hd'
      exact ⟨a, rfl, ⟨_, h3.sq⟩, post H' M' _ (Post.ok' p) (Post.stp' p) (itOk_scr hd (Post.ok' p).tab (Post.ok' p).ls1)⟩
    · cases hf
  · cases hf
theorem vi_tup {tg e : Expr} {f : VF} (h : VE X T e f) : VI X T tg e (itP f) := by
  refine ⟨PI.imp (pi_tup h.pe) fun σ H Rk h => ?_⟩
  obtain ⟨M, R, ε, ds, ε', ok, hf, post⟩ := h
  unfold itP at hf
  split at hf
  · rename_i o ε1 h1
    split at hf
    · rename_i ds' hv
      cases hf
      refine ⟨M, R, ε, _, _, ok, h1, fun v H' M' F p => ?_⟩
      have hd := Post.data p
      rw [hv] at hd
      have hd' := hd
      rw [Rep] at hd'
      obtain ⟨a, vs, rfl, h3, _⟩ := hd'
      exact ⟨a, rfl, ⟨vs, h3⟩, post H' M' _ (Post.ok' p) (Post.stp' p) (itOk_tup hd (Post.ok' p).tab (Post.ok' p).ls1)⟩
    · cases hf
  · cases hf
/-- a test that the kernel does not look into -/
theorem shut_ex {α : Type} (f : α → Bool) : ∃ g : α → Bool, ∀ x, g x = f x := ⟨f, fun _ => rfl⟩
def shut {α : Type} (f : α → Bool) : α → Bool := (shut_ex f).choose
theorem shut_eq {α : Type} (f : α → Bool) (x : α) : shut f x = f x := (shut_ex f).choose_spec x
def small : Int → Bool := shut fun j => decide (-(2 ^ 62) ≤ j) && decide (j < 2 ^ 62)
theorem small_eq (j : Int) : small j = (decide (-(2 ^ 62) ≤ j) && decide (j < 2 ^ 62)) := shut_eq _ j
theorem small_iff {j : Int} (h : small j = true) : -(2 ^ 62) ≤ j ∧ j < 2 ^ 62 := by
  rw [small_eq] at h
  rw [Bool.and_eq_true] at h
  exact ⟨of_decide_eq_true h.1, of_decide_eq_true h.2⟩
@[simp] def itR1 (f : VF) : Env' → Option (List D × Env') := fun ε => match f ε with
  | some (.o (.fz (.int j)), ε1) => if small j then some (rng 0 j.toNat, ε1) else none
  | _ => none
@[simp] def itR2 (f g : VF) : Env' → Option (List D × Env') := fun ε => match f ε with
  | some (.o (.fz (.int i)), ε1) => match g ε1 with
    | some (.o (.fz (.int j)), ε2) => if small i && small j then some (rng i (j - i).toNat, ε2) else none
    | _ => none
  | _ => none
theorem Post.int {i : Int} {v : V} (p : Post K T H M R ε' σ (.fz (.int i)) v H' M' F) : v = .int i ∧ F = [] ∧ Ok K T H' M' R ε' σ ∧ Stp T H M H' M' := by
  have h := p.rep
  rw [RepO, Rep] at h
  obtain ⟨rfl, h⟩ := h
  exact ⟨h, rfl, p.ok, p.stp'⟩
theorem vi_range1 {tg a : Expr} {f : VF} {p pos : Pos} (hg : Gl X "range") (hm : X.mg "range" = none) (ha : VA X T [a] [f]) (hs : starEach [a] X.env = [(false, eval a X.env)] := by rfl) : VI X T tg (.Call (.Name "range" p) [a] [] pos) (itR1 f) := by
  refine ⟨PI.imp (pi_range1 hg hm ha.pa hs) fun σ H Rk h => ?_⟩
  obtain ⟨M, R, ε, ds, ε', ok, hf, post⟩ := h
  unfold itR1 at hf
  split at hf
  · rename_i j ε1 h1
    split at hf
    · rename_i hj
      cases hf
      refine ⟨M, R, ε, _, _, ok, h1, fun v H' M' F p => ?_⟩
      obtain ⟨rfl, rfl, ok', st⟩ := Post.int p
      obtain ⟨j1, j2⟩ := small_iff hj
      exact ⟨j, rfl, j1, j2, post H' M' _ ok' st itOk_rng⟩
    · cases hf
  · cases hf
theorem vi_range2 {tg a b : Expr} {f g : VF} {p pos : Pos} (hg : Gl X "range") (hm : X.mg "range" = none) (ha : VA X T [a, b] [f, g]) (hs : starEach [a, b] X.env = [(false, eval a X.env), (false, eval b X.env)] := by rfl) (hs2 : starEach [b] X.env = [(false, eval b X.env)] := by rfl) : VI X T tg (.Call (.Name "range" p) [a, b] [] pos) (itR2 f g) := by
  refine ⟨PI.imp (pi_range2 hg hm ha.pa hs hs2) fun σ H Rk h => ?_⟩
  obtain ⟨M, R, ε, ds, ε', ok, hf, post⟩ := h
  unfold itR2 at hf
  split at hf
  · rename_i i ε1 h1
    split at hf
    · rename_i j ε2 h2
      split at hf
      · rename_i hj
        cases hf
        rw [Bool.and_eq_true] at hj
        refine ⟨M, R, ε, _, _, ok, h1, fun v H' M' F p => ?_⟩
        obtain ⟨rfl, rfl, ok', st⟩ := Post.int p
        refine ⟨M', R, ε1, _, _, ok', h2, fun v2 H2 M2 F2 p2 => ?_⟩
        obtain ⟨rfl, rfl, ok2, st2⟩ := Post.int p2
        obtain ⟨i1, i2⟩ := small_iff hj.1
        obtain ⟨j1, j2⟩ := small_iff hj.2
        exact ⟨i, j, rfl, ⟨i1, i2, j1, j2⟩, post H2 M2 _ ok2 (st.trans st2) itOk_rng⟩
      · cases hf
    · cases hf
  · cases hf

/-! ### displays -/
@[simp] def allO : List Ro → Option (List O)
  | [] => some []
  | .o o :: rs => match allO rs with
    | some os => some (o :: os)
    | none => none
  | .b _ :: _ => none
theorem Held.all : ∀ {rs : List Ro} {os : List O} {vs : List V} {F : List Addr}, Held K H A σ rs vs F → allO rs = some os → RepOs K H A os vs F
  | [], os, vs, F, h, e => by cases e; rw [RepOs]; exact h
  | .o o :: rs, os, vs, F, ⟨v, r, F1, F2, e1, e2, h1, h2⟩, e => by
    rw [allO] at e
    split at e
    · rename_i os' h3
      cases e
      rw [RepOs]
      exact ⟨v, r, F1, F2, e1, e2, h1, Held.all h2 h3⟩
    · cases e
  | .b i :: rs, os, vs, F, h, e => by cases e
theorem room_ex : ∃ f : Nat → Bool, ∀ n, f n = decide (n ≤ 1000000) := ⟨_, fun _ => rfl⟩
noncomputable def room : Nat → Bool := room_ex.choose
theorem room_eq (n : Nat) : room n = decide (n ≤ 1000000) := room_ex.choose_spec n
theorem room_line {n : Nat} (h : room n = true) : n ≤ sizeLine := by
  have h := of_decide_eq_true ((room_eq n).symm.trans h)
  rw [sizeLine_eq]
  omega
@[simp] def vTup (fs : List VF) : VF := fun ε => match evs fs ε with
  | some (rs, ε1) => match allO rs with
    | some os => if room os.length then some (.o (.fz (.tup (O.vals os))), ε1) else none
    | none => none
  | none => none
@[simp] def vLst (fs : List VF) : VF := fun ε => match evs fs ε with
  | some (rs, ε1) => match allO rs with
    | some os => if room os.length then some (.o (.own os), ε1) else none
    | none => none
  | none => none
theorem Nodup.left2 {α : Type} {a b c : List α} (h : (a ++ (b ++ c)).Nodup) : ∀ x ∈ b, x ∉ a ++ c := fun x hx z => by
  rcases List.mem_append.mp z with z | z
  · exact (List.nodup_append.mp h).2.2 x z x (List.mem_append_left _ hx) rfl
  · exact (List.nodup_append.mp (List.nodup_append.mp h).2.1).2.2 x hx x z rfl
theorem sub3 {a b c : List Addr} : ∀ x ∈ a ++ c, x ∈ a ++ (b ++ c) := fun x h => (List.mem_append.mp h).elim (fun z => List.mem_append_left _ z) fun z => List.mem_append_right _ (List.mem_append_right _ z)
theorem ve_tup {es : List Expr} {fs : List VF} {x1 : Nat} {pos : Pos} (h : VA X T es fs) : VE X T (.Tuple es x1 pos) (vTup fs) := by
  refine ⟨PE.imp (pe_tup h.pa) fun σ H Q h => ?_⟩
  obtain ⟨M, R, ε, r, ε', ok, hf, post⟩ := h
  unfold vTup at hf
  split at hf
  · rename_i rs ε1 h1
    split at hf
    · rename_i os h2
      split at hf
      · rename_i h3
        cases hf
        refine chain_of ok h1 fun vs H' M' F p => ?_
        have hr := Held.all p.rep h2
        refine ⟨by rw [hr.length]; exact room_line h3, fun q hq => ?_⟩
        have hd : Reps _ H' (M' ++ R) (O.vals os) vs := hr.freeze sub3 _ _ _ (Nodup.left2 p.ok.nd)
        exact post _ _ M' [] (p.made (New.tup hd p.ok.drop.ls p.ok.tab hq))
      · cases hf
    · cases hf
  · cases hf
theorem ve_lst {es : List Expr} {fs : List VF} {pos : Pos} (h : VA X T es fs) : VE X T (.List es pos) (vLst fs) := by
  refine ⟨PE.imp (pe_lst h.pa) fun σ H Q h => ?_⟩
  obtain ⟨M, R, ε, r, ε', ok, hf, post⟩ := h
  unfold vLst at hf
  split at hf
  · rename_i rs ε1 h1
    split at hf
    · rename_i os h2
      split at hf
      · rename_i h3
        cases hf
        refine chain_of ok h1 fun vs H' M' F p => ?_
        have hr := Held.all p.rep h2
        refine ⟨by rw [hr.length]; exact room_line h3, fun q hq => ?_⟩
        have sm : Same H' (upd H' q (.lst vs)) := fun b o e => by rw [upd_ne (ne_of_none e hq)]; exact e
        have lq : Lists (upd H' q (.lst vs)) [q] := fun a ha => by
          have e : a = q := by simpa using ha
          subst e
          exact ⟨vs, upd_same⟩
        have ok2 := p.ok.new sm (F := [q]) (fun a ha => by
          have e : a = q := by simpa using ha
          rw [e]; exact hq) (by simp) lq
        refine post _ _ M' (q :: F) ⟨ok2, ⟨fun b o e hm ht => sm _ _ (p.stp.keep b o e hm ht), fun b o e => ?_, fun a ha => ?_⟩, ?_⟩
        · obtain ⟨o', e'⟩ := p.stp.live b o e
          exact ⟨o', sm _ _ e'⟩
        · rcases List.mem_append.mp ha with z | z
          · exact p.stp.sub a (List.mem_append_left _ z)
          · rcases List.mem_cons.mp z with rfl | z
            · exact .inr (p.stp.back hq)
            · exact p.stp.sub a (List.mem_append_right _ z)
        · rw [RepO]
          refine ⟨q, vs, F, rfl, upd_same, rfl, hr.mono (T := T) (M := []) (Keep.ofSame sm) p.ok.tab .nil (fun a h => by cases h) (fun a ha => ?_) _ _ _ fun a _ z => by cases z⟩
          rcases List.mem_append.mp ha with z | z
          · exact .inl (List.mem_append_left _ z)
          · rcases List.mem_cons.mp z with rfl | z
            · exact .inr hq
            · exact .inl (List.mem_append_right _ z)
      · cases hf
    · cases hf
  · cases hf
/-- given up: data -/
@[simp] def vFz (f : VF) : VF := fun ε => match f ε with
  | some (.o o, ε1) => some (.o (.fz o.val), ε1)
  | _ => none
theorem ve_fz {e : Expr} {f : VF} (h : VE X T e f) : VE X T e (vFz f) := by
  refine ⟨PE.imp h.pe fun σ H Q h => ?_⟩
  obtain ⟨M, R, ε, r, ε', ok, hf, post⟩ := h
  unfold vFz at hf
  split at hf
  · rename_i o ε1 h1
    cases hf
    exact ⟨M, R, ε, _, _, ok, h1, fun v H' M' F p => post v H' M' [] (Post.fz (Post.ok' p) (Post.stp' p) (Post.data p))⟩
  · cases hf

/-! ### slots forgotten and given back -/
@[simp] def wipeE (ε : Env') : List Nat → Env'
  | [] => ε
  | v :: vs => (wipeE ε vs).set v none
theorem wipeE_length (ε : Env') : ∀ vs : List Nat, (wipeE ε vs).length = ε.length
  | [] => rfl
  | v :: vs => by unfold wipeE; rw [List.length_set, wipeE_length ε vs]
theorem Ok.forget (i : Nat) (k : Ok K T H M R ε σ) (x : Option V) : ∃ M', (∀ a ∈ M', a ∈ M) ∧ Ok K T H M' R (ε.set i none) (σ.set i x) := by
  obtain ⟨G, hs, hr⟩ := k.rep.drop i
  have sub : ∀ a ∈ G, a ∈ M := fun a ha => hs.mem ha
  refine ⟨G, sub, (RepE.any x hr).anti fun a ha => (List.mem_append.mp ha).elim (fun z => List.mem_append_left _ (sub a z)) fun z => List.mem_append_right _ z, ?_, ?_, k.tab⟩
  · exact k.nd.sublist (hs.append (List.Sublist.refl _))
  · exact k.ls.sub fun a ha => (List.mem_append.mp ha).elim (fun z => List.mem_append_left _ (sub a z)) fun z => List.mem_append_right _ z
theorem Ok.wipe (k : Ok K T H M R ε σ) : ∀ vs : List Nat, ∃ M', (∀ a ∈ M', a ∈ M) ∧ Ok K T H M' R (wipeE ε vs) (wipe σ vs)
  | [] => ⟨M, fun _ h => h, k⟩
  | v :: vs => by
    obtain ⟨M1, s1, k1⟩ := Ok.wipe k vs
    obtain ⟨M2, s2, k2⟩ := k1.forget v none
    exact ⟨M2, fun a h => s1 a (s2 a h), k2⟩
theorem Ok.setAny {i : Nat} (k : Ok K T H M R (ε.set i none) σ) (x : Option V) : Ok K T H M R (ε.set i none) (σ.set i x) := ⟨RepE.any x k.rep, k.nd, k.ls, k.tab⟩
theorem set_none_comm {α : Type} (l : List (Option α)) (i j : Nat) : (l.set i none).set j none = (l.set j none).set i none := by
  by_cases h : i = j
  · rw [h]
  · exact List.set_comm none none h
theorem wipeE_set (ε : Env') (i : Nat) : ∀ vs : List Nat, (wipeE ε vs).set i none = wipeE (ε.set i none) vs
  | [] => rfl
  | v :: vs => by
    show ((wipeE ε vs).set v none).set i none = (wipeE (ε.set i none) vs).set v none
    rw [set_none_comm, wipeE_set ε i vs]
/-- behind the block: the slots without a claim hold what they held -/
theorem Ok.unwipe : ∀ (vs : List Nat) {ε : Env'}, Ok K T H M R (wipeE ε vs) (L2.wipe σ vs) → Ok K T H M R (wipeE ε vs) σ
  | [], ε, k => k
  | v :: vs, ε, k => by
    have k1 : Ok K T H M R ((wipeE ε vs).set v none) ((L2.wipe σ vs).set v none) := k
    have k2 := k1.setAny (i := v) ((L2.wipe σ vs)[v]?.getD none)
    have e : ((L2.wipe σ vs).set v none).set v ((L2.wipe σ vs)[v]?.getD none) = L2.wipe σ vs := by
      rw [List.set_set]
      by_cases h : v < (L2.wipe σ vs).length
      · rw [List.getElem?_eq_getElem h]
        exact List.set_getElem_self h
      · exact List.set_eq_of_length_le (by omega)
    rw [e, wipeE_set] at k2
    have k3 := Ok.unwipe vs k2
    show Ok K T H M R ((wipeE ε vs).set v none) σ
    rw [wipeE_set]
    exact k3
@[simp] def clearable (vs : List Nat) (s : Env') : Bool := vs.all fun i => match s[i]? with
  | some (some (.own _)) => false
  | _ => true
@[simp] def restore : List Nat → Env' → Env' → Env'
  | [], _, ε => ε
  | i :: is, s, ε => match s[i]? with
    | some (some x) => restore is s (ε.set i (some x))
    | _ => restore is s ε
theorem Ok.setNone (i : Nat) (k : Ok K T H M R ε σ) : ∃ M', (∀ a ∈ M', a ∈ M) ∧ Ok K T H M' R (ε.set i none) σ := by
  obtain ⟨M', h1, k1⟩ := k.forget i (σ[i]?.getD none)
  have e : σ.set i (σ[i]?.getD none) = σ := by
    by_cases h : i < σ.length
    · rw [List.getElem?_eq_getElem h]
      exact List.set_getElem_self h
    · exact List.set_eq_of_length_le (by omega)
  rw [e] at k1
  exact ⟨M', h1, k1⟩
theorem Ok.restore {s : Env'} {H0 : Hp} {M0 : List Addr} (k0 : Ok K T H0 M0 R s σ) (st : Stp T H0 M0 H M) : ∀ (is : List Nat) {ε : Env'} {M1 : List Addr}, clearable is s = true → (∀ a ∈ M1, a ∈ M) → Ok K T H M1 (F ++ R) ε σ → (∀ a ∈ F, a ∈ M0 ∨ H0 a = none) → ∃ M', (∀ a ∈ M', a ∈ M) ∧ Ok K T H M' (F ++ R) (VS.restore is s ε) σ
  | [], ε, M1, _, hs, k, _ => ⟨M1, hs, k⟩
  | i :: is, ε, M1, hc, hs, k, hF => by
    have hc' : (match s[i]? with | some (some (O.own _)) => false | _ => true) = true ∧ clearable is s = true := by
      unfold clearable at hc
      rw [List.all_cons, Bool.and_eq_true] at hc
      exact hc
    unfold VS.restore
    split
    · rename_i x hx
      rw [hx] at hc'
      cases x with
      | own l => exact absurd hc'.1 (by simp)
      | fz d =>
        obtain ⟨v, F2, g1, g2, _⟩ := k0.rep.get hx
        rw [RepO] at g2
        have g3 : Rep K H (M1 ++ (F ++ R)) d v := g2.2.mono st.keep k0.tab k0.ls1 (fun a h => List.mem_append_left _ h) fun a ha => by
          rcases List.mem_append.mp ha with z | z
          · rcases st.sub a (hs a z) with z | z
            · exact .inl (List.mem_append_left _ z)
            · exact .inr z
          · rcases List.mem_append.mp z with z | z
            · rcases hF a z with z | z
              · exact .inl (List.mem_append_left _ z)
              · exact .inr z
            · exact .inl (List.mem_append_right _ z)
        obtain ⟨M2, h2, k2⟩ := k.setNone i
        obtain ⟨M3, p3, k3⟩ := Ok.put' (F := []) (R := F ++ R) (o := .fz d) (v := v) (ε := ε) (i := i) k2 (by
          rw [RepO]
          refine ⟨rfl, g3.anti fun a ha => (List.mem_append.mp ha).elim (fun z => List.mem_append_left _ (h2 a z)) fun z => List.mem_append_right _ z⟩) g1
        refine Ok.restore k0 st is hc'.2 (fun a ha => hs a (h2 a ?_)) k3 hF
        simpa using p3.mem_iff.mp ha
    · exact Ok.restore k0 st is hc'.2 hs k hF
end
end
end VS


set_option Elab.async false
set_option linter.all false
/-! VS4: list comprehensions; a def's calls. -/
namespace VS
noncomputable section
open PySem PySem.Spec PyProof.Rows L2
section
variable {K : PySem.W.Frag} {T : List Addr} {P : List Nat} {H H' H'' : Hp} {M M' M'' R R' F F' A A' : List Addr} {ε ε' : Env'} {σ σ' σ'' : L2.St} {X : Cx}

/-! ### list comprehensions -/
@[simp] def lcRun (own : List Nat) (b : BF) (c : TF) (f : VF) : List D → Env' → Option (List O × Env')
  | [], ε => some ([], ε)
  | d :: ds, ε => match b d ε with
    | none => none
    | some ε1 => match c ε1 with
      | some (true, ε2) => match f ε2 with
        | some (.o o, ε3) => match lcRun own b c f ds (wipeE ε3 own) with
          | some (os, ε4) => some (o :: os, ε4)
          | none => none
        | _ => none
      | some (false, ε2) => lcRun own b c f ds (wipeE ε2 own)
      | none => none
@[simp] def vLc (n : Nat) (own : List Nat) (it : Env' → Option (List D × Env')) (b : BF) (c : TF) (f : VF) : VF := fun ε => match it ε with
  | some (ds, ε1) => if (clearable own ε1 && room ds.length) && decide (ε1.length = n) then
      match lcRun own b c f ds (wipeE ε1 own) with
      | some (os, ε2) => some (.o (.own os), restore own ε1 ε2)
      | none => none
    else none
  | none => none
@[simp] def tYes' : TF := fun ε => some (true, ε)
structure VTs (X : Cx) (T : List Addr) (ifs : List Expr) (c : TF) : Prop where
  pt : PTs X ifs (tT X.K T c)
theorem PTs.imp {X : Cx} {e : List Expr} {t t' : TT} (h : PTs X e t) (i : ∀ σ H Q, t' σ H Q → t σ H Q) : PTs X e t' := ⟨fun pins s σ H Q I q => h.run pins s σ H Q I (i σ H Q q)⟩
theorem vts_nil : VTs X T [] tYes' := by
  refine ⟨PTs.imp pts_nil fun σ H Q h => ?_⟩
  obtain ⟨M, R, ε, b, ε', ok, hf, post⟩ := h
  cases hf
  exact post H M ok .refl
theorem vts_one {e : Expr} {c : TF} (h : VT X T e c) : VTs X T [e] c := ⟨pts_one h.pt⟩

/-- an owned list changed -/
theorem Ok.upd {a : Addr} {vs : List V} (k : Ok K T H M R ε σ) (ha : a ∈ R) : Ok K T (L2.upd H a (.lst vs)) M R ε σ where
  rep := k.rep.mono (T := T) (M := [a]) (fun b o e hb _ => by rw [upd_ne (by simpa using hb)]; exact e) k.tab (fun b hb => by
      have e : b = a := by simpa using hb
      rw [e]; exact k.ls2 a ha) (fun b hb => by
      have e : b = a := by simpa using hb
      rw [e]; exact List.mem_append_right _ ha) (fun b hb => .inl hb) fun b hb z => by
      have e : b = a := by simpa using z
      subst e
      exact k.apart ha hb
  nd := k.nd
  ls := fun b hb => by
    by_cases e : b = a
    · subst e; exact ⟨vs, upd_same⟩
    · rw [upd_ne e]; exact k.ls b hb
  tab := fun p hp => by
    have n := k.ls2 a ha
    obtain ⟨ws, e⟩ := n
    obtain ⟨ps, e2, r⟩ := k.tab p hp
    refine ⟨ps, ?_, r⟩
    rw [upd_ne (ne_of e2 e (by intro z; cases z))]
    exact e2
theorem keep_upd {a : Addr} {vs : List V} : Keep T H [a] (L2.upd H a (.lst vs)) := fun b o e hb _ => by rw [upd_ne (by simpa using hb)]; exact e

theorem wipe_idem_aux (σ : L2.St) (vs : List Nat) (i : Nat) : (L2.wipe σ vs)[i]? = if i ∈ vs then (if i < σ.length then some none else none) else σ[i]? := by
  induction vs with
  | nil => simp [L2.wipe]
  | cons v vs ih =>
    unfold L2.wipe
    by_cases h : v = i
    · subst h
      rw [if_pos List.mem_cons_self]
      by_cases hl : v < σ.length
      · rw [List.getElem?_set_self (by rw [wipe_length]; exact hl), if_pos hl]
      · rw [List.getElem?_eq_none (by rw [List.length_set, wipe_length]; omega), if_neg hl]
    · rw [List.getElem?_set_ne h, ih]
      have : (i ∈ v :: vs) = (i ∈ vs) := by
        simp only [List.mem_cons]
        exact propext ⟨fun z => z.elim (fun z => absurd z.symm h) id, .inr⟩
      simp only [this]
theorem wipe_eq {σ σ2 : L2.St} {vs : List Nat} (hl : σ2.length = σ.length) (h : ∀ i, i < σ.length → i ∉ vs → σ2[i]? = (L2.wipe σ vs)[i]?) : L2.wipe σ2 vs = L2.wipe σ vs := by
  apply List.ext_getElem?
  intro i
  by_cases hi : i ∈ vs
  · rw [wipe_idem_aux, wipe_idem_aux, if_pos hi, if_pos hi, hl]
  · rw [wipe_idem_aux, if_neg hi]
    by_cases hl2 : i < σ.length
    · exact h i hl2 hi
    · rw [List.getElem?_eq_none (by omega), List.getElem?_eq_none (by rw [wipe_length]; omega)]

theorem lc_of {it : Env' → Option (List D × Env')} {b : BF} {c : TF} {f : VF} {own : List Nat} {n : Nat} {P' : List Nat} (hP : ∀ i, i < n → i ∉ own → i ∈ P') {H : Hp} {Q : VK}
    (h : tV K T (vLc n own it b c f) σ H Q) : tLc (wI K T it) (gB K T P' b) (tT K T c) (tV K T f) own σ H Q := by
  obtain ⟨M, R, ε, r, ε', ok, hf, post⟩ := h
  unfold vLc at hf
  split at hf
  · rename_i ds ε1 h1
    split at hf
    · rename_i hc
      rw [Bool.and_eq_true, Bool.and_eq_true] at hc
      obtain ⟨⟨hc, hroom⟩, hn⟩ := hc
      have hn : ε1.length = n := of_decide_eq_true hn
      split at hf
      · rename_i os ε2 h2
        cases hf
        refine ⟨M, R, ε, ds, ε1, ok, h1, fun H1 M1 J ok1 st1 hJ => fun d hd => ?_⟩
        have hσ : σ.length = n := ok1.len.trans hn
        -- the new list d
        have sm : Same H1 (upd H1 d (.lst [])) := fun b o e => by rw [upd_ne (ne_of_none e hd)]; exact e
        have okd : Ok K T (upd H1 d (.lst [])) M1 ([d] ++ R) ε1 σ := ok1.new sm (F := [d]) (fun a ha => by
          have e : a = d := by simpa using ha
          rw [e]; exact hd) (by simp) fun a ha => by
          have e : a = d := by simpa using ha
          subst e
          exact ⟨[], upd_same⟩
        obtain ⟨M2, s2, ok2⟩ := okd.wipe own
        refine ⟨fun i m H3 => ∃ M3 ε3 acc rest Fa vs, m = ds.length - i ∧ i ≤ ds.length ∧ acc.length ≤ i ∧ Ok K T H3 M3 ((d :: Fa) ++ R) (wipeE ε3 own) (wipe σ own) ∧ Stp T H1 M1 H3 (M3 ++ (d :: Fa)) ∧ H3 d = some (.lst vs) ∧ RepOs K H3 (M3 ++ ((d :: Fa) ++ R)) acc vs Fa ∧
          lcRun own b c f (ds.drop i) (wipeE ε3 own) = some (rest, ε2) ∧ os = acc ++ rest, ⟨ds.length, M2, ε1, [], os, [], [], rfl, Nat.zero_le _, Nat.le_refl _, ok2, ⟨Keep.ofSame sm, fun b o e => ⟨o, sm _ _ e⟩, fun a ha => ?_⟩, upd_same, by rw [RepOs]; exact ⟨rfl, rfl⟩, h2, rfl⟩, fun i m H3 hW => ?_⟩
        · rcases List.mem_append.mp ha with z | z
          · exact .inl (s2 a z)
          · have e : a = d := by simpa using z
            rw [e]; exact .inr hd
        · obtain ⟨M3, ε3, acc, rest, Fa, vs, rfl, hi, hacc, ok3, st3, hd3, ra, hr, hos⟩ := hW
          have okR : Ok K T H3 M3 R (wipeE ε3 own) (wipe σ own) := ok3.drop
          have hj := hJ H3 M3 i (st3.less fun a h => List.mem_append_left _ h) ok3.tab okR.ls
          cases hdi : ds[i]? with
          | none =>
            have hle : ds.length ≤ i := List.getElem?_eq_none_iff.mp hdi
            refine .inl ⟨hj.2 hle, ?_⟩
            rw [List.drop_of_length_le hle] at hr
            cases hr
            rw [List.append_nil] at hos
            subst hos
            have k4 := Ok.unwipe own ok3
            obtain ⟨M4, s4, k5⟩ := Ok.restore (F := d :: Fa) ok1 (st3.less fun a h => List.mem_append_left _ h) own hc (fun a h => h) k4 fun a ha => st3.sub a (List.mem_append_right _ ha)
            have st4 : Stp T H M H3 (M4 ++ (d :: Fa)) := st1.trans (st3.less fun a h => (List.mem_append.mp h).elim (fun z => List.mem_append_left _ (s4 a z)) fun z => List.mem_append_right _ z)
            refine post _ H3 M4 (d :: Fa) ⟨k5, st4, ?_⟩
            rw [RepO]
            exact ⟨d, vs, Fa, rfl, hd3, rfl, ra.anti (fun a h => (List.mem_append.mp h).elim (fun z => List.mem_append_left _ (s4 a z)) fun z => List.mem_append_right _ z) _ _ _⟩
          | some x0 =>
            obtain ⟨hlt, hget⟩ := List.getElem?_eq_some_iff.mp hdi
            obtain ⟨go, yl⟩ := hj.1 x0 hdi
            refine .inr ⟨go, fun H4 => ∃ M4 ε4 acc4 rest4 Fa4 vs4, acc4.length ≤ i + 1 ∧ Ok K T H4 M4 ((d :: Fa4) ++ R) (wipeE ε4 own) (wipe σ own) ∧ Stp T H1 M1 H4 (M4 ++ (d :: Fa4)) ∧ H4 d = some (.lst vs4) ∧ RepOs K H4 (M4 ++ ((d :: Fa4) ++ R)) acc4 vs4 Fa4 ∧
              lcRun own b c f (ds.drop (i + 1)) (wipeE ε4 own) = some (rest4, ε2) ∧ os = acc4 ++ rest4, fun H4 ⟨M4, ε4, acc4, rest4, Fa4, vs4, q1, q2, q3, q4, q5, q6, q7⟩ => ⟨ds.length - (i + 1), by omega, M4, ε4, acc4, rest4, Fa4, vs4, rfl, by omega, q1, q2, q3, q4, q5, q6, q7⟩, fun x H4 hy => ?_⟩
            obtain ⟨sm4, rx⟩ := yl x H4 hy
            rw [List.drop_eq_getElem_cons hlt, hget, lcRun] at hr
            -- the state behind the draw
            have ok4 : Ok K T H4 M3 ((d :: Fa) ++ R) (wipeE ε3 own) (wipe σ own) := ok3.same sm4
            have hd4 : H4 d = some (.lst vs) := sm4 _ _ hd3
            have ra4 : RepOs K H4 (M3 ++ ((d :: Fa) ++ R)) acc vs Fa := ra.mono (T := T) (M := []) (Keep.ofSame sm4) ok3.tab .nil (fun a h => by cases h) (fun a h => .inl h) _ _ _ fun a _ z => by cases z
            have st4 : Stp T H1 M1 H4 (M3 ++ (d :: Fa)) := st3.trans (Stp.ofSame sm4)
            have rx' : Rep K H4 (M3 ++ ((d :: Fa) ++ R)) x0 x := by
              have hjj := (hJ H3 (M3 ++ (d :: Fa)) i st3 ok3.tab (by rw [List.append_assoc]; exact ok3.ls)).1 x0 hdi
              have := (hjj.2 x H4 hy).2
              rw [List.append_assoc] at this
              exact this
            split at hr
            · cases hr
            · rename_i ε5 hb5
              refine ⟨M3, (d :: Fa) ++ R, wipeE ε3 own, x0, ε5, ok4, rx', hb5, fun σ5 H5 M5 e5 => ?_⟩
              have hl5 : σ5.length = σ.length := e5.pr.1.trans (wipe_length σ own)
              have hw5 : wipe σ5 own = wipe σ own := wipe_eq hl5 fun j hj1 hj2 => e5.pr.2 j (hP j (by omega) hj2)
              refine ⟨hw5, ?_⟩
              have nd5 := e5.ok.apart (a := d) (List.mem_append_left _ List.mem_cons_self)
              -- the state behind the test, with the rest of the turn
              have tail : ∀ {ε6 : Env'} {H6 : Hp} {M6 : List Addr} {acc6 rest6 : List O} {Fa6 : List Addr} {vs6 : List V}, Ok K T H6 M6 ((d :: Fa6) ++ R) ε6 σ5 → Stp T H1 M1 H6 (M6 ++ (d :: Fa6)) → H6 d = some (.lst vs6) → RepOs K H6 (M6 ++ ((d :: Fa6) ++ R)) acc6 vs6 Fa6 → acc6.length ≤ i + 1 →
                  lcRun own b c f (ds.drop (i + 1)) (wipeE ε6 own) = some (rest6, ε2) → os = acc6 ++ rest6 →
                  ∃ M4 ε4 acc4 rest4 Fa4 vs4, acc4.length ≤ i + 1 ∧ Ok K T H6 M4 ((d :: Fa4) ++ R) (wipeE ε4 own) (wipe σ own) ∧ Stp T H1 M1 H6 (M4 ++ (d :: Fa4)) ∧ H6 d = some (.lst vs4) ∧ RepOs K H6 (M4 ++ ((d :: Fa4) ++ R)) acc4 vs4 Fa4 ∧ lcRun own b c f (ds.drop (i + 1)) (wipeE ε4 own) = some (rest4, ε2) ∧ os = acc4 ++ rest4 := by
                intro ε6 H6 M6 acc6 rest6 Fa6 vs6 k6 s6 e6 r6 l6 q6 o6
                obtain ⟨M7, s7, k7⟩ := k6.wipe own
                rw [hw5] at k7
                exact ⟨M7, ε6, acc6, rest6, Fa6, vs6, l6, k7, s6.less fun a h => (List.mem_append.mp h).elim (fun z => List.mem_append_left _ (s7 a z)) fun z => List.mem_append_right _ z, e6, r6.anti (fun a h => (List.mem_append.mp h).elim (fun z => List.mem_append_left _ (s7 a z)) fun z => List.mem_append_right _ z) _ _ _, q6, o6⟩
              have later : ∀ {H6 : Hp} {M6 F6 : List Addr} {ε6 : Env'}, Ok K T H6 M6 (F6 ++ ((d :: Fa) ++ R)) ε6 σ5 → Stp T H4 M3 H6 (M6 ++ F6) → H6 d = some (.lst vs) ∧ RepOs K H6 (M6 ++ (F6 ++ ((d :: Fa) ++ R))) acc vs Fa := by
                intro H6 M6 F6 ε6 k6 s6
                have h6 : H6 d = some (.lst vs) := s6.keep d _ hd4 (ok4.apart (List.mem_append_left _ List.mem_cons_self)) (ok4.tab.nlst hd4)
                refine ⟨h6, ra4.mono s6.keep ok4.tab ok4.ls1 (fun a h => List.mem_append_left _ h) (fun a h => ?_) _ _ _ fun a ha => ok4.apart (List.mem_append_left _ (List.mem_cons_of_mem _ ha))⟩
                have go : a ∈ M6 ++ F6 → a ∈ M3 ++ ((d :: Fa) ++ R) ∨ H4 a = none := fun z => (s6.sub a z).elim (fun z => .inl (List.mem_append_left _ z)) .inr
                rcases List.mem_append.mp h with z | z
                · exact go (List.mem_append_left _ z)
                · rcases List.mem_append.mp z with z | z
                  · exact go (List.mem_append_right _ z)
                  · exact .inl (List.mem_append_right _ z)
              split at hr
              · rename_i ε6 h6
                split at hr
                · rename_i o ε7 h7
                  split at hr
                  · rename_i os' ε8 h8
                    cases hr
                    refine ⟨M5, (d :: Fa) ++ R, ε5, true, ε6, e5.ok, h6, fun H6 M6 ok6 st6 => ?_⟩
                    refine iteT ?_
                    refine ⟨M6, (d :: Fa) ++ R, ε6, .o o, ε7, ok6, h7, fun y H7 M7 F7 p7 => ?_⟩
                    have p7 : Post K T H6 M6 ((d :: Fa) ++ R) ε7 σ5 o y H7 M7 F7 := p7
                    have s7 : Stp T H4 M3 H7 (M7 ++ F7) := (e5.stp.trans st6).trans p7.stp
                    obtain ⟨hd7, ra7⟩ := later p7.ok s7
                    refine ⟨vs, hd7, ?_, ?_⟩
                    · rw [ra7.length]
                      have := room_line hroom
                      omega
                    · have k7 : Ok K T H7 M7 (((d :: Fa) ++ F7) ++ R) ε7 σ5 := p7.ok.swap
                      have k8 : Ok K T (upd H7 d (.lst (vs ++ [y]))) M7 ((d :: (Fa ++ F7)) ++ R) ε7 σ5 := k7.upd (List.mem_append_left _ List.mem_cons_self)
                      have mem : ∀ a, a ∈ M7 ++ ((d :: (Fa ++ F7)) ++ R) ↔ a ∈ M7 ++ (F7 ++ ((d :: Fa) ++ R)) := fun a => by
                        simp only [List.mem_append, List.mem_cons]
                        constructor
                        · rintro (h | (h | h | h) | h) <;> simp [h]
                        · rintro (h | h | (h | h) | h) <;> simp [h]
                      have nd7 : ∀ a ∈ (d :: Fa) ++ F7, a = d ∨ a ≠ d := fun a _ => by
                        by_cases e : a = d
                        · exact .inl e
                        · exact .inr e
                      have dis : (d :: (Fa ++ F7)).Nodup := by
                        have z := (List.nodup_append.mp k7.nd).2.1
                        exact (List.nodup_append.mp z).1
                      have dn : d ∉ Fa ++ F7 := (List.nodup_cons.mp dis).1
                      have rA : RepOs K (upd H7 d (.lst (vs ++ [y]))) (M7 ++ ((d :: (Fa ++ F7)) ++ R)) (acc ++ [o]) (vs ++ [y]) (Fa ++ (F7 ++ [])) := by
                        refine RepOs.append ?_ ?_
                        · refine (ra7.mono (T := T) keep_upd p7.ok.tab (fun a ha => ?_) (fun a ha => ?_) (fun a ha => .inl ((mem a).mp ha)) _ _ _ fun a ha z => ?_)
                          · have e : a = d := by simpa using ha
                            rw [e]; exact ⟨vs, hd7⟩
                          · have e : a = d := by simpa using ha
                            rw [e]
                            exact List.mem_append_right _ (List.mem_append_right _ (List.mem_append_left _ List.mem_cons_self))
                          · have e : a = d := by simpa using z
                            rw [e] at ha
                            exact dn (List.mem_append_left _ ha)
                        · rw [RepOs]
                          refine ⟨y, [], F7, [], rfl, rfl, p7.rep.mono (T := T) keep_upd p7.ok.tab (fun a ha => ?_) (fun a ha => ?_) (fun a ha => .inl ((mem a).mp ha)) _ _ _ (fun a ha z => ?_), by rw [RepOs]; exact ⟨rfl, rfl⟩⟩
                          · have e : a = d := by simpa using ha
                            rw [e]; exact ⟨vs, hd7⟩
                          · have e : a = d := by simpa using ha
                            rw [e]
                            exact List.mem_append_right _ (List.mem_append_right _ (List.mem_append_left _ List.mem_cons_self))
                          · have e : a = d := by simpa using z
                            rw [e] at ha
                            exact dn (List.mem_append_right _ ha)
                      rw [List.append_nil] at rA
                      have sA : Stp T H1 M1 (upd H7 d (.lst (vs ++ [y]))) (M7 ++ (d :: (Fa ++ F7))) := by
                        have hkeep : Keep T H1 M1 H7 := fun b o e hm ht => s7.keep b o (st4.keep b o e hm ht) (fun z => (st4.sub b (List.mem_append_left _ z)).elim hm fun z => by rw [e] at z; cases z) ht
                        refine ⟨fun b o e hm ht => ?_, fun b o e => ?_, fun a ha => ?_⟩
                        · rw [upd_ne (ne_of_none e hd)]
                          exact hkeep b o e hm ht
                        · by_cases eb : b = d
                          · rw [eb]; exact ⟨_, upd_same⟩
                          · rw [upd_ne eb]
                            obtain ⟨o1, e1⟩ := st4.live b o e
                            exact s7.live b o1 e1
                        · have back : H4 a = none → H1 a = none := fun z => st4.back z
                          have go : a ∈ M7 ++ F7 → a ∈ M1 ∨ H1 a = none := fun z => (s7.sub a z).elim (fun z => st4.sub a (List.mem_append_left _ z)) fun z => .inr (back z)
                          simp only [List.mem_append, List.mem_cons] at ha
                          rcases ha with z | z | z | z
                          · exact go (List.mem_append_left _ z)
                          · exact st4.sub a (by rw [z]; exact List.mem_append_right _ List.mem_cons_self)
                          · exact st4.sub a (List.mem_append_right _ (List.mem_cons_of_mem _ z))
                          · exact go (List.mem_append_right _ z)
                      exact tail k8 sA upd_same rA (by rw [List.length_append]; show acc.length + 1 ≤ i + 1; omega) h8 (by rw [hos, List.append_assoc]; rfl)
                  · cases hr
                · cases hr
              · rename_i ε6 h6
                refine ⟨M5, (d :: Fa) ++ R, ε5, false, ε6, e5.ok, h6, fun H6 M6 ok6 st6 => ?_⟩
                refine iteF ?_
                have s6 : Stp T H4 M3 H6 (M6 ++ []) := by
                  rw [List.append_nil]
                  exact e5.stp.trans st6
                obtain ⟨hd6, ra6⟩ := later (F6 := []) ok6 s6
                refine tail ok6 ?_ hd6 ra6 (by omega) hr hos
                refine ⟨fun b o e hm ht => s6.keep b o (st4.keep b o e hm ht) (fun z => (st4.sub b (List.mem_append_left _ z)).elim hm fun z => by rw [e] at z; cases z) ht, fun b o e => ?_, fun a ha => ?_⟩
                · obtain ⟨o1, e1⟩ := st4.live b o e
                  exact s6.live b o1 e1
                · rcases List.mem_append.mp ha with z | z
                  · exact (s6.sub a (List.mem_append_left _ z)).elim (fun z => st4.sub a (List.mem_append_left _ z)) fun z => .inr (st4.back z)
                  · exact st4.sub a (List.mem_append_right _ z)
              · cases hr
      · cases hf
    · cases hf
  · cases hf
@[simp] def notIn (own : List Nat) (n : Nat) : List Nat := (List.range n).filter fun i => !own.contains i
theorem notIn_mem {own : List Nat} {n i : Nat} (h : i < n) (ho : i ∉ own) : i ∈ notIn own n := by
  unfold notIn
  rw [List.mem_filter]
  refine ⟨List.mem_range.mpr h, ?_⟩
  simpa using ho
theorem ve_lc {elt tg iter : Expr} {ifs : List Expr} {scope : Scope} {own : List (Str × Nat)} {pos : Pos} {it : Env' → Option (List D × Env')} {b : BF} {c : TF} {f : VF} {n : Nat} (hc : X.calm = true) (hN : X.N.Nodup) (hi : VI X T tg iter it) (ok : BlkOk X.N X.env.scope scope own)
    (hg : ∀ (s : Shared) (H : Hp) (C : Addr) (cl : List (Str × Addr)) (fp : List Addr), VG (X.blk s H scope (compEnvC scope cl C X.env) fp) T (notIn (own.map (·.2)) n) tg b) (ht : ∀ (s : Shared) (H : Hp) (C : Addr) (cl : List (Str × Addr)) (fp : List Addr), VTs (X.blk s H scope (compEnvC scope cl C X.env) fp) T ifs c)
    (he : ∀ (s : Shared) (H : Hp) (C : Addr) (cl : List (Str × Addr)) (fp : List Addr), VE (X.blk s H scope (compEnvC scope cl C X.env) fp) T elt f) (hs : ∀ x, foldedSetIterable iter X.env x = pure x := by intro _; rfl) :
    VE X T (.ListComp elt [⟨tg, iter, ifs, 0⟩] scope pos) (vLc n (own.map (·.2)) it b c f) :=
  ⟨PE.imp (pe_lc hc hN hi.pi ok (fun s H C cl fp => (show PG _ tg (gB X.K T _ b) from (hg s H C cl fp).pg)) (fun s H C cl fp => (show PTs _ ifs (tT X.K T c) from (ht s H C cl fp).pt)) (fun s H C cl fp => (show PE _ elt (tV X.K T f) from (he s H C cl fp).pe)) hs) fun σ H Q h => lc_of (fun i h1 h2 => notIn_mem h1 h2) h⟩
/-- y = [..] -/
theorem vs_setLc {i : Nat} {y : Str} {py : Pos} {elt tg iter : Expr} {ifs : List Expr} {scope : Scope} {own : List (Str × Nat)} {pos spos : Pos} {it : Env' → Option (List D × Env')} {b : BF} {c : TF} {f : VF} {n : Nat} (hc : X.calm = true) (hN : X.N.Nodup) (hy : X.N[i]? = some y) (hyl : X.env.scope.names.lookup y = some .local) (hx : Loc X.env.scope y) (hP : i ∉ P)
    (hsw : swapsWith (.ListComp elt [⟨tg, iter, ifs, 0⟩] scope pos) (some (.Name y py)) spos.line X.env = pure true) (hi : VI X T tg iter it) (ok : BlkOk X.N X.env.scope scope own)
    (hg : ∀ (s : Shared) (H : Hp) (C : Addr) (cl : List (Str × Addr)) (fp : List Addr), VG (X.blk s H scope (compEnvC scope cl C X.env) fp) T (notIn (own.map (·.2)) n) tg b) (ht : ∀ (s : Shared) (H : Hp) (C : Addr) (cl : List (Str × Addr)) (fp : List Addr), VTs (X.blk s H scope (compEnvC scope cl C X.env) fp) T ifs c)
    (he : ∀ (s : Shared) (H : Hp) (C : Addr) (cl : List (Str × Addr)) (fp : List Addr), VE (X.blk s H scope (compEnvC scope cl C X.env) fp) T elt f) (hs : ∀ x, foldedSetIterable iter X.env x = pure x := by intro _; rfl) :
    VS X T P (.Assign [.Name y py] (.ListComp elt [⟨tg, iter, ifs, 0⟩] scope pos) spos) (sSet i (vLc n (own.map (·.2)) it b c f)) := by
  refine vs_set hN hy hx hP (ve_lc hc hN hi ok hg ht he hs) ?_
  refine PS.imp (ps_setLc hc hN hy hyl hsw hi.pi ok (fun s H C cl fp => (show PG _ tg (gB X.K T _ b) from (hg s H C cl fp).pg)) (fun s H C cl fp => (show PTs _ ifs (tT X.K T c) from (ht s H C cl fp).pt)) (fun s H C cl fp => (show PE _ elt (tV X.K T f) from (he s H C cl fp).pe)) hs) fun D σ H h => ?_
  exact lc_of (fun i h1 h2 => notIn_mem h1 h2) h
end
end
end VS


set_option Elab.async false
set_option linter.all false
/-! VS5: owned lists read and changed. -/
namespace VS
noncomputable section
open PySem PySem.Spec PyProof.Rows L2
section
variable {K : PySem.W.Frag} {T : List Addr} {P : List Nat} {H H' H'' : Hp} {M M' M'' R R' F F' A A' : List Addr} {ε ε' : Env'} {σ σ' σ'' : L2.St} {X : Cx}

/-! ### one item of an owned list -/
theorem RepOs.at : ∀ {l : List O} {vs : List V} {F : List Addr} {k : Nat} {o : O}, RepOs K H A l vs F → l[k]? = some o → ∃ v Fk G, vs[k]? = some v ∧ F.Perm (Fk ++ G) ∧ RepO K H A o v Fk ∧ RepOs K H A (l.eraseIdx k) (vs.eraseIdx k) G
  | [], _, _, k, o, h, e => by simp at e
  | p :: l, _, _, 0, o, h, e => by
    rw [RepOs] at h
    obtain ⟨v, r, F1, F2, rfl, rfl, h1, h2⟩ := h
    simp at e
    subst e
    exact ⟨v, F1, F2, rfl, .refl _, h1, h2⟩
  | p :: l, _, _, k + 1, o, h, e => by
    rw [RepOs] at h
    obtain ⟨v, r, F1, F2, rfl, rfl, h1, h2⟩ := h
    obtain ⟨w, Fk, G, g1, g2, g3, g4⟩ := RepOs.at h2 (k := k) (by simpa using e)
    refine ⟨w, Fk, F1 ++ G, by simpa using g1, ?_, g3, ?_⟩
    · refine (List.Perm.append_left F1 g2).trans ?_
      rw [← List.append_assoc, ← List.append_assoc]
      exact List.Perm.append_right G List.perm_append_comm
    · rw [List.eraseIdx_cons_succ, List.eraseIdx_cons_succ, RepOs]
      exact ⟨v, _, F1, G, rfl, rfl, h1, g4⟩
/-- put back -/
theorem RepOs.back : ∀ {l : List O} {vs : List V} {F G : List Addr} {k : Nat} {o : O} {v : V}, RepOs K H A (l.eraseIdx k) (vs.eraseIdx k) G → RepO K H A o v F → k < l.length → k < vs.length → ∃ G', G'.Perm (F ++ G) ∧ RepOs K H A (l.set k o) (vs.set k v) G'
  | [], _, _, _, k, o, v, _, _, hk, _ => by simp at hk
  | p :: l, [], _, _, k, o, v, _, _, _, hk => by simp at hk
  | p :: l, w :: vs, F, G, 0, o, v, h, ho, _, _ => by
    refine ⟨F ++ G, .refl _, ?_⟩
    rw [List.set_cons_zero, List.set_cons_zero, RepOs]
    exact ⟨v, vs, F, G, rfl, rfl, ho, h⟩
  | p :: l, w :: vs, F, G, k + 1, o, v, h, ho, hk, hk2 => by
    rw [List.eraseIdx_cons_succ, List.eraseIdx_cons_succ, RepOs] at h
    obtain ⟨w', r, F1, F2, e, rfl, h1, h2⟩ := h
    cases e
    obtain ⟨G', g1, g2⟩ := RepOs.back h2 ho (by simpa using hk) (by simpa using hk2)
    refine ⟨F1 ++ G', ?_, ?_⟩
    · refine (List.Perm.append_left F1 g1).trans ?_
      rw [← List.append_assoc, ← List.append_assoc]
      exact List.Perm.append_right F2 List.perm_append_comm
    · rw [List.set_cons_succ, List.set_cons_succ, RepOs]
      exact ⟨w, _, F1, G', rfl, rfl, h1, g2⟩
theorem set_back {α : Type} {l : List α} {k : Nat} {x : α} (h : l[k]? = some x) : l.set k x = l := by
  obtain ⟨h1, rfl⟩ := List.getElem?_eq_some_iff.mp h
  exact List.set_getElem_self h1

/-! ### places read -/
abbrev Pl := Env' → Option O
def tP (K : PySem.W.Frag) (T : List Addr) (g : Pl) : TE := fun σ H Q => ∃ M R ε o, Ok K T H M R ε σ ∧ g ε = some o ∧ ∀ v F, RepO K H (M ++ R) o v F → (∀ a ∈ F, a ∈ M) → Q v H
structure VP (X : Cx) (T : List Addr) (e : Expr) (g : Pl) : Prop where
  pe : PE X e (tP X.K T g)
@[simp] def gN (i : Nat) : Pl := fun ε => match ε[i]? with
  | some (some o) => some o
  | _ => none
@[simp] def gC (d : D) : Pl := fun _ => some (.fz d)
@[simp] def itemO (o : O) (n : Int) : Option O := match o with
  | .own l => atI l n
  | .fz (.lst l) => (atI l n).map O.fz
  | .fz (.tup l) => (atI l n).map O.fz
  | _ => none
@[simp] def gIx (g h : Pl) : Pl := fun ε => match g ε, h ε with
  | some o, some (.fz (.int n)) => itemO o n
  | _, _ => none
theorem vp_name {i : Nat} {x : Str} {pos : Pos} (hN : X.N[i]? = some x) (hv : Vis X.env.scope x) (hd : (x == ("__debug__" : Str)) = false) (hcd : (x == ("__classdict__" : Str)) = false) : VP X T (.Name x pos) (gN i) := by
  refine ⟨PE.imp (pe_var hN hv hd hcd) fun σ H Q h => ?_⟩
  obtain ⟨M, R, ε, o, ok, hf, post⟩ := h
  unfold gN at hf
  split at hf
  · rename_i o' e
    cases hf
    obtain ⟨v, F2, g1, g2, g3⟩ := ok.rep.get e
    exact ⟨v, g1, post v F2 g2 g3⟩
  · cases hf
theorem vp_c {d : D} {v : V} {e : Expr} (h : PE X e (tC v)) (hr : ∀ K H A, Rep K H A d v) : VP X T e (gC d) := by
  refine ⟨PE.imp h fun σ H Q h => ?_⟩
  obtain ⟨M, R, ε, o, ok, hf, post⟩ := h
  cases hf
  exact post v [] (by rw [RepO]; exact ⟨rfl, hr _ _ _⟩) fun a h => by cases h
theorem vp_int {i j pos} : VP X T (.Constant (.int i) j pos) (gC (.int i)) := vp_c pe_int fun _ _ _ => by rw [Rep]
theorem atI_some {α : Type} {l : List α} {n : Int} {x : α} (h : atI l n = some x) : ∃ k, ixN l.length n = some k ∧ l[k]? = some x := by
  unfold atI at h
  cases q : ixN l.length n with
  | none => rw [q] at h; cases h
  | some k => rw [q] at h; exact ⟨k, rfl, h⟩
theorem atI_of {α β : Type} {l : List α} {l' : List β} {n : Int} {k : Nat} {y : β} (h : ixN l.length n = some k) (hl : l'.length = l.length) (hy : l'[k]? = some y) : atI l' n = some y := by
  unfold atI
  rw [hl, h]
  exact hy
theorem vp_ix {a b : Expr} {g h : Pl} {pos : Pos} (ha : VP X T a g) (hb : VP X T b h) (hs : PlainIx b) : VP X T (.Subscript a b pos) (gIx g h) := by
  refine ⟨PE.imp (pe_ix ix_seq ha.pe hb.pe hs) fun σ H Q hh => ?_⟩
  obtain ⟨M, R, ε, o, ok, hf, post⟩ := hh
  unfold gIx at hf
  split at hf
  · rename_i o1 n h1 h2
    refine ⟨M, R, ε, o1, ok, h1, fun v F r1 f1 => ⟨M, R, ε, _, ok, h2, fun w F2 r2 f2 => ?_⟩⟩
    rw [RepO, Rep] at r2
    obtain ⟨_, rfl⟩ := r2
    unfold itemO at hf
    split at hf
    · rename_i l
      obtain ⟨k, e1, e2⟩ := atI_some hf
      rw [RepO] at r1
      obtain ⟨p, vs, F', rfl, hp, rfl, rl⟩ := r1
      obtain ⟨x, Fk, G, g1, g2, g3, _⟩ := rl.at e2
      exact .inl ⟨p, vs, n, x, rfl, rfl, SqL.of hp, atI_of e1 rl.length g1, post x Fk g3 fun a ha => f1 a (List.mem_cons_of_mem _ (g2.mem_iff.mpr (List.mem_append_left _ ha)))⟩
    · rename_i l
      rw [RepO, Rep] at r1
      obtain ⟨_, p, vs, rfl, hp, _, rl⟩ := r1
      cases q : atI l n with
      | none => rw [q] at hf; cases hf
      | some d =>
        rw [q] at hf
        cases hf
        obtain ⟨k, e1, e2⟩ := atI_some q
        obtain ⟨x, g1, g2⟩ := rl.get' e2
        exact .inl ⟨p, vs, n, x, rfl, rfl, SqL.of hp, atI_of e1 rl.length g1, post x [] (by rw [RepO]; exact ⟨rfl, g2⟩) fun a h => by cases h⟩
    · rename_i l
      rw [RepO, Rep] at r1
      obtain ⟨_, p, vs, rfl, hp, rl⟩ := r1
      cases q : atI l n with
      | none => rw [q] at hf; cases hf
      | some d =>
        rw [q] at hf
        cases hf
        obtain ⟨k, e1, e2⟩ := atI_some q
        obtain ⟨x, g1, g2⟩ := rl.get' e2
        exact .inr (.inl ⟨p, vs, n, x, rfl, rfl, hp, atI_of e1 rl.length g1, post x [] (by rw [RepO]; exact ⟨rfl, g2⟩) fun a h => by cases h⟩)
    · cases hf
  · cases hf
/-- a place's datum -/
@[simp] def vP (g : Pl) : VF := fun ε => match g ε with
  | some (.fz d) => some (.o (.fz d), ε)
  | _ => none
theorem ve_p {e : Expr} {g : Pl} (h : VP X T e g) : VE X T e (vP g) := by
  refine ⟨PE.imp h.pe fun σ H Q hh => ?_⟩
  obtain ⟨M, R, ε, r, ε', ok, hf, post⟩ := hh
  unfold vP at hf
  split at hf
  · rename_i d h1
    cases hf
    refine ⟨M, R, ε, _, ok, h1, fun v F r1 _ => ?_⟩
    rw [RepO] at r1
    exact post v H M [] (Post.fz ok .refl r1.2)
  · cases hf
/-- a built-in function of a place -/
@[simp] def vPrP (p : List D → Option O) (g : Pl) : VF := fun ε => match peek (some (g ε)) with
  | some d => match p [d] with
    | some o => some (.o o, ε)
    | none => none
  | none => none
theorem peek_rep {o : O} {d : D} {v : V} (h : peek (some (some o)) = some d) (r : RepO K H A o v F) : Rep0 K H A d v := by
  cases o with
  | fz d' =>
    cases h
    rw [RepO] at r
    exact r.2.rep0
  | own l =>
    rw [peek] at h
    cases q : flatD l with
    | none => rw [q] at h; cases h
    | some ds =>
      rw [q] at h
      cases h
      rw [RepO] at r
      obtain ⟨a, vs, F', e1, h1, _, h2⟩ := r
      exact ⟨a, vs, e1, h1, h2.flat q⟩
theorem ve_callBP {x : Str} {id : String} {p : List D → Option O} {e : Expr} {g : Pl} {pn pos : Pos} (hc : CallR X (.builtin id) (rP X.K T p)) (hg : Gl X x) (hm : X.mg x = none) (hv : bootBuiltins x = some (.builtin id)) (ha : VP X T e g)
    (hn : x ≠ "__name__") (hdb : (x == ("__debug__" : Str)) = false) (he : starEach [e] X.env = (false, eval e X.env) :: starEach [] X.env := by rfl) (hpl : (backTo pos (starEach [] X.env)).any (·.1) = false := by rfl) : VE X T (.Call (.Name x pn) [e] [] pos) (vPrP p g) := by
  refine ⟨PE.imp (pe_callB hc hg hm hv (pa_cons ha.pe pa_nil he) hn hdb he hpl) fun σ H Q h => ?_⟩
  obtain ⟨M, R, ε, r, ε', ok, hf, post⟩ := h
  unfold vPrP at hf
  split at hf
  · rename_i d h1
    split at hf
    · rename_i o h2
      cases hf
      cases q : g ε with
      | none => rw [q] at h1; cases h1
      | some o1 =>
        rw [q] at h1
        exact ⟨M, R, ε, o1, ok, q, fun v F r1 f1 => ⟨M ++ R, [d], o, ok.ls, ok.tab, ⟨v, [], rfl, peek_rep h1 r1, rfl⟩, h2, fun v2 H2 F2 n => post v2 H2 M F2 (n.post ok)⟩⟩
    · cases hf
  · cases hf

/-! ### owned lists changed -/
/-- slot i's list with other items; F: what was held beside, Fr: what is held behind -/
theorem Ok.change {i : Nat} {l : List O} {Fr : List Addr} (k : Ok K T H M (F ++ R) ε σ) (e : ε[i]? = some (some (.own l))) : ∃ a vs F', σ[i]? = some (some (.ref a)) ∧ H a = some (.lst vs) ∧ a ∈ M ∧ RepOs K H (M ++ (F ++ R)) l vs F' ∧ (a :: (F' ++ F)).Nodup ∧ (∀ b ∈ F', b ∈ M) ∧
    ∀ l' vs' G Fr, (G ++ Fr).Nodup → (∀ b ∈ G ++ Fr, b ∈ F' ++ F) → RepOs K (L2.upd H a (.lst vs')) (M ++ (F ++ R)) l' vs' G → ∃ M3, Ok K T (L2.upd H a (.lst vs')) M3 (Fr ++ R) (ε.set i (some (.own l'))) σ ∧ (∀ b ∈ M3, b ∈ M ++ F) ∧ (∀ b ∈ M3, b ∉ Fr) := by
  obtain ⟨v, Fi, M1, h1, h2, h3, h4⟩ := k.take e
  have h3' := h3
  rw [RepO] at h3'
  obtain ⟨a, vs, F', rfl, ha, rfl, rl⟩ := h3'
  have nd4 := (List.nodup_append.mp h4.nd).2.1
  have ndA : (a :: (F' ++ F)).Nodup := by
    have : ((a :: F') ++ (F ++ R)).Nodup := nd4
    rw [← List.append_assoc] at this
    exact (List.nodup_append.mp this).1
  have inM : ∀ b ∈ a :: F', b ∈ M := fun b hb => h2.mem_iff.mpr (List.mem_append_left _ hb)
  refine ⟨a, vs, F', h1, ha, inM a List.mem_cons_self, rl, ndA, fun b hb => inM b (List.mem_cons_of_mem _ hb), fun l' vs' G Fr hn hs hr => ?_⟩
  have k5 : Ok K T (L2.upd H a (.lst vs')) M1 ((a :: F') ++ (F ++ R)) (ε.set i none) σ := h4.upd (List.mem_append_left _ List.mem_cons_self)
  have sub : ∀ b ∈ (a :: G) ++ (Fr ++ R), b ∈ (a :: F') ++ (F ++ R) := fun b hb => by
    rcases List.mem_append.mp hb with z | z
    · rcases List.mem_cons.mp z with rfl | z
      · exact List.mem_append_left _ List.mem_cons_self
      · rcases List.mem_append.mp (hs b (List.mem_append_left _ z)) with z | z
        · exact List.mem_append_left _ (List.mem_cons_of_mem _ z)
        · exact List.mem_append_right _ (List.mem_append_left _ z)
    · rcases List.mem_append.mp z with z | z
      · rcases List.mem_append.mp (hs b (List.mem_append_right _ z)) with z | z
        · exact List.mem_append_left _ (List.mem_cons_of_mem _ z)
        · exact List.mem_append_right _ (List.mem_append_left _ z)
      · exact List.mem_append_right _ (List.mem_append_right _ z)
  have ndR : ((a :: G) ++ (Fr ++ R)).Nodup := by
    have q : (a :: (F' ++ F) ++ R).Nodup := by
      have : ((a :: F') ++ (F ++ R)).Nodup := nd4
      rw [← List.append_assoc] at this
      exact this
    have q1 := List.nodup_append.mp q
    show (a :: (G ++ (Fr ++ R))).Nodup
    rw [← List.append_assoc]
    refine List.nodup_cons.mpr ⟨fun z => ?_, List.nodup_append.mpr ⟨hn, q1.2.1, fun x hx y hy => ?_⟩⟩
    · rcases List.mem_append.mp z with z | z
      · exact (List.nodup_cons.mp ndA).1 (hs a z)
      · exact q1.2.2 a List.mem_cons_self a z rfl
    · exact q1.2.2 x (List.mem_cons_of_mem _ (hs x hx)) y hy
  have k6 : Ok K T (L2.upd H a (.lst vs')) M1 ((a :: G) ++ (Fr ++ R)) (ε.set i none) σ := k5.other sub ndR
  obtain ⟨M3, p3, k7⟩ := k6.put' (o := .own l') (v := .ref a) (by
    rw [RepO]
    refine ⟨a, vs', G, rfl, upd_same, rfl, hr.anti (fun b hb => ?_) _ _ _⟩
    rcases List.mem_append.mp hb with z | z
    · exact List.mem_append_left _ (h2.mem_iff.mpr (List.mem_append_right _ z))
    · rcases List.mem_append.mp (sub b z) with z | z
      · exact List.mem_append_left _ (inM b z)
      · exact List.mem_append_right _ z) h1
  have mem3 : ∀ b ∈ M3, b ∈ a :: G ∨ b ∈ M1 := fun b hb => List.mem_append.mp (p3.mem_iff.mp hb)
  refine ⟨M3, k7, fun b hb => ?_, fun b hb z => k7.apart (List.mem_append_left _ z) hb⟩
  rcases mem3 b hb with z | z
  · rcases List.mem_cons.mp z with rfl | z
    · exact List.mem_append_left _ (inM _ List.mem_cons_self)
    · rcases List.mem_append.mp (hs b (List.mem_append_left _ z)) with z | z
      · exact List.mem_append_left _ (inM b (List.mem_cons_of_mem _ z))
      · exact List.mem_append_right _ z
  · exact List.mem_append_left _ (h2.mem_iff.mpr (List.mem_append_right _ z))
/-- items stay when the list at a (which is none of theirs) changes -/
theorem RepOs.upd {a : Addr} {l : List O} {vs vs' : List V} (h : RepOs K H A l vs F) (hT : Tabs T H) (hl : Lists H [a]) (ha : a ∈ A) (hn : a ∉ F) {ws : List V} : RepOs K (L2.upd H a (.lst ws)) A l vs F :=
  h.mono (T := T) keep_upd hT hl (fun b hb => by
    have e : b = a := by simpa using hb
    rw [e]; exact ha) (fun b hb => .inl hb) _ _ _ fun b hb z => by
    have e : b = a := by simpa using z
    rw [e] at hb
    exact hn hb
theorem RepO.upd {a : Addr} {o : O} {v : V} (h : RepO K H A o v F) (hT : Tabs T H) (hl : Lists H [a]) (ha : a ∈ A) (hn : a ∉ F) {ws : List V} : RepO K (L2.upd H a (.lst ws)) A o v F :=
  h.mono (T := T) keep_upd hT hl (fun b hb => by
    have e : b = a := by simpa using hb
    rw [e]; exact ha) (fun b hb => .inl hb) _ _ _ fun b hb z => by
    have e : b = a := by simpa using z
    rw [e] at hb
    exact hn hb
theorem lists1 {a : Addr} {vs : List V} (h : H a = some (.lst vs)) : Lists H [a] := fun b hb => by
  have e : b = a := by simpa using hb
  rw [e]; exact ⟨vs, h⟩
theorem Stp.upd {a : Addr} {vs : List V} (h : a ∈ M) (hs : ∀ b ∈ M', b ∈ M) : Stp T H M (L2.upd H a (.lst vs)) M' := by
  refine ⟨fun b o e hm _ => ?_, fun b o e => ?_, fun b hb => .inl (hs b hb)⟩
  · rw [upd_ne (fun z => hm (by rw [z]; exact h))]
    exact e
  · by_cases eb : b = a
    · rw [eb]; exact ⟨_, upd_same⟩
    · rw [upd_ne eb]; exact ⟨o, e⟩

@[simp] def vApp (i : Nat) (f : VF) : VF := fun ε => match ε[i]? with
  | some (some (.own _)) => match f ε with
    | some (.o o, ε1) => match ε1[i]? with
      | some (some (.own l)) => if room l.length then some (.o (.fz .non), ε1.set i (some (.own (l ++ [o])))) else none
      | _ => none
    | _ => none
  | _ => none
theorem room_lt {n : Nat} (h : room n = true) : n < sizeLine := by
  have h := of_decide_eq_true ((room_eq n).symm.trans h)
  rw [sizeLine_eq]
  omega
theorem ve_app {i : Nat} {x : Str} {o e : Expr} {f : VF} {apos cpos : Pos} (ho : PE X o (tVar i)) (he : PE X (.Call (.Attribute o "append" apos) [e] [] cpos) (tBM X.K "list" rAppend (tVar i) (fun σ H Q => chain X.K T [f] σ H Q))) : VE X T (.Call (.Attribute o "append" apos) [e] [] cpos) (vApp i f) := by
  refine ⟨PE.imp he fun σ H Q h => ?_⟩
  obtain ⟨M, R, ε, r, ε', ok, hf, post⟩ := h
  unfold vApp at hf
  split at hf
  · rename_i l0 e0
    split at hf
    · rename_i o1 ε1 h1
      split at hf
      · rename_i l e1
        split at hf
        · rename_i hr
          cases hf
          obtain ⟨v, F0, g1, g2, g3⟩ := ok.rep.get e0
          rw [RepO] at g2
          obtain ⟨a0, vs0, _, rfl, ha0, _, _⟩ := g2
          refine ⟨_, g1, .inl ⟨rfl, vs0, SqL.of ha0⟩, ?_⟩
          refine ⟨M, R, ε, .o o1, ε1, ok, h1, fun y H1 M1 F1 p1 => ?_⟩
          have p1 : Post _ T H M R ε1 σ o1 y H1 M1 F1 := p1
          obtain ⟨a, vs, F', c1, c2, c3, c4, c5, c6, c7⟩ := Ok.change (Fr := []) p1.ok e1
          rw [g1] at c1
          cases c1
          have nF' : a0 ∉ F' := fun z => (List.nodup_cons.mp c5).1 (List.mem_append_left _ z)
          have nF1 : a0 ∉ F1 := fun z => (List.nodup_cons.mp c5).1 (List.mem_append_right _ z)
          refine ⟨a0, vs, y, rfl, rfl, c2, ?_, ?_⟩
          · rw [c4.length]
            exact room_lt hr
          · have hA : a0 ∈ M1 ++ (F1 ++ R) := List.mem_append_left _ c3
            obtain ⟨M3, k3, s3, _⟩ := c7 (l ++ [o1]) (vs ++ [y]) (F' ++ (F1 ++ [])) [] (by rw [List.append_nil, List.append_nil]; exact (List.nodup_cons.mp c5).2) (fun b hb => by simpa using hb)
              (RepOs.append (c4.upd (vs' := vs) p1.ok.tab (lists1 c2) hA nF') (by
                rw [RepOs]
                exact ⟨y, [], F1, [], rfl, rfl, p1.rep.upd p1.ok.tab (lists1 c2) hA nF1, by rw [RepOs]; exact ⟨rfl, rfl⟩⟩))
            refine post _ _ M3 [] (Post.fz k3 (p1.stp.trans (Stp.upd (List.mem_append_left _ c3) s3)) (by rw [Rep]))
        · cases hf
      · cases hf
    · cases hf
  · cases hf
end
end
end VS


set_option Elab.async false
set_option linter.all false
/-! VS6: defs and their calls. -/
namespace VS
noncomputable section
open PySem PySem.Spec PyProof.Rows L2
section
variable {K : PySem.W.Frag} {T : List Addr} {P : List Nat} {H H' H'' : Hp} {M M' M'' R R' F F' A A' : List Addr} {ε ε' : Env'} {σ σ' σ'' : L2.St} {X : Cx}

/-- a def by data: its arguments; its value, and what its parameters' own lists are behind it -/
abbrev Fn := List O → Option (O × List (Option O))
def spF (K : PySem.W.Frag) (T : List Addr) (n : Nat) (F : Fn) : Sp := fun vs H Q _ => ∃ R os Fo r fin, Ok K T H Fo R (os.map some) (vs.map some) ∧ vs.length = n ∧ F os = some (r, fin) ∧
  ∀ v H' Ff Fr, Post K T H Fo R fin (vs.map some) r v H' Ff Fr → Q v H'
@[simp] def mkFn (n N : Nat) (P : List Nat) (body : SF) : Fn := fun os => if os.length = n then
    match body (os.map some ++ List.replicate (N - n) none) with
    | some (.rt o, ε) => some (o, wipeE (ε.take n) (notIn P n))
    | some (.nx, ε) => some (.fz .non, wipeE (ε.take n) (notIn P n))
    | _ => none
  else none

theorem RepE.swap : ∀ {ε : Env'} {σ σ' : L2.St} {F : List Addr}, RepE K H A ε σ F → σ'.length = σ.length → (∀ (i : Nat) (o : O), ε[i]? = some (some o) → σ'[i]? = σ[i]?) → RepE K H A ε σ' F
  | [], σ, σ', F, h, hl, _ => by
    rw [RepE] at h ⊢
    obtain ⟨rfl, h⟩ := h
    exact ⟨List.length_eq_zero_iff.mp hl, h⟩
  | none :: ε, _, σ', F, h, hl, he => by
    rw [RepE] at h ⊢
    obtain ⟨x, r, rfl, h⟩ := h
    cases σ' with
    | nil => simp at hl
    | cons y r' => exact ⟨y, r', rfl, RepE.swap h (by simpa using hl) fun i o e => by simpa using he (i + 1) o (by simpa using e)⟩
  | some o :: ε, _, σ', _, h, hl, he => by
    rw [RepE] at h ⊢
    obtain ⟨v, r, F1, F2, rfl, rfl, h1, h2⟩ := h
    cases σ' with
    | nil => simp at hl
    | cons y r' =>
      have e0 := he 0 o rfl
      simp at e0
      subst e0
      exact ⟨v, r', F1, F2, rfl, rfl, h1, RepE.swap h2 (by simpa using hl) fun i o e => by simpa using he (i + 1) o (by simpa using e)⟩
theorem RepE.pad : ∀ {ε : Env'} {σ τ : L2.St} {F : List Addr}, RepE K H A ε σ F → RepE K H A (ε ++ List.replicate τ.length none) (σ ++ τ) F
  | [], σ, τ, F, h => by
    rw [RepE] at h
    obtain ⟨rfl, rfl⟩ := h
    show RepE K H A (List.replicate τ.length none) τ []
    induction τ with
    | nil => rw [List.length_nil, List.replicate_zero, RepE]; exact ⟨rfl, rfl⟩
    | cons x τ ih => rw [List.length_cons, List.replicate_succ, RepE]; exact ⟨x, τ, rfl, ih⟩
  | none :: ε, _, τ, F, h => by
    rw [RepE] at h
    obtain ⟨x, r, rfl, h⟩ := h
    show RepE K H A (none :: (ε ++ _)) (x :: (r ++ τ)) F
    rw [RepE]
    exact ⟨x, _, rfl, RepE.pad h⟩
  | some o :: ε, _, τ, _, h => by
    rw [RepE] at h
    obtain ⟨v, r, F1, F2, rfl, rfl, h1, h2⟩ := h
    show RepE K H A (some o :: (ε ++ _)) (some v :: (r ++ τ)) _
    rw [RepE]
    exact ⟨v, _, F1, F2, rfl, rfl, h1, RepE.pad h2⟩
theorem RepE.first : ∀ {ε : Env'} {σ : L2.St} {F : List Addr} (n : Nat), RepE K H A ε σ F → ∃ G, G.Sublist F ∧ RepE K H A (ε.take n) (σ.take n) G
  | _, _, F, 0, h => ⟨[], List.nil_sublist _, by rw [List.take_zero, List.take_zero, RepE]; exact ⟨rfl, rfl⟩⟩
  | [], _, F, n + 1, h => by
    rw [RepE] at h
    obtain ⟨rfl, rfl⟩ := h
    exact ⟨[], List.nil_sublist _, by rw [List.take_nil, List.take_nil, RepE]; exact ⟨rfl, rfl⟩⟩
  | none :: ε, _, F, n + 1, h => by
    rw [RepE] at h
    obtain ⟨x, r, rfl, h⟩ := h
    obtain ⟨G, h1, h2⟩ := RepE.first n h
    exact ⟨G, h1, by rw [List.take_succ_cons, List.take_succ_cons, RepE]; exact ⟨x, _, rfl, h2⟩⟩
  | some o :: ε, _, _, n + 1, h => by
    rw [RepE] at h
    obtain ⟨v, r, F1, F2, rfl, rfl, h1, h2⟩ := h
    obtain ⟨G, h3, h4⟩ := RepE.first n h2
    exact ⟨F1 ++ G, (List.Sublist.refl _).append h3, by rw [List.take_succ_cons, List.take_succ_cons, RepE]; exact ⟨v, _, F1, G, rfl, rfl, h1, h4⟩⟩
theorem wipeE_get {ε : Env'} {i : Nat} {o : O} : ∀ {vs : List Nat}, (wipeE ε vs)[i]? = some (some o) → i ∉ vs ∧ ε[i]? = some (some o)
  | [], h => ⟨by simp, h⟩
  | v :: vs, h => by
    unfold wipeE at h
    by_cases e : v = i
    · subst e
      by_cases hv : v < (wipeE ε vs).length
      · rw [List.getElem?_set_self hv] at h; cases h
      · rw [List.getElem?_eq_none (by simpa using hv)] at h; cases h
    · rw [List.getElem?_set_ne e] at h
      obtain ⟨h1, h2⟩ := wipeE_get h
      exact ⟨by simp only [List.mem_cons, not_or]; exact ⟨fun z => e z.symm, h1⟩, h2⟩
theorem Ok.setSome (k : Ok K T H M R ε σ) (hl : σ'.length = σ.length) (h : ∀ (i : Nat) (o : O), ε[i]? = some (some o) → σ'[i]? = σ[i]?) : Ok K T H M R ε σ' := ⟨k.rep.swap hl h, k.nd, k.ls, k.tab⟩
/-- behind the body: the parameters -/
theorem Ok.params {n : Nat} {vs : List V} {N : List Str} (k : Ok K T H M R ε σ) (hn : vs.length = n) (hN : n ≤ N.length) (pr : Same' P (L2.start N vs) σ) : ∃ Ff, (∀ a ∈ Ff, a ∈ M) ∧ Ok K T H Ff R (wipeE (ε.take n) (notIn P n)) (vs.map some) := by
  obtain ⟨G, hs, hr⟩ := k.rep.first n
  have sub : ∀ a ∈ G, a ∈ M := fun a ha => hs.mem ha
  have ok1 : Ok K T H G R (ε.take n) (σ.take n) := by
    refine ⟨hr.anti fun a ha => (List.mem_append.mp ha).elim (fun z => List.mem_append_left _ (sub a z)) fun z => List.mem_append_right _ z, ?_, ?_, k.tab⟩
    · exact k.nd.sublist (hs.append (List.Sublist.refl _))
    · exact k.ls.sub fun a ha => (List.mem_append.mp ha).elim (fun z => List.mem_append_left _ (sub a z)) fun z => List.mem_append_right _ z
  obtain ⟨M2, s2, ok2⟩ := ok1.wipe (notIn P n)
  have hst : (L2.start N vs).length = N.length := by
    unfold L2.start
    rw [List.length_append, List.length_map, List.length_replicate]
    omega
  have hl : σ.length = N.length := pr.1.trans hst
  refine ⟨M2, fun a ha => sub a (s2 a ha), ok2.setSome ?_ fun i o e => ?_⟩
  · rw [List.length_map, wipe_length, List.length_take]
    omega
  · obtain ⟨h1, h2⟩ := wipeE_get e
    have hi : i < n := by
      obtain ⟨q, _⟩ := List.getElem?_eq_some_iff.mp h2
      rw [List.length_take] at q
      omega
    have hP : i ∈ P := by
      by_cases z : i ∈ P
      · exact z
      · exact absurd (notIn_mem hi z) h1
    rw [wipe_idem_aux, if_neg h1, List.getElem?_take_of_lt hi, pr.2 i hP]
    unfold L2.start
    rw [List.getElem?_append_left (by rw [List.length_map]; omega)]
theorem Post.params {n : Nat} {vs : List V} {N : List Str} {o : O} {v : V} {H0 : Hp} {M0 : List Addr} (p : Post K T H0 M0 R ε σ o v H M F) (hn : vs.length = n) (hN : n ≤ N.length) (pr : Same' P (L2.start N vs) σ) : ∃ Ff, Post K T H0 M0 R (wipeE (ε.take n) (notIn P n)) (vs.map some) o v H Ff F := by
  obtain ⟨Ff, h1, h2⟩ := p.ok.params hn hN pr
  refine ⟨Ff, h2, p.stp.less fun a ha => ?_, p.rep.anti (fun a ha => ?_) _ _ _⟩
  · exact (List.mem_append.mp ha).elim (fun z => List.mem_append_left _ (h1 a z)) fun z => List.mem_append_right _ z
  · exact (List.mem_append.mp ha).elim (fun z => List.mem_append_left _ (h1 a z)) fun z => List.mem_append_right _ z
/-- a def, by its body -/
theorem fnOk_of {Pg : Program} {w : World} {mg : Str → Option Value} {base : Heap} {x qual : Str} {st : Stmt} {f : Addr} {fd : FuncData} {N ps : List Str} {k n : Nat} {body : SF} (Fu : Fun K x qual st f fd) (S : FnScope N ps (defScope st)) (hn : ps.length = n)
    (h : ∀ X : Cx, X.prog = Pg → X.w = w → X.K = K → X.mg = mg → X.base = base → X.N = N → X.env.scope = defScope st → X.calm = true → Room k X.A → (X.xe = fun _ _ => False) → (X.fn = fun _ => true) → VSs X T P (defBody st) body) :
    FnOk Pg w K mg base CX0 (k + 1) f fd ps (spF K T n (mkFn n N.length P body)) := by
  have hpl : n ≤ N.length := by
    have := congrArg List.length S.pre
    rw [List.length_take, hn] at this
    omega
  refine Fu.ok S (fun vs H Q E h => ?_) (fun cdv A outer s H vs Q E hr hh => ?_)
  · obtain ⟨R, os, Fo, r, fin, ok, hv, _⟩ := h
    rw [hv, hn]
  · obtain ⟨R, os, Fo, r, fin, ok, hv, hF, post⟩ := hh
    refine ⟨_, (h _ rfl rfl rfl rfl rfl rfl rfl rfl hr rfl rfl).ps, ?_⟩
    have hlo : os.length = n := by
      have := ok.len
      rw [List.length_map, List.length_map] at this
      omega
    unfold mkFn at hF
    rw [if_pos hlo] at hF
    have ok0 : Ok K T H Fo R (os.map some ++ List.replicate (N.length - n) none) (L2.start N vs) := by
      have q := ok.rep.pad (τ := List.replicate (N.length - vs.length) none)
      rw [List.length_replicate, hv] at q
      refine ⟨?_, ok.nd, ok.ls, ok.tab⟩
      unfold L2.start
      rw [hv]
      exact q
    split at hF
    · rename_i o ε hb
      cases hF
      refine ⟨Fo, R, _, .rt r, ε, ok0, hb, fun σ' v H' M' F e => ?_⟩
      obtain ⟨Ff, q⟩ := e.post.params hv hpl e.pr
      exact post v H' Ff F q
    · rename_i ε hb
      cases hF
      refine ⟨Fo, R, _, .nx, ε, ok0, hb, fun σ' H' M' e => ?_⟩
      obtain ⟨Ff, q⟩ := Post.params (Post.fz (d := .non) (v := .non) e.ok e.stp (by rw [Rep])) hv hpl e.pr
      exact post _ H' Ff [] q
    · cases hF

/-! ### a call -/
@[simp] def takeArgs : List Ro → Env' → Option (List O × Env')
  | [], ε => some ([], ε)
  | .o o :: rs, ε => match takeArgs rs ε with
    | some (os, ε') => some (o :: os, ε')
    | none => none
  | .b i :: rs, ε => match ε[i]? with
    | some (some o) => match takeArgs rs (ε.set i none) with
      | some (os, ε') => some (o :: os, ε')
      | none => none
    | _ => none
@[simp] def putArgs : List Ro → List (Option O) → Env' → Env'
  | .o _ :: rs, _ :: fin, ε => putArgs rs fin ε
  | .b i :: rs, some o :: fin, ε => putArgs rs fin (ε.set i (some o))
  | .b i :: rs, none :: fin, ε => putArgs rs fin (ε.set i none)
  | _, _, ε => ε
@[simp] def vCall (G : Fn) (fs : List VF) : VF := fun ε => match evs fs ε with
  | some (rs, ε1) => match takeArgs rs ε1 with
    | some (os, ε2) => match G os with
      | some (r, fin) => some (.o r, putArgs rs fin ε2)
      | none => none
    | none => none
  | none => none
theorem sw (a b c : List Addr) : (a ++ (b ++ c)).Perm (b ++ (a ++ c)) := by
  rw [← List.append_assoc, ← List.append_assoc]
  exact List.Perm.append_right _ List.perm_append_comm
theorem takeArgs_ok : ∀ {rs : List Ro} {ε ε' : Env'} {os : List O} {vs : List V} {M F G : List Addr}, Ok K T H M (F ++ (G ++ R)) ε σ → Held K H A σ rs vs F → (∀ a ∈ M ++ (F ++ (G ++ R)), a ∈ A) → takeArgs rs ε = some (os, ε') →
    ∃ Fo M', RepOs K H (M ++ (F ++ (G ++ R))) os vs Fo ∧ Ok K T H M' (Fo ++ (G ++ R)) ε' σ ∧ (M' ++ Fo).Perm (M ++ F)
  | [], ε, ε', os, vs, M, F, G, ok, h, hA, e => by
    cases e
    obtain ⟨rfl, rfl⟩ := h
    exact ⟨[], M, by rw [RepOs]; exact ⟨rfl, rfl⟩, ok, .refl _⟩
  | .o o :: rs, ε, ε', os, vs, M, F, G, ok, hh, hA, e => by
    obtain ⟨v, r, F1, F2, rfl, rfl, h1, h2⟩ := hh
    rw [takeArgs] at e
    split at e
    · rename_i os' ε2 e2
      cases e
      have pm : (F2 ++ ((F1 ++ G) ++ R)).Perm ((F1 ++ F2) ++ (G ++ R)) := by
        simp only [List.append_assoc]
        exact sw _ _ _
      have ok2 : Ok K T H M (F2 ++ ((F1 ++ G) ++ R)) ε σ := ok.other (fun a ha => pm.mem_iff.mp ha) (pm.nodup_iff.mpr (List.nodup_append.mp ok.nd).2.1)
      obtain ⟨Fo, M', g1, g2, g3⟩ := takeArgs_ok ok2 h2 (fun a ha => hA a ((List.Perm.append_left M pm).mem_iff.mp ha)) e2
      have pm2 : (Fo ++ ((F1 ++ G) ++ R)).Perm ((F1 ++ Fo) ++ (G ++ R)) := by
        simp only [List.append_assoc]
        exact sw _ _ _
      refine ⟨F1 ++ Fo, M', ?_, g2.other (fun a ha => pm2.mem_iff.mpr ha) (pm2.nodup_iff.mp (List.nodup_append.mp g2.nd).2.1), ?_⟩
      · rw [RepOs]
        exact ⟨v, r, F1, Fo, rfl, rfl, h1.anti hA _ _ _, g1.anti (fun a ha => (List.Perm.append_left M pm).mem_iff.mpr ha) _ _ _⟩
      · have q : (M' ++ (F1 ++ Fo)).Perm (F1 ++ (M' ++ Fo)) := by
          rw [← List.append_assoc, ← List.append_assoc]
          exact List.Perm.append_right _ List.perm_append_comm
        refine q.trans ((List.Perm.append_left F1 g3).trans ?_)
        rw [← List.append_assoc, ← List.append_assoc]
        exact List.Perm.append_right _ List.perm_append_comm
    · cases e
  | .b i :: rs, ε, ε', os, vs, M, F, G, ok, hh, hA, e => by
    obtain ⟨v, r, rfl, hi, h2⟩ := hh
    rw [takeArgs] at e
    split at e
    · rename_i o ho
      split at e
      · rename_i os' ε2 e2
        cases e
        obtain ⟨v', Fi, M1, c1, c2, c3, c4⟩ := ok.take ho
        rw [hi] at c1
        cases c1
        have pm : (F ++ ((Fi ++ G) ++ R)).Perm (Fi ++ (F ++ (G ++ R))) := by
          simp only [List.append_assoc]
          exact sw _ _ _
        have ok2 : Ok K T H M1 (F ++ ((Fi ++ G) ++ R)) (ε.set i none) σ := c4.other (fun a ha => pm.mem_iff.mp ha) (pm.nodup_iff.mpr (List.nodup_append.mp c4.nd).2.1)
        have pm0 : (M1 ++ (F ++ ((Fi ++ G) ++ R))).Perm (M ++ (F ++ (G ++ R))) := by
          refine (List.Perm.append_left M1 pm).trans ?_
          rw [← List.append_assoc]
          exact List.Perm.append_right _ (List.perm_append_comm.trans c2.symm)
        obtain ⟨Fo, M', g1, g2, g3⟩ := takeArgs_ok ok2 h2 (fun a ha => hA a (pm0.mem_iff.mp ha)) e2
        have pm2 : (Fo ++ ((Fi ++ G) ++ R)).Perm ((Fi ++ Fo) ++ (G ++ R)) := by
          simp only [List.append_assoc]
          exact sw _ _ _
        refine ⟨Fi ++ Fo, M', ?_, g2.other (fun a ha => pm2.mem_iff.mpr ha) (pm2.nodup_iff.mp (List.nodup_append.mp g2.nd).2.1), ?_⟩
        · rw [RepOs]
          exact ⟨v, r, Fi, Fo, rfl, rfl, c3, g1.anti (fun a ha => pm0.mem_iff.mpr ha) _ _ _⟩
        · have q : (M' ++ (Fi ++ Fo)).Perm (Fi ++ (M' ++ Fo)) := by
            rw [← List.append_assoc, ← List.append_assoc]
            exact List.Perm.append_right _ List.perm_append_comm
          refine q.trans ((List.Perm.append_left Fi g3).trans ?_)
          rw [← List.append_assoc]
          exact List.Perm.append_right _ c2.symm
      · cases e
    · cases e
theorem RepOs.slots : ∀ {os : List O} {vs : List V} {F : List Addr}, RepOs K H A os vs F → RepE K H A (os.map some) (vs.map some) F
  | [], vs, F, h => by
    rw [RepOs] at h
    obtain ⟨rfl, rfl⟩ := h
    rw [List.map_nil, List.map_nil, RepE]
    exact ⟨rfl, rfl⟩
  | o :: os, _, _, h => by
    rw [RepOs] at h
    obtain ⟨v, r, F1, F2, rfl, rfl, h1, h2⟩ := h
    rw [List.map_cons, List.map_cons, RepE]
    exact ⟨v, _, F1, F2, rfl, rfl, h1, RepOs.slots h2⟩
theorem putArgs_ok : ∀ {rs : List Ro} {fin : List (Option O)} {vs : List V} {ε : Env'} {M Ff F0 : List Addr}, Ok K T H M (Ff ++ R) ε σ → Held K H' A' σ rs vs F0 → RepE K H A fin (vs.map some) Ff → (∀ a ∈ M ++ (Ff ++ R), a ∈ A) → ∃ M3, Ok K T H M3 R (putArgs rs fin ε) σ ∧ ∀ a ∈ M3, a ∈ M ++ Ff
  | [], fin, vs, ε, M, Ff, F0, ok, h, hf, hA => by
    obtain ⟨rfl, _⟩ := h
    rw [putArgs]
    · exact ⟨M, ok.drop, fun a h => List.mem_append_left _ h⟩
    all_goals (intros; simp_all)
  | .o o :: rs, [], vs, ε, M, Ff, F0, ok, hh, hf, hA => by
    obtain ⟨v, r, F1, F2, rfl, rfl, h1, h2⟩ := hh
    rw [RepE] at hf
    exact absurd hf.1 (by simp)
  | .b i :: rs, [], vs, ε, M, Ff, F0, ok, hh, hf, hA => by
    obtain ⟨v, r, rfl, h1, h2⟩ := hh
    rw [RepE] at hf
    exact absurd hf.1 (by simp)
  | .o o :: rs, none :: fin, vs, ε, M, Ff, F0, ok, hh, hf, hA => by
    obtain ⟨v, r, F1, F2, rfl, rfl, h1, h2⟩ := hh
    rw [List.map_cons, RepE] at hf
    obtain ⟨x, r', e, hf⟩ := hf
    cases e
    rw [putArgs]
    exact putArgs_ok ok h2 hf hA
  | .o o :: rs, some p :: fin, vs, ε, M, _, F0, ok, hh, hf, hA => by
    obtain ⟨v, r, F1, F2, rfl, rfl, h1, h2⟩ := hh
    rw [List.map_cons, RepE] at hf
    obtain ⟨v', r', G1, G2, e, rfl, hp, hf⟩ := hf
    cases e
    rw [putArgs]
    have ok2 : Ok K T H M (G2 ++ R) ε σ := Ok.drop (F := G1) (by rw [List.append_assoc] at ok; exact ok)
    obtain ⟨M3, g1, g2⟩ := putArgs_ok ok2 h2 hf fun a ha => hA a (by
      rcases List.mem_append.mp ha with z | z
      · exact List.mem_append_left _ z
      · rw [List.append_assoc]
        exact List.mem_append_right _ (List.mem_append_right _ z))
    exact ⟨M3, g1, fun a ha => (List.mem_append.mp (g2 a ha)).elim (fun z => List.mem_append_left _ z) fun z => List.mem_append_right _ (List.mem_append_right _ z)⟩
  | .b i :: rs, none :: fin, vs, ε, M, Ff, F0, ok, hh, hf, hA => by
    obtain ⟨v, r, rfl, hi, h2⟩ := hh
    rw [List.map_cons, RepE] at hf
    obtain ⟨x, r', e, hf⟩ := hf
    cases e
    rw [putArgs]
    obtain ⟨M1, s1, ok1⟩ := ok.setNone i
    obtain ⟨M3, g1, g2⟩ := putArgs_ok ok1 h2 hf fun a ha => hA a ((List.mem_append.mp ha).elim (fun z => List.mem_append_left _ (s1 a z)) fun z => List.mem_append_right _ z)
    exact ⟨M3, g1, fun a ha => (List.mem_append.mp (g2 a ha)).elim (fun z => List.mem_append_left _ (s1 a z)) fun z => List.mem_append_right _ z⟩
  | .b i :: rs, some p :: fin, vs, ε, M, _, F0, ok, hh, hf, hA => by
    obtain ⟨v, r, rfl, hi, h2⟩ := hh
    rw [List.map_cons, RepE] at hf
    obtain ⟨v', r', G1, G2, e, rfl, hp, hf⟩ := hf
    cases e
    rw [putArgs]
    obtain ⟨M1, s1, ok1⟩ := ok.setNone i
    have ok2 : Ok K T H M1 (G1 ++ (G2 ++ R)) (ε.set i none) σ := by
      rw [List.append_assoc] at ok1
      exact ok1
    obtain ⟨M2, p2, ok3⟩ := ok2.put' (o := p) (v := v) (hp.anti (fun a ha => hA a (by
      rcases List.mem_append.mp ha with z | z
      · exact List.mem_append_left _ (s1 a z)
      · rw [List.append_assoc]
        exact List.mem_append_right _ z)) _ _ _) hi
    have m2 : ∀ a ∈ M2, a ∈ M ++ (G1 ++ G2) := fun a ha => by
      rcases List.mem_append.mp (p2.mem_iff.mp ha) with z | z
      · exact List.mem_append_right _ (List.mem_append_left _ z)
      · exact List.mem_append_left _ (s1 a z)
    obtain ⟨M3, g1, g2⟩ := putArgs_ok ok3 h2 hf fun a ha => hA a (by
      rcases List.mem_append.mp ha with z | z
      · rcases List.mem_append.mp (m2 a z) with z | z
        · exact List.mem_append_left _ z
        · exact List.mem_append_right _ (List.mem_append_left _ z)
      · rw [List.append_assoc]
        exact List.mem_append_right _ (List.mem_append_right _ z))
    refine ⟨M3, g1, fun a ha => ?_⟩
    rcases List.mem_append.mp (g2 a ha) with z | z
    · exact m2 a z
    · exact List.mem_append_right _ (List.mem_append_right _ z)

/-- the call, behind its arguments -/
theorem call_of {G : Fn} {n : Nat} {fs : List VF} {H : Hp} {Q : VK} {E : XK} (hl : fs.length = n) (h : tV K T (vCall G fs) σ H Q) : chain K T fs σ H fun vs H1 => spF K T n G vs H1 Q E := by
  obtain ⟨M, R, ε, r, ε', ok, hf, post⟩ := h
  unfold vCall at hf
  split at hf
  · rename_i rs ε1 h1
    split at hf
    · rename_i os ε2 h2
      split at hf
      · rename_i rr fin h3
        cases hf
        refine chain_of ok h1 fun vs H1 M1 F1 p => ?_
        have hA : ∀ a ∈ M1 ++ (F1 ++ ([] ++ R)), a ∈ M1 ++ (F1 ++ R) := fun a h => h
        obtain ⟨Fo, M2, g1, g2, g3⟩ := takeArgs_ok (G := []) p.ok p.rep hA h2
        have g2 : Ok K T H1 M2 (Fo ++ R) ε2 σ := g2
        have pm : (Fo ++ (M2 ++ R)).Perm (M2 ++ (Fo ++ R)) := by
          rw [← List.append_assoc, ← List.append_assoc]
          exact List.Perm.append_right _ List.perm_append_comm
        have pmA : (Fo ++ (M2 ++ R)).Perm (M1 ++ (F1 ++ R)) := by
          refine pm.trans ?_
          rw [← List.append_assoc, ← List.append_assoc]
          exact List.Perm.append_right _ g3
        have okc : Ok K T H1 Fo (M2 ++ R) (os.map some) (vs.map some) := ⟨(g1.anti (fun a ha => pmA.mem_iff.mp ha) _ _ _).slots, pm.nodup_iff.mpr g2.nd, g2.ls.sub fun a ha => pm.mem_iff.mp ha, g2.tab⟩
        have hlen : vs.length = n := by
          rw [← hl]
          have e1 : rs.length = fs.length := by
            clear post p okc pmA pm g1 g2 g3 hA h2 h3 ok hl
            induction fs generalizing ε rs ε1 with
            | nil => cases h1; rfl
            | cons f fs ih =>
              rw [evs] at h1
              split at h1
              · split at h1
                · rename_i rs' ε3 h5
                  cases h1
                  rw [List.length_cons, List.length_cons, ih _ _ _ h5]
                · cases h1
              · cases h1
          rw [← e1]
          have e2 : ∀ {rs : List Ro} {vs : List V} {F : List Addr} {A : List Addr}, Held K H1 A σ rs vs F → vs.length = rs.length := by
            intro rs
            induction rs with
            | nil => intro vs F A h; rw [h.1]; rfl
            | cons r rs ih =>
              intro vs F A h
              cases r with
              | o o =>
                obtain ⟨v, r, F1, F2, rfl, _, _, h⟩ := h
                rw [List.length_cons, List.length_cons, ih h]
              | b i =>
                obtain ⟨v, r, rfl, _, h⟩ := h
                rw [List.length_cons, List.length_cons, ih h]
          exact e2 p.rep
        refine ⟨M2 ++ R, os, Fo, rr, fin, okc, hlen, h3, fun v H2 Ff Fr q => ?_⟩
        -- back at the caller
        have sA : Stp T H M H1 (M2 ++ Fo) := p.stp.less fun a ha => g3.mem_iff.mp ha
        have ok3 : Ok K T H2 M2 (Ff ++ (Fr ++ R)) ε2 σ := by
          have pq : (M2 ++ (Ff ++ (Fr ++ R))).Perm (Ff ++ (Fr ++ (M2 ++ R))) := by
            have sw : ∀ a b c : List Addr, (a ++ (b ++ c)).Perm (b ++ (a ++ c)) := fun a b c => by
              rw [← List.append_assoc, ← List.append_assoc]
              exact List.Perm.append_right _ List.perm_append_comm
            exact (sw M2 Ff (Fr ++ R)).trans (List.Perm.append_left Ff (sw M2 Fr R))
          refine ⟨?_, pq.nodup_iff.mpr q.ok.nd, q.ok.ls.sub fun a ha => pq.mem_iff.mp ha, q.ok.tab⟩
          refine g2.rep.mono q.stp.keep g2.tab okc.ls1 (fun a ha => List.mem_append_right _ (List.mem_append_left _ ha)) (fun a ha => ?_) fun a ha z => g2.apart (List.mem_append_left _ z) ha
          rcases List.mem_append.mp (pq.mem_iff.mp ha) with z | z
          · rcases q.stp.sub a (List.mem_append_left _ z) with z | z
            · exact .inl (List.mem_append_right _ (List.mem_append_left _ z))
            · exact .inr z
          · rcases List.mem_append.mp z with z | z
            · rcases q.stp.sub a (List.mem_append_right _ z) with z | z
              · exact .inl (List.mem_append_right _ (List.mem_append_left _ z))
              · exact .inr z
            · exact .inl (pm.mem_iff.mp (List.mem_append_right _ z))
        have hAA : ∀ a ∈ M2 ++ (Ff ++ (Fr ++ R)), a ∈ Ff ++ (Fr ++ (M2 ++ R)) := fun a ha => by
          simp only [List.mem_append] at ha ⊢
          rcases ha with z | z | z | z <;> simp [z]
        obtain ⟨M3, k3, s3⟩ := putArgs_ok (fin := fin) ok3 p.rep q.ok.rep hAA
        refine post v H2 M3 Fr ⟨k3, ⟨fun b o e hm ht => ?_, fun b o e => ?_, fun a ha => ?_⟩, q.rep.anti (fun a ha => ?_) _ _ _⟩
        · refine q.stp.keep b o (p.stp.keep b o e hm ht) (fun z => ?_) ht
          rcases sA.sub b (List.mem_append_right _ z) with z | z
          · exact hm z
          · rw [e] at z; cases z
        · obtain ⟨o', e'⟩ := p.stp.live b o e
          exact q.stp.live b o' e'
        · have go : a ∈ Ff ++ Fr → a ∈ M ∨ H a = none := fun z => (q.stp.sub a z).elim (fun z => sA.sub a (List.mem_append_right _ z)) fun z => .inr (p.stp.back z)
          rcases List.mem_append.mp ha with z | z
          · rcases List.mem_append.mp (s3 a z) with z | z
            · exact sA.sub a (List.mem_append_left _ z)
            · exact go (List.mem_append_left _ z)
          · exact go (List.mem_append_right _ z)
        · rcases List.mem_append.mp ha with z | z
          · rcases List.mem_append.mp (s3 a z) with z | z
            · exact List.mem_append_right _ (List.mem_append_right _ (List.mem_append_left _ z))
            · exact List.mem_append_left _ z
          · rcases List.mem_append.mp z with z | z
            · exact List.mem_append_right _ (List.mem_append_left _ z)
            · exact List.mem_append_right _ (List.mem_append_right _ (List.mem_append_right _ z))
      · cases hf
    · cases hf
  · cases hf
theorem chain_mono : ∀ {fs : List VF} {H : Hp} {k k' : List V → Hp → Prop}, chain K T fs σ H k → (∀ vs H, k vs H → k' vs H) → chain K T fs σ H k'
  | [], H, k, k', h, i => i _ _ h
  | f :: fs, H, k, k', ⟨M, R, ε, r, ε', ok, hf, post⟩, i => ⟨M, R, ε, r, ε', ok, hf, fun v H' M' F p => chain_mono (post v H' M' F p) fun vs H2 h => i _ _ h⟩
theorem ve_call {x : Str} {f : Addr} {fd : FuncData} {ps : List Str} {n k : Nat} {G : Fn} {e : Expr} {es : List Expr} {fs : List VF} {p pos : Pos} (Fk : FnOk X.prog X.w X.K X.mg X.base CX0 k f fd ps (spF X.K T n G)) (hr : Room k X.A) (hg : Gl X x) (hm : X.mg x = some (.ref f)) (hk : PySem.W.keepIn X.K (.ref f) = true) (hb : Binds X.K fd ps [])
    (ha : VA X T (e :: es) fs) (hl : fs.length = n) (hdb : (x == ("__debug__" : Str)) = false) (he : starEach (e :: es) X.env = (false, eval e X.env) :: starEach es X.env := by rfl) (hpl : (backTo pos (starEach es X.env)).any (·.1) = false := by rfl) : VE X T (.Call (.Name x p) (e :: es) [] pos) (vCall G fs) := by
  refine ⟨PE.imp (pe_call Fk hr hg hm hk hb .nil pass0 ha.pa hdb he hpl) fun σ H Q h => ?_⟩
  refine chain_mono (call_of (E := E0) hl h) fun vs H1 q => ?_
  rw [List.append_nil]
  exact q
end
end
end VS


set_option Elab.async false
set_option linter.all false
/-! VS7: operators and built-in functions by data. -/
namespace VS
noncomputable section
open PySem PySem.Spec PyProof.Rows L2
section
variable {K : PySem.W.Frag} {T : List Addr} {P : List Nat} {H H' H'' : Hp} {M M' M'' R R' F F' A A' : List Addr} {ε ε' : Env'} {σ σ' σ'' : L2.St} {X : Cx}

theorem vt_cmp {a b : Expr} {op : CmpOp} {p : D → D → Option O} {f g : VF} {pos : Pos} (ho : OpR X (compareOp op) (rP2 X.K T p)) (hm : behindInMarks op b = false) (ha : VE X T a f) (hb : VE X T b g) : VT X T (.Compare a [op] [b] pos) (tVal (vBin p f g)) := by
  refine ⟨PT.imp (pt_cmpR ho ha.pe hb.pe hm) fun σ H Q h => ?_⟩
  obtain ⟨M, R, ε, b, ε', ok, hf, post⟩ := h
  unfold tVal at hf
  split at hf
  · rename_i b' ε1 h1
    cases hf
    refine tOp_of ⟨M, R, ε, _, _, ok, h1, fun v H' M' F p => ?_⟩
    obtain ⟨rfl, rfl, ok', st⟩ := Post.bool p
    exact ⟨b, rfl, post H' M' ok' st⟩
  · cases hf

/-! ### two ints -/
@[simp] def pI (c : Int → Int → Bool) (g : Int → Int → D) : D → D → Option O
  | .int i, .int j => if c i j then some (.fz (g i j)) else none
  | _, _ => none
theorem rI_of {c : Int → Int → Bool} {g : Int → Int → D} {C : Int → Int → Prop} {gv : Int → Int → V} (hC : ∀ i j, c i j = true → C i j) (hg : ∀ i j K H A, Rep K H A (g i j) (gv i j)) {x y : V} {Q : VK} (h : rP2 K T (pI c g) x y H Q) : rI C gv x y H Q := by
  obtain ⟨A, d, e, o, lA, tA, hx, hy, hp, post⟩ := h
  unfold pI at hp
  split at hp
  · rename_i i j
    split at hp
    · rename_i hc
      cases hp
      exact ⟨i, j, hx, hy, hC i j hc, post _ H [] (New.fz (hg _ _ _ _ _))⟩
    · cases hp
  · cases hp
theorem opI_of {f : Value → Value → Sem Value} {c : Int → Int → Bool} {g : Int → Int → D} {C : Int → Int → Prop} {gv : Int → Int → V} (h : OpR X f (rI C gv)) (hC : ∀ i j, c i j = true → C i j) (hg : ∀ i j K H A, Rep K H A (g i j) (gv i j)) : OpR X f (rP2 X.K T (pI c g)) :=
  OpR.imp h fun _ _ _ _ q => rI_of hC hg q
theorem opI0_of {f : Value → Value → Sem Value} {g : Int → Int → D} {gv : Int → Int → V} (h : OpR X f (rI0 gv)) (hg : ∀ i j K H A, Rep K H A (g i j) (gv i j)) : OpR X f (rP2 X.K T (pI (fun _ _ => true) g)) :=
  OpR.imp h fun _ _ _ _ q => by
    obtain ⟨i, j, e1, e2, _, q⟩ := rI_of (C := fun _ _ => True) (fun _ _ _ => trivial) hg q
    exact ⟨i, j, e1, e2, q⟩
@[simp] def pSub : D → D → Option O := pI (fun _ _ => true) fun i j => .int (i - j)
def s64 : Int → Bool := shut fun i => decide (-(2 ^ 64) < i) && decide (i < 2 ^ 64)
theorem s64_eq (i : Int) : s64 i = (decide (-(2 ^ 64) < i) && decide (i < 2 ^ 64)) := shut_eq _ i
def logOk : Int → Bool := shut fun j => decide (j.natAbs.log2 < 9000)
theorem logOk_eq (j : Int) : logOk j = decide (j.natAbs.log2 < 9000) := shut_eq _ j
def powOk : Int × Int → Bool := shut fun p => decide (0 ≤ p.2) && decide (p.2 ≤ 1000000) && decide (p.1.natAbs < 2 ^ 64)
theorem powOk_eq (i j : Int) : powOk (i, j) = (decide (0 ≤ j) && decide (j ≤ 1000000) && decide (i.natAbs < 2 ^ 64)) := shut_eq _ _
@[simp] def pMul : D → D → Option O := pI (fun i j => s64 i || s64 j) fun i j => .int (i * j)
@[simp] def pDiv : D → D → Option O := pI (fun _ j => decide (0 < j) && logOk j) fun i j => .int (i / j)
@[simp] def pMod : D → D → Option O := pI (fun _ j => decide (0 < j)) fun i j => .int (i % j)
@[simp] def pPow : D → D → Option O := pI (fun i j => powOk (i, j)) fun i j => .int (i ^ j.toNat)
@[simp] def pLt : D → D → Option O := pI (fun _ _ => true) fun i j => .bl (decide (i < j))
@[simp] def pLe : D → D → Option O := pI (fun _ _ => true) fun i j => .bl (decide (i ≤ j))
@[simp] def pGt : D → D → Option O := pI (fun _ _ => true) fun i j => .bl (decide (j < i))
@[simp] def pGe : D → D → Option O := pI (fun _ _ => true) fun i j => .bl (decide (j ≤ i))
theorem s64_iff {i : Int} (h : s64 i = true) : -(2 ^ 64) < i ∧ i < 2 ^ 64 := by
  rw [s64_eq] at h
  rw [Bool.and_eq_true] at h
  exact ⟨of_decide_eq_true h.1, of_decide_eq_true h.2⟩
theorem od_sub : OpR X (binaryOp .Sub) (rP2 X.K T pSub) := opI0_of op_sub fun _ _ _ _ _ => by rw [Rep]
theorem od_mul : OpR X (binaryOp .Mult) (rP2 X.K T pMul) := opI_of op_mul (fun i j h => by
  rw [Bool.or_eq_true] at h
  exact h.elim (fun z => .inl (s64_iff z)) fun z => .inr (s64_iff z)) fun _ _ _ _ _ => by rw [Rep]
theorem od_div : OpR X (binaryOp .FloorDiv) (rP2 X.K T pDiv) := opI_of op_fdivW (fun i j h => by
  rw [Bool.and_eq_true, logOk_eq] at h
  exact ⟨of_decide_eq_true h.1, of_decide_eq_true h.2⟩) fun _ _ _ _ _ => by rw [Rep]
theorem od_mod : OpR X (binaryOp .Mod) (rP2 X.K T pMod) := opI_of op_mod (fun i j h => of_decide_eq_true h) fun _ _ _ _ _ => by rw [Rep]
theorem od_pow : OpR X (binaryOp .Pow) (rP2 X.K T pPow) := opI_of op_pow (fun i j h => by
  rw [powOk_eq, Bool.and_eq_true, Bool.and_eq_true] at h
  exact ⟨of_decide_eq_true h.1.1, of_decide_eq_true h.1.2, of_decide_eq_true h.2⟩) fun _ _ _ _ _ => by rw [Rep]
theorem od_lt : OpR X (compareOp .Lt) (rP2 X.K T pLt) := opI0_of op_lt fun _ _ _ _ _ => by rw [Rep]
theorem od_le : OpR X (compareOp .LtE) (rP2 X.K T pLe) := opI0_of op_le fun _ _ _ _ _ => by rw [Rep]
theorem od_gt : OpR X (compareOp .Gt) (rP2 X.K T pGt) := opI0_of op_gt fun _ _ _ _ _ => by rw [Rep]
theorem od_ge : OpR X (compareOp .GtE) (rP2 X.K T pGe) := opI0_of op_ge fun _ _ _ _ _ => by rw [Rep]
@[simp] def pNeg : D → Option O
  | .int i => some (.fz (.int (-i)))
  | _ => none
theorem ud_neg : UnR X (unaryOp .USub) (rP1 X.K T pNeg) := UnR.imp un_neg fun x H Q h => by
  obtain ⟨A, d, o, lA, tA, hx, hp, post⟩ := h
  unfold pNeg at hp
  split at hp
  · cases hp
    exact ⟨_, hx, post _ H [] (New.fz (by rw [Rep]))⟩
  · cases hp

/-! ### + -/
@[simp] def pAdd : D → D → Option O
  | .int i, .int j => some (.fz (.int (i + j)))
  | .tup l, .tup m => if room (l.length + m.length) then some (.fz (.tup (l ++ m))) else none
  | .lst l, .lst m => if room (l.length + m.length) then some (.own ((l ++ m).map O.fz)) else none
  | .str x, .str y => if room (x.length + y.length) then some (.fz (.str (x ++ y))) else none
  | _, _ => none
theorem od_add : OpR X (binaryOp .Add) (rP2 X.K T pAdd) := OpR.imp (op_add.or (op_catA.or (op_cat.or op_add_str))) fun x y H Q h => by
  obtain ⟨A, d, e, o, lA, tA, hx, hy, hp, post⟩ := h
  unfold pAdd at hp
  split at hp
  · cases hp
    exact .inl ⟨_, _, hx, hy, post _ H [] (New.fz (by rw [Rep]))⟩
  · rename_i l m
    split at hp
    · rename_i hr
      cases hp
      have hx : Rep X.K H A (.tup l) x := hx
      have hy : Rep X.K H A (.tup m) y := hy
      have hx' := hx
      have hy' := hy
      rw [Rep] at hx hy
      obtain ⟨a, vs, rfl, h1, h2⟩ := hx
      obtain ⟨b, ws, rfl, h3, h4⟩ := hy
      refine .inr (.inl ⟨a, b, vs, ws, rfl, rfl, h1, h3, ?_, fun e => ?_, fun _ e => ?_, fun _ _ p hp => ?_⟩)
      · rw [h2.length, h4.length]; exact room_line hr
      · have hl := h2.length
        rw [e] at hl
        have e2 : l = [] := List.length_eq_zero_iff.mp hl.symm
        subst e2
        exact post _ H [] (New.fz hy')
      · have hl := h4.length
        rw [e] at hl
        have e2 : m = [] := List.length_eq_zero_iff.mp hl.symm
        subst e2
        rw [List.append_nil] at post
        exact post _ H [] (New.fz hx')
      · exact post _ _ [] (New.tup (h2.append h4) lA tA hp)
    · cases hp
  · rename_i l m
    split at hp
    · rename_i hr
      cases hp
      obtain ⟨a, vs, rfl, h1, h2⟩ := hx
      obtain ⟨b, ws, rfl, h3, h4⟩ := hy
      refine .inr (.inr (.inl ⟨a, b, vs, ws, rfl, rfl, h1, h3, ?_, fun p hp => ?_⟩))
      · rw [h2.length, h4.length]; exact room_line hr
      · exact post _ _ [p] (New.lst (h2.append h4) lA tA hp)
    · cases hp
  · rename_i a b
    split at hp
    · rename_i hr
      cases hp
      exact .inr (.inr (.inr ⟨_, _, hx, hy, room_line hr, post _ H [] (New.fz (by rw [Rep]))⟩))
    · cases hp
  · cases hp

/-! ### == -/
mutual
def D.toP : D → PyData
  | .non => .none
  | .bl b => .bool b
  | .int i => .int i
  | .str s => .str s
  | .tup l => .tuple (D.toPs l)
  | .lst l => .list (D.toPs l)
  | .scr ns => .list (ns.map PyData.int)
def D.toPs : List D → List PyData
  | [] => []
  | d :: l => d.toP :: D.toPs l
end
theorem Rep.dp : ∀ (d : D) (v : V), Rep K H A d v → Dp K H v d.toP := by
  have lists : ∀ (l : List D), (∀ d ∈ l, ∀ v, Rep K H A d v → Dp K H v d.toP) → ∀ vs, Reps K H A l vs → DpAll K H vs (D.toPs l) := by
    intro l
    induction l with
    | nil => intro _ vs h; rw [Reps] at h; subst h; rw [D.toPs]; exact .nil
    | cons d l ih =>
      intro hl vs h
      rw [Reps] at h
      obtain ⟨v, r, rfl, h1, h2⟩ := h
      rw [D.toPs]
      exact .cons (hl d List.mem_cons_self v h1) (ih (fun d hd => hl d (List.mem_cons_of_mem _ hd)) r h2)
  intro d
  induction d using D.ind with
  | h0 => intro v h; rw [Rep] at h; subst h; exact .non
  | h1 b => intro v h; rw [Rep] at h; subst h; exact .bl b
  | h2 i => intro v h; rw [Rep] at h; subst h; exact .int i
  | h3 s => intro v h; rw [Rep] at h; subst h; exact .str s
  | h4 ds ih =>
    intro v h
    rw [Rep] at h
    obtain ⟨a, vs, rfl, h1, h2⟩ := h
    rw [D.toP]
    exact .tup h1 (lists ds ih vs h2)
  | h5 ds ih =>
    intro v h
    rw [Rep] at h
    obtain ⟨a, vs, rfl, h1, _, h2⟩ := h
    rw [D.toP]
    exact .lst (SqL.of h1) (lists ds ih vs h2)
  | h6 ns =>
    intro v h
    rw [Rep] at h
    obtain ⟨a, rfl, h1⟩ := h
    rw [D.toP]
    refine .lst h1.sq ?_
    clear h1
    induction ns with
    | nil => exact .nil
    | cons n ns ih => exact .cons (.int n) ih
theorem Reps.dp : ∀ {l : List D} {vs : List V}, Reps K H A l vs → DpAll K H vs (D.toPs l)
  | [], _, h => by rw [Reps] at h; subst h; rw [D.toPs]; exact .nil
  | d :: l, _, h => by
    rw [Reps] at h
    obtain ⟨v, r, rfl, h1, h2⟩ := h
    rw [D.toPs]
    exact .cons (h1.dp) (Reps.dp h2)
theorem Rep0.dp : ∀ {d : D} {v : V}, Rep0 K H A d v → Dp K H v d.toP
  | .lst l, v, h => by
    obtain ⟨a, vs, rfl, h1, h2⟩ := h
    rw [D.toP]
    exact .lst (SqL.of h1) h2.dp
  | .non, _, h => Rep.dp (A := A) _ _ h
  | .bl _, _, h => Rep.dp (A := A) _ _ h
  | .int _, _, h => Rep.dp (A := A) _ _ h
  | .str _, _, h => Rep.dp (A := A) _ _ h
  | .tup _, _, h => Rep.dp (A := A) _ _ h
  | .scr _, _, h => Rep.dp (A := A) _ _ h
/-- scalars -/
@[simp] def eqS : D → D → Option Bool
  | .int i, .int j => some (decide (i = j))
  | .str i, .str j => some (decide (i = j))
  | .bl i, .bl j => some (decide (i = j))
  | .non, .non => some true
  | .int _, .non => some false
  | .non, .int _ => some false
  | .str _, .non => some false
  | .non, .str _ => some false
  | .bl _, .non => some false
  | .non, .bl _ => some false
  | .int _, .str _ => some false
  | .str _, .int _ => some false
  | .bl _, .str _ => some false
  | .str _, .bl _ => some false
  | _, _ => none
def eqD (d e : D) : Option Bool := match eqS d e with
  | some b => some b
  | none => if SeqAt.shaped d.toP && SeqAt.shaped e.toP then some (PyData.eqv d.toP e.toP) else none
@[simp] def pEq (d e : D) : Option O := (eqD d e).map fun b => .fz (.bl b)
@[simp] def pNe (d e : D) : Option O := (eqD d e).map fun b => .fz (.bl (!b))
theorem eqS_rep {d e : D} {x y : V} {b : Bool} (h : eqS d e = some b) (hx : Rep0 K H A d x) (hy : Rep0 K H A e y) : scal x y = true ∧ decide (x = y) = b := by
  unfold eqS at h
  split at h <;> cases h
  all_goals
    first
      | (cases (show x = _ from hx); cases (show y = _ from hy); refine ⟨rfl, ?_⟩; simp)
theorem od_eq (hu : X.A.units + 64 < cLine) : OpR X (compareOp .Eq) (rP2 X.K T pEq) := OpR.imp (op_eq.or (op_eqD hu)) fun x y H Q h => by
  obtain ⟨A, d, e, o, lA, tA, hx, hy, hp, post⟩ := h
  unfold pEq eqD at hp
  split at hp
  · rename_i b hb
    cases hp
    obtain ⟨h1, h2⟩ := eqS_rep hb hx hy
    exact .inl ⟨h1, by rw [h2]; exact post _ H [] (New.fz (by rw [Rep]))⟩
  · split at hp
    · rename_i hs
      cases hp
      rw [Bool.and_eq_true] at hs
      exact .inr ⟨_, _, hx.dp, hy.dp, hs.1, hs.2, post _ H [] (New.fz (by rw [Rep]))⟩
    · cases hp
theorem od_ne (hu : X.A.units + 64 < cLine) : OpR X (compareOp .NotEq) (rP2 X.K T pNe) := OpR.imp (op_ne.or (op_neD hu)) fun x y H Q h => by
  obtain ⟨A, d, e, o, lA, tA, hx, hy, hp, post⟩ := h
  unfold pNe eqD at hp
  split at hp
  · rename_i b hb
    cases hp
    obtain ⟨h1, h2⟩ := eqS_rep hb hx hy
    exact .inl ⟨h1, by rw [h2]; exact post _ H [] (New.fz (by rw [Rep]))⟩
  · split at hp
    · rename_i hs
      cases hp
      rw [Bool.and_eq_true] at hs
      exact .inr ⟨_, _, hx.dp, hy.dp, hs.1, hs.2, post _ H [] (New.fz (by rw [Rep]))⟩
    · cases hp

/-! ### is None -/
@[simp] def isNon : D → Bool
  | .non => true
  | _ => false
theorem isNon_rep : ∀ {d : D} {x : V}, Rep0 K H A d x → decide (x = V.non) = isNon d
  | .non, x, h => by cases (show x = _ from h); rfl
  | .bl b, x, h => by cases (show x = _ from h); rfl
  | .int b, x, h => by cases (show x = _ from h); rfl
  | .str b, x, h => by cases (show x = _ from h); rfl
  | .tup b, x, h => by have h : Rep K H A (.tup b) x := h; rw [Rep] at h; obtain ⟨a, vs, rfl, _⟩ := h; rfl
  | .lst b, x, h => by obtain ⟨a, vs, rfl, _⟩ := h; rfl
  | .scr b, x, h => by have h : Rep K H A (.scr b) x := h; rw [Rep] at h; obtain ⟨a, rfl, _⟩ := h; rfl
@[simp] def pIsN (d : D) (e : D) : Option O := match e with
  | .non => some (.fz (.bl (isNon d)))
  | _ => none
@[simp] def pNotN (d : D) (e : D) : Option O := match e with
  | .non => some (.fz (.bl (!isNon d)))
  | _ => none
theorem od_isN : OpR X (compareOp .Is) (rP2 X.K T pIsN) := OpR.imp op_isN fun x y H Q h => by
  obtain ⟨A, d, e, o, lA, tA, hx, hy, hp, post⟩ := h
  unfold pIsN at hp
  split at hp
  · cases hp
    exact ⟨hy, by rw [isNon_rep hx]; exact post _ H [] (New.fz (by rw [Rep]))⟩
  · cases hp
theorem od_notN : OpR X (compareOp .IsNot) (rP2 X.K T pNotN) := OpR.imp op_notN fun x y H Q h => by
  obtain ⟨A, d, e, o, lA, tA, hx, hy, hp, post⟩ := h
  unfold pNotN at hp
  split at hp
  · cases hp
    exact ⟨hy, by rw [isNon_rep hx]; exact post _ H [] (New.fz (by rw [Rep]))⟩
  · cases hp

/-! ### items and cuts -/
@[simp] def pIx : D → D → Option O
  | .tup l, .int n => (atI l n).map O.fz
  | .lst l, .int n => (atI l n).map O.fz
  | .scr l, .int n => (atI l n).map fun i => O.fz (.int i)
  | _, _ => none
theorem id_ix : IxR X (rP2 X.K T pIx) := IxR.imp ix_seq fun x y H Q h => by
  obtain ⟨A, d, e, o, lA, tA, hx, hy, hp, post⟩ := h
  unfold pIx at hp
  split at hp
  · rename_i l n
    have hx : Rep X.K H A (.tup l) x := hx
    rw [Rep] at hx
    obtain ⟨a, vs, rfl, h1, h2⟩ := hx
    cases q : atI l n with
    | none => rw [q] at hp; cases hp
    | some d =>
      rw [q] at hp
      cases hp
      obtain ⟨k, e1, e2⟩ := atI_some q
      obtain ⟨v, g1, g2⟩ := h2.get' e2
      exact .inr (.inl ⟨a, vs, n, v, rfl, hy, h1, atI_of e1 h2.length g1, post _ H [] (New.fz g2)⟩)
  · rename_i l n
    obtain ⟨a, vs, rfl, h1, h2⟩ := hx
    cases q : atI l n with
    | none => rw [q] at hp; cases hp
    | some d =>
      rw [q] at hp
      cases hp
      obtain ⟨k, e1, e2⟩ := atI_some q
      obtain ⟨v, g1, g2⟩ := h2.get' e2
      exact .inl ⟨a, vs, n, v, rfl, hy, SqL.of h1, atI_of e1 h2.length g1, post _ H [] (New.fz g2)⟩
  · rename_i l n
    have hx : Rep X.K H A (.scr l) x := hx
    rw [Rep] at hx
    obtain ⟨a, rfl, h1⟩ := hx
    cases q : atI l n with
    | none => rw [q] at hp; cases hp
    | some i =>
      rw [q] at hp
      cases hp
      obtain ⟨k, e1, e2⟩ := atI_some q
      refine .inl ⟨a, _, n, .int i, rfl, hy, h1.sq, atI_of e1 (List.length_map _) ?_, post _ H [] (New.fz (by rw [Rep]))⟩
      rw [List.getElem?_map, e2]
      rfl
  · cases hp
/-- the cut of a list of anything -/
def cutD {α : Type} (l : List α) (lo hi : Option Int) : List α := (l.drop (HT.sIx l.length 0 lo)).take (HT.sIx l.length l.length hi - HT.sIx l.length 0 lo)
theorem cutD_all {α : Type} {l : List α} {lo hi : Option Int} (h : HT.sIx l.length 0 lo = 0 ∧ HT.sIx l.length l.length hi = l.length) : cutD l lo hi = l := by
  unfold cutD
  rw [h.1, h.2]
  simp
theorem Reps.cut {l : List D} {vs : List V} (h : Reps K H A l vs) (lo hi : Option Int) : Reps K H A (cutD l lo hi) (cutV vs lo hi) := by
  unfold cutD cutV
  rw [h.length]
  exact (h.drop _).take _
/-- x[lo:hi] -/
@[simp] def pSl (d : D) (lo hi : Option Int) : Option O := match d with
  | .tup l => some (.fz (.tup (cutD l lo hi)))
  | .lst l => some (.own ((cutD l lo hi).map O.fz))
  | .scr l => some (.own ((cutD l lo hi).map fun i => O.fz (.int i)))
  | _ => none
def rSl (K : PySem.W.Frag) (T : List Addr) : V → Option Int → Option Int → Hp → VK → Prop := fun x lo hi H Q => ∃ A d o, Lists H A ∧ Tabs T H ∧ Rep0 K H A d x ∧ pSl d lo hi = some o ∧ ∀ v H' F, New K H A o v H' F → Q v H'
theorem SlR.imp {r r' : V → Option Int → Option Int → Hp → VK → Prop} (h : SlR X r) (i : ∀ x lo hi H Q, r' x lo hi H Q → r x lo hi H Q) : SlR X r' := fun pins s σ H x v vl vu lo hi sl Q I rx hs pl pu q => h pins s σ H x v vl vu lo hi sl Q I rx hs pl pu (i x lo hi H Q q)
theorem sd_sl : SlR X (rSl X.K T) := SlR.imp (sl_tupA.or sl_list) fun x lo hi H Q h => by
  obtain ⟨A, d, o, lA, tA, hx, hp, post⟩ := h
  unfold pSl at hp
  split at hp
  · rename_i l
    cases hp
    have hx' : Rep X.K H A (.tup l) x := hx
    have hx := hx'
    rw [Rep] at hx
    obtain ⟨a, vs, rfl, h1, h2⟩ := hx
    refine .inl ⟨a, vs, rfl, h1, fun hw => ?_, fun _ p hp => post _ _ [] (New.tup (h2.cut lo hi) lA tA hp)⟩
    rw [h2.length] at hw
    rw [cutD_all hw] at post
    exact post _ H [] (New.fz hx')
  · rename_i l
    cases hp
    obtain ⟨a, vs, rfl, h1, h2⟩ := hx
    exact .inr ⟨a, vs, rfl, SqL.of h1, fun p hp => post _ _ [p] (New.lst (h2.cut lo hi) lA tA hp)⟩
  · rename_i l
    cases hp
    have hx : Rep X.K H A (.scr l) x := hx
    rw [Rep] at hx
    obtain ⟨a, rfl, h1⟩ := hx
    refine .inr ⟨a, _, rfl, h1.sq, fun p hp => ?_⟩
    have hr : Reps X.K H A ((cutD l lo hi).map D.int) (cutV (l.map V.int) lo hi) := by
      have : cutV (l.map V.int) lo hi = (cutD l lo hi).map V.int := by
        unfold cutD cutV
        rw [List.length_map, List.map_take, List.map_drop]
      rw [this]
      exact Reps.ints
    have := New.lst hr lA tA hp
    rw [List.map_map] at this
    exact post _ _ [p] this
  · cases hp
/-- a part of a cut -/
structure VO (X : Cx) (T : List Addr) (e : Option Expr) (f : Option VF) : Prop where
  po : match f with
    | none => e = none
    | some f => ∃ e', e = some e' ∧ VE X T e' f
@[simp] def evO (f : Option VF) : Env' → Option (Option Int × Env') := fun ε => match f with
  | none => some (none, ε)
  | some f => match f ε with
    | some (.o (.fz (.int i)), ε1) => some (some i, ε1)
    | _ => none
@[simp] def vSl (f : VF) (lo hi : Option VF) : VF := fun ε => match f ε with
  | some (.o o, ε1) => match evO lo ε1 with
    | some (l, ε2) => match evO hi ε2 with
      | some (h, ε3) => match pSl o.val l h with
        | some r => some (.o r, ε3)
        | none => none
      | none => none
    | none => none
  | _ => none
def tPt (K : PySem.W.Frag) (T : List Addr) (f : Option VF) : L2.St → Hp → (Option Int → Hp → Prop) → Prop := fun σ H Q => ∃ M R ε i ε', Ok K T H M R ε σ ∧ evO f ε = some (i, ε') ∧ ∀ H' M', Ok K T H' M' R ε' σ → Stp T H M H' M' → Q i H'
theorem po_of {e : Option Expr} {f : Option VF} (h : VO X T e f) : PO X e (tPt X.K T f) := by
  cases f with
  | none =>
    have e0 : e = none := h.po
    subst e0
    refine ⟨fun pins s σ H Q I hh => ?_⟩
    obtain ⟨M, R, ε, i, ε', ok, hf, post⟩ := hh
    cases hf
    exact po_none.run pins s σ H Q I (post H M ok .refl)
  | some f =>
    obtain ⟨e', rfl, hv⟩ := h.po
    refine ⟨fun pins s σ H Q I hh => ?_⟩
    obtain ⟨M, R, ε, i, ε', ok, hf, post⟩ := hh
    unfold evO at hf
    dsimp only at hf
    split at hf
    · rename_i j ε1 h1
      cases hf
      refine (po_some hv.pe).run pins s σ H Q I ⟨M, R, ε, _, _, ok, h1, fun v H' M' F p => ?_⟩
      obtain ⟨rfl, rfl, ok', st⟩ := Post.int p
      exact ⟨j, rfl, post H' M' ok' st⟩
    · cases hf
theorem ve_sl {e : Expr} {lo hi : Option Expr} {p2 pos : Pos} {f : VF} {l h : Option VF} (he : VE X T e f) (hl : VO X T lo l) (hh : VO X T hi h) : VE X T (.Subscript e (.Slice lo hi none p2) pos) (vSl f l h) := by
  refine ⟨PE.imp (pe_slice (sd_sl (T := T)) he.pe (po_of hl) (po_of hh)) fun σ H Q q => ?_⟩
  obtain ⟨M, R, ε, r, ε', ok, hf, post⟩ := q
  unfold vSl at hf
  split at hf
  · rename_i o ε1 h1
    split at hf
    · rename_i li ε2 h2
      split at hf
      · rename_i hi ε3 h3
        split at hf
        · rename_i r h4
          cases hf
          refine ⟨M, R, ε, _, _, ok, h1, fun v H1 M1 F1 p1 => ⟨M1, F1 ++ R, ε1, li, ε2, p1.ok, h2, fun H2 M2 ok2 st2 => ⟨M2, F1 ++ R, ε2, hi, ε', ok2, h3, fun H3 M3 ok3 st3 => ?_⟩⟩⟩
          have p1 : Post _ T H M R ε1 σ o v H1 M1 F1 := p1
          have st : Stp T H1 M1 H3 M3 := st2.trans st3
          have r3 : RepO X.K H3 (M3 ++ (F1 ++ R)) o v F1 := RepO.later (F2 := []) p1.ok (by rw [List.append_nil]; exact st) p1.rep
          have hd : Rep X.K H3 (M3 ++ R) o.val v := r3.freeze sub3 _ _ _ (Nodup.left2 ok3.nd)
          refine ⟨M3 ++ R, o.val, r, ok3.drop.ls, ok3.tab, hd.rep0, h4, fun v2 H4 F4 n => post v2 H4 M3 F4 ?_⟩
          exact (n.post ok3.drop).before ((p1.stp').trans st)
        · cases hf
      · cases hf
    · cases hf
  · cases hf
theorem vo_none : VO X T none none := ⟨rfl⟩
theorem vo_some {e : Expr} {f : VF} (h : VE X T e f) : VO X T (some e) (some f) := ⟨⟨e, rfl, h⟩⟩

/-! ### built-in functions -/
@[simp] def pLen : List D → Option O
  | [.tup l] => some (.fz (.int l.length))
  | [.lst l] => some (.fz (.int l.length))
  | [.scr l] => some (.fz (.int l.length))
  | _ => none
theorem Rep0s.one {d : D} {vs : List V} (h : Rep0s K H A [d] vs) : ∃ v, vs = [v] ∧ Rep0 K H A d v := by
  obtain ⟨v, r, rfl, h1, rfl⟩ := h
  exact ⟨v, rfl, h1⟩
theorem Rep0s.two {d e : D} {vs : List V} (h : Rep0s K H A [d, e] vs) : ∃ v w, vs = [v, w] ∧ Rep0 K H A d v ∧ Rep0 K H A e w := by
  obtain ⟨v, r, rfl, h1, w, r', rfl, h2, rfl⟩ := h
  exact ⟨v, w, rfl, h1, h2⟩
theorem cd_len : CallR X (.builtin "len") (rP X.K T pLen) := CallR.imp call_len_seq fun vs H Q h => by
  obtain ⟨A, ds, o, lA, tA, hx, hp, post⟩ := h
  unfold pLen at hp
  split at hp
  · rename_i l
    cases hp
    obtain ⟨v, rfl, hv⟩ := hx.one
    have hv : Rep X.K H A (.tup l) v := hv
    rw [Rep] at hv
    obtain ⟨a, ws, rfl, h1, h2⟩ := hv
    exact ⟨a, ws, rfl, .inr h1, by rw [h2.length]; exact post _ H [] (New.fz (by rw [Rep]))⟩
  · rename_i l
    cases hp
    obtain ⟨v, rfl, hv⟩ := hx.one
    obtain ⟨a, ws, rfl, h1, h2⟩ := hv
    exact ⟨a, ws, rfl, .inl (SqL.of h1), by rw [h2.length]; exact post _ H [] (New.fz (by rw [Rep]))⟩
  · rename_i l
    cases hp
    obtain ⟨v, rfl, hv⟩ := hx.one
    have hv : Rep X.K H A (.scr l) v := hv
    rw [Rep] at hv
    obtain ⟨a, rfl, h1⟩ := hv
    exact ⟨a, _, rfl, .inl h1.sq, by rw [List.length_map]; exact post _ H [] (New.fz (by rw [Rep]))⟩
  · cases hp
@[simp] def pAbs : List D → Option O
  | [.int i] => some (.fz (.int (if i < 0 then -i else i)))
  | _ => none
theorem cd_abs : CallR X (.builtin "abs") (rP X.K T pAbs) := CallR.imp call_abs fun vs H Q h => by
  obtain ⟨A, ds, o, lA, tA, hx, hp, post⟩ := h
  unfold pAbs at hp
  split at hp
  · cases hp
    obtain ⟨v, rfl, hv⟩ := hx.one
    cases (show v = _ from hv)
    exact ⟨_, rfl, post _ H [] (New.fz (by rw [Rep]))⟩
  · cases hp
@[simp] def pMin2 : List D → Option O
  | [.int i, .int j] => some (.fz (.int (if j < i then j else i)))
  | _ => none
@[simp] def pMax2 : List D → Option O
  | [.int i, .int j] => some (.fz (.int (if j > i then j else i)))
  | _ => none
theorem cd_min2 (hc : X.calm = true) : CallR X (.builtin "min") (rP X.K T pMin2) := CallR.imp (call_min2 hc) fun vs H Q h => by
  obtain ⟨A, ds, o, lA, tA, hx, hp, post⟩ := h
  unfold pMin2 at hp
  split at hp
  · cases hp
    obtain ⟨v, w, rfl, hv, hw⟩ := hx.two
    cases (show v = _ from hv)
    cases (show w = _ from hw)
    exact ⟨_, _, rfl, post _ H [] (New.fz (by rw [Rep]))⟩
  · cases hp
theorem cd_max2 (hc : X.calm = true) : CallR X (.builtin "max") (rP X.K T pMax2) := CallR.imp (call_max2 hc) fun vs H Q h => by
  obtain ⟨A, ds, o, lA, tA, hx, hp, post⟩ := h
  unfold pMax2 at hp
  split at hp
  · cases hp
    obtain ⟨v, w, rfl, hv, hw⟩ := hx.two
    cases (show v = _ from hv)
    cases (show w = _ from hw)
    exact ⟨_, _, rfl, post _ H [] (New.fz (by rw [Rep]))⟩
  · cases hp
@[simp] def pInt : List D → Option O
  | [.int i] => some (.fz (.int i))
  | [.bl b] => some (.fz (.int (if b then 1 else 0)))
  | _ => none
theorem cd_int : CallR X (.type "int") (rP X.K T pInt) := CallR.imp call_int1 fun vs H Q h => by
  obtain ⟨A, ds, o, lA, tA, hx, hp, post⟩ := h
  unfold pInt at hp
  split at hp
  · cases hp
    obtain ⟨v, rfl, hv⟩ := hx.one
    cases (show v = _ from hv)
    exact .inl ⟨_, rfl, post _ H [] (New.fz (by rw [Rep]))⟩
  · cases hp
    obtain ⟨v, rfl, hv⟩ := hx.one
    cases (show v = _ from hv)
    exact .inr ⟨_, rfl, post _ H [] (New.fz (by rw [Rep]))⟩
  · cases hp
@[simp] def pList : List D → Option O
  | [.tup l] => some (.own (l.map O.fz))
  | [.lst l] => some (.own (l.map O.fz))
  | [.scr l] => some (.own (l.map fun i => O.fz (.int i)))
  | _ => none
theorem cd_list : CallR X (.type "list") (rP X.K T pList) := CallR.imp call_list_of fun vs H Q h => by
  obtain ⟨A, ds, o, lA, tA, hx, hp, post⟩ := h
  unfold pList at hp
  split at hp
  · rename_i l
    cases hp
    obtain ⟨v, rfl, hv⟩ := hx.one
    have hv : Rep X.K H A (.tup l) v := hv
    rw [Rep] at hv
    obtain ⟨a, ws, rfl, h1, h2⟩ := hv
    exact ⟨a, ws, rfl, .inr h1, fun p hp => post _ _ [p] (New.lst h2 lA tA hp)⟩
  · rename_i l
    cases hp
    obtain ⟨v, rfl, hv⟩ := hx.one
    obtain ⟨a, ws, rfl, h1, h2⟩ := hv
    exact ⟨a, ws, rfl, .inl (SqL.of h1), fun p hp => post _ _ [p] (New.lst h2 lA tA hp)⟩
  · rename_i l
    cases hp
    obtain ⟨v, rfl, hv⟩ := hx.one
    have hv : Rep X.K H A (.scr l) v := hv
    rw [Rep] at hv
    obtain ⟨a, rfl, h1⟩ := hv
    refine ⟨a, _, rfl, .inl h1.sq, fun p hp => ?_⟩
    have := New.lst (K := X.K) (Reps.ints (ns := l)) lA tA hp
    rw [List.map_map] at this
    exact post _ _ [p] this
  · cases hp
@[simp] def pTuple : D → Option O
  | .tup l => some (.fz (.tup l))
  | .lst l => some (.fz (.tup l))
  | .scr l => some (.fz (.tup (l.map D.int)))
  | _ => none
theorem ve_tuple {a : Expr} {f : VF} {p pos : Pos} (hg : Gl X "tuple") (hm : X.mg "tuple" = none) (ha : VE X T a f) (na : starEach [a] X.env = (false, eval a X.env) :: starEach [] X.env := by rfl) : VE X T (.Call (.Name "tuple" p) [a] [] pos) (vUn pTuple f) := by
  refine ⟨PE.imp (pe_tupleOf hg hm ha.pe na) fun σ H Q h => ?_⟩
  have q := tUn_of h
  obtain ⟨M, R, ε, r, ε', ok, hf, post⟩ := q
  refine ⟨M, R, ε, r, ε', ok, hf, fun v H' M' F p => ?_⟩
  obtain ⟨A, d, o, lA, tA, hx, hp, pst⟩ := post v H' M' F p
  unfold pTuple at hp
  split at hp
  · rename_i l
    cases hp
    have hx' : Rep X.K H' A (.tup l) v := hx
    have hx := hx'
    rw [Rep] at hx
    obtain ⟨a, ws, rfl, h1, h2⟩ := hx
    exact .inr ⟨a, ws, rfl, h1, pst _ H' [] (New.fz hx')⟩
  · rename_i l
    cases hp
    obtain ⟨a, ws, rfl, h1, h2⟩ := hx
    exact .inl ⟨a, ws, rfl, SqL.of h1, fun q hq => pst _ _ [] (New.tup h2 lA tA hq)⟩
  · rename_i l
    cases hp
    have hx : Rep X.K H' A (.scr l) v := hx
    rw [Rep] at hx
    obtain ⟨a, rfl, h1⟩ := hx
    exact .inl ⟨a, _, rfl, h1.sq, fun q hq => pst _ _ [] (New.tup Reps.ints lA tA hq)⟩
  · cases hp

/-! ### isinstance -/
@[simp] def tyOf : D → String
  | .non => "NoneType"
  | .bl _ => "bool"
  | .int _ => "int"
  | .str _ => "str"
  | .tup _ => "tuple"
  | .lst _ => "list"
  | .scr _ => "list"
theorem tyOf_rep : ∀ {d : D} {x : V}, Rep0 K H A d x → TyX K H x (.type (tyOf d))
  | .non, x, h => by cases (show x = _ from h); exact .base .non
  | .bl b, x, h => by cases (show x = _ from h); exact .base (.bl b)
  | .int b, x, h => by cases (show x = _ from h); exact .base (.int b)
  | .str b, x, h => by cases (show x = _ from h); exact .base (.str b)
  | .tup b, x, h => by
    have h : Rep K H A (.tup b) x := h
    rw [Rep] at h
    obtain ⟨a, vs, rfl, h1, _⟩ := h
    rcases h1 with (h1 | ⟨o, h1⟩) | ⟨o, its, n, h1, h2, _⟩
    · exact .base (.tup h1)
    · exact .fTuple h1
    · exact .kTuple h1 h2
  | .lst b, x, h => by obtain ⟨a, vs, rfl, h1, _⟩ := h; exact .base (.lst h1)
  | .scr b, x, h => by
    have h : Rep K H A (.scr b) x := h
    rw [Rep] at h
    obtain ⟨a, rfl, h1⟩ := h
    rcases h1.sq with (h1 | ⟨o, h1⟩) | ⟨o, its, n, h1, h2, _⟩
    · exact .base (.lst h1)
    · exact .base (.frz h1)
    · exact .kList h1 h2
@[simp] def pIsi (t : String) (d : D) : Option O := if t = "int" then some (.fz (.bl (tyOf d == "int" || tyOf d == "bool"))) else some (.fz (.bl (tyOf d == t)))
/-- what isinstance says of the six kinds -/
def isiOk (t : String) : Prop := ∀ s ∈ ["NoneType", "bool", "int", "str", "tuple", "list"], kitB s t = some (if t = "int" then (s == "int" || s == "bool") else s == t)
theorem isi_int : isiOk "int" := by unfold isiOk; decide +kernel
theorem isi_bool : isiOk "bool" := by unfold isiOk; decide +kernel
theorem isi_str : isiOk "str" := by unfold isiOk; decide +kernel
theorem isi_tuple : isiOk "tuple" := by unfold isiOk; decide +kernel
theorem isi_list : isiOk "list" := by unfold isiOk; decide +kernel
theorem tyOf_mem (d : D) : tyOf d ∈ ["NoneType", "bool", "int", "str", "tuple", "list"] := by cases d <;> simp [tyOf]
theorem ve_isi {a : Expr} {x : Str} {t : String} {f : VF} {p p2 pos : Pos} (hg : Gl X "isinstance") (hm : X.mg "isinstance" = none) (hg2 : Gl X x) (hm2 : X.mg x = none) (hv : bootBuiltins x = some (.type t)) (ht : isiOk t) (ha : VE X T a f) (hn : x ≠ "__name__") (hdb : (x == ("__debug__" : Str)) = false)
    (he : starEach [a, .Name x p2] X.env = (false, eval a X.env) :: starEach [.Name x p2] X.env := by rfl) (he2 : starEach [.Name x p2] X.env = (false, eval (.Name x p2) X.env) :: starEach [] X.env := by rfl) (hpl : (backTo pos (starEach [.Name x p2] X.env)).any (·.1) = false := by rfl) : VE X T (.Call (.Name "isinstance" p) [a, .Name x p2] [] pos) (vUn (pIsi t) f) := by
  refine ⟨PE.imp (pe_callB call_isi hg hm (by decide +kernel) (pa_cons ha.pe (pa_cons (pe_bltn (v := .ty t) hg2 hm2 hv rfl hn hdb) pa_nil he2) he) (by decide) (by decide) he hpl) fun σ H Q h => ?_⟩
  have q := tUn_of h
  obtain ⟨M, R, ε, r, ε', ok, hf, post⟩ := q
  refine ⟨M, R, ε, r, ε', ok, hf, fun v H' M' F p => ?_⟩
  obtain ⟨A, d, o, lA, tA, hx, hp, pst⟩ := post v H' M' F p
  refine ⟨v, .ty t, .type (tyOf d), .type t, _, rfl, .ty t, tyOf_rep hx, kit_ty (ht _ (tyOf_mem d)), ?_⟩
  unfold pIsi at hp
  split at hp
  · rename_i e
    cases hp
    rw [if_pos e]
    exact pst _ H' [] (New.fz (by rw [Rep]))
  · rename_i e
    cases hp
    rw [if_neg e]
    exact pst _ H' [] (New.fz (by rw [Rep]))
end
end
end VS


set_option Elab.async false
set_option linter.all false
/-! VS8: calls with keywords; items popped and stored; the end of a law. -/
namespace VS
noncomputable section
open PySem PySem.Spec PyProof.Rows L2
section
variable {K : PySem.W.Frag} {T : List Addr} {P : List Nat} {H H' H'' : Hp} {M M' M'' R R' F F' A A' : List Addr} {ε ε' : Env'} {σ σ' σ'' : L2.St} {X : Cx}

/-! ### calls whose arguments are data -/
@[simp] def permL {α : Type} (idx : List Nat) (l : List α) : List α := idx.filterMap fun i => l[i]?
theorem Reps.perm {ds : List D} {vs : List V} (h : Reps K H A ds vs) : ∀ idx : List Nat, Reps K H A (permL idx ds) (permL idx vs)
  | [] => by simp [permL, Reps]
  | i :: idx => by
    have ih := Reps.perm h idx
    unfold permL at ih ⊢
    rw [List.filterMap_cons, List.filterMap_cons]
    cases q : ds[i]? with
    | none =>
      have : vs[i]? = none := by
        rw [List.getElem?_eq_none_iff] at q ⊢
        rw [h.length]; exact q
      rw [this]
      exact ih
    | some d =>
      obtain ⟨v, h1, h2⟩ := h.get' q
      rw [h1]
      show Reps K H A (d :: _) (v :: _)
      rw [Reps]
      exact ⟨v, _, rfl, h2, ih⟩
theorem evs_length : ∀ {fs : List VF} {ε ε' : Env'} {rs : List Ro}, evs fs ε = some (rs, ε') → rs.length = fs.length
  | [], ε, ε', rs, h => by cases h; rfl
  | f :: fs, ε, ε', rs, h => by
    rw [evs] at h
    split at h
    · split at h
      · rename_i rs' ε3 h5
        cases h
        rw [List.length_cons, List.length_cons, evs_length h5]
      · cases h
    · cases h
theorem allO_length : ∀ {rs : List Ro} {os : List O}, allO rs = some os → rs.length = os.length
  | [], os, h => by cases h; rfl
  | .o o :: rs, os, h => by
    rw [allO] at h
    split at h
    · rename_i os' h6
      cases h
      rw [List.length_cons, List.length_cons, allO_length h6]
    · cases h
  | .b i :: rs, os, h => by cases h
@[simp] def vCallD (G : Fn) (idx : List Nat) (fs : List VF) : VF := fun ε => match evs fs ε with
  | some (rs, ε1) => match allO rs with
    | some os => match G ((permL idx (O.vals os)).map O.fz) with
      | some (r, _) => some (.o r, ε1)
      | none => none
    | none => none
  | none => none
theorem callD_of {G : Fn} {n : Nat} {idx : List Nat} {fs : List VF} {H : Hp} {Q : VK} {E : XK} (hl : ∀ l : List V, l.length = fs.length → (permL idx l).length = n) (h : tV K T (vCallD G idx fs) σ H Q) : chain K T fs σ H fun vs H1 => vs.length = fs.length ∧ spF K T n G (permL idx vs) H1 Q E := by
  obtain ⟨M, R, ε, r, ε', ok, hf, post⟩ := h
  unfold vCallD at hf
  split at hf
  · rename_i rs ε1 h1
    split at hf
    · rename_i os h2
      split at hf
      · rename_i rr fin h3
        cases hf
        refine chain_of ok h1 fun vs H1 M1 F1 p => ?_
        have hr := Held.all p.rep h2
        have hd : Reps _ H1 (M1 ++ R) (O.vals os) vs := hr.freeze sub3 _ _ _ (Nodup.left2 p.ok.nd)
        have hlen : vs.length = fs.length := by
          rw [hr.length]
          rw [← allO_length h2, evs_length h1]
        have ok1 : Ok K T H1 M1 R ε' σ := p.ok.drop
        have okc : Ok K T H1 [] (M1 ++ R) ((((permL idx (O.vals os)).map O.fz)).map some) ((permL idx vs).map some) := ⟨(RepOs.data (hd.perm idx)).slots, ok1.nd, ok1.ls, ok1.tab⟩
        refine ⟨hlen, M1 ++ R, _, [], rr, fin, okc, hl vs hlen, h3, fun v H2 Ff Fr q => ?_⟩
        have kp : Keep T H1 [] H2 := q.stp.keep
        have fresh : ∀ a ∈ Ff ++ Fr, H1 a = none := fun a ha => (q.stp.sub a ha).elim (fun z => by cases z) id
        have ok2 : Ok K T H2 M1 (Fr ++ R) ε' σ := by
          have mem : ∀ a ∈ M1 ++ (Fr ++ R), a ∈ Ff ++ (Fr ++ (M1 ++ R)) := fun a ha => by
            simp only [List.mem_append] at ha ⊢
            rcases ha with z | z | z <;> simp [z]
          refine ⟨ok1.rep.mono kp ok1.tab .nil (fun a h => by cases h) (fun a ha => ?_) (fun a _ z => by cases z), ?_, q.ok.ls.sub mem, q.ok.tab⟩
          · rcases List.mem_append.mp ha with z | z
            · exact .inl (List.mem_append_left _ z)
            · rcases List.mem_append.mp z with z | z
              · exact .inr (fresh a (List.mem_append_right _ z))
              · exact .inl (List.mem_append_right _ z)
          · have nd := (List.nodup_append.mp q.ok.nd).2.1
            exact (sw Fr M1 R).nodup_iff.mp nd
        refine post v H2 M1 Fr ⟨ok2, ⟨fun b o e hm ht => kp b o (p.stp.keep b o e hm ht) (by simp) ht, fun b o e => ?_, fun a ha => ?_⟩, q.rep.anti (fun a ha => ?_) _ _ _⟩
        · obtain ⟨o', e'⟩ := p.stp.live b o e
          exact q.stp.live b o' e'
        · rcases List.mem_append.mp ha with z | z
          · exact p.stp.sub a (List.mem_append_left _ z)
          · exact .inr (p.stp.back (fresh a (List.mem_append_right _ z)))
        · simp only [List.mem_append] at ha ⊢
          rcases ha with z | z | z <;> simp [z]
      · cases hf
    · cases hf
  · cases hf
theorem chain_app : ∀ {fs gs : List VF} {H : Hp} {k : List V → Hp → Prop}, chain K T (fs ++ gs) σ H k → chain K T fs σ H fun vs H1 => chain K T gs σ H1 fun zs H2 => k (vs ++ zs) H2
  | [], gs, H, k, h => h
  | f :: fs, gs, H, k, ⟨M, R, ε, r, ε', ok, hf, post⟩ => ⟨M, R, ε, r, ε', ok, hf, fun v H' M' F p => chain_app (post v H' M' F p)⟩
theorem chain_len : ∀ {fs : List VF} {H : Hp} {k : List V → Hp → Prop}, chain K T fs σ H k → chain K T fs σ H fun vs H1 => vs.length = fs.length ∧ k vs H1
  | [], H, k, h => ⟨rfl, h⟩
  | f :: fs, H, k, ⟨M, R, ε, r, ε', ok, hf, post⟩ => ⟨M, R, ε, r, ε', ok, hf, fun v H' M' F p => chain_mono (chain_len (post v H' M' F p)) fun vs H2 q => ⟨by rw [List.length_cons, List.length_cons, q.1], q.2⟩⟩
/-- keywords -/
structure VK (X : Cx) (T : List Addr) (kws : List Keyword) (fs : List VF) : Prop where
  pk : PK X kws (fun σ H Q => chain X.K T fs σ H Q)
theorem PK.imp {kws : List Keyword} {t t' : TA} (h : PK X kws t) (i : ∀ σ H Q, t' σ H Q → t σ H Q) : PK X kws t' := ⟨fun p pins s σ H Q I q => h.run p pins s σ H Q I (i σ H Q q)⟩
theorem vk_nil : VK X T [] [] := ⟨PK.imp pk_nil fun _ _ _ h => h⟩
theorem vk_cons {e : Expr} {nm : Option Str} {kpos : Pos} {kws : List Keyword} {f : VF} {fs : List VF} (ha : VE X T e f) (hr : VK X T kws fs) : VK X T (⟨nm, e, kpos⟩ :: kws) (f :: fs) := ⟨PK.imp (pk_cons ha.pe hr.pk) fun _ _ _ h => h⟩
/-- f(a, .., k = b, ..), all data -/
theorem ve_callKN {x : Str} {f : Addr} {fd : FuncData} {ps ks : List Str} {n k : Nat} {G : Fn} {e : Expr} {es : List Expr} {kws : List Keyword} {fs gs : List VF} {p pos : Pos} {idx : List Nat} (Fk : FnOk X.prog X.w X.K X.mg X.base CX0 k f fd ps (spF X.K T n G)) (hr : Room k X.A) (hg : Gl X x) (hm : X.mg x = some (.ref f)) (hk : PySem.W.keepIn X.K (.ref f) = true)
    (hb : KBn X.K fd ps fs.length ks (fun us ws => permL idx (us ++ ws)) (fun vs zs => permL idx (vs ++ zs))) (ha : VA X T (e :: es) fs) (hkw : VK X T kws gs) (hl : ∀ l : List V, l.length = (fs ++ gs).length → (permL idx l).length = n) (hgl : gs.length = ks.length)
    (hall : (backToKw pos (keywordEach kws X.env)).all (·.1.isSome) = true := by rfl) (hks : (backToKw pos (keywordEach kws X.env)).filterMap (·.1) = ks := by rfl)
    (hdb : (x == ("__debug__" : Str)) = false := by decide) (he : starEach (e :: es) X.env = (false, eval e X.env) :: starEach es X.env := by rfl)
    (hpl : ((backTo pos (starEach (e :: es) X.env)).any (·.1) || (backToKw pos (keywordEach kws X.env)).any (·.1.isNone)) = false := by rfl) : VE X T (.Call (.Name x p) (e :: es) kws pos) (vCallD G idx (fs ++ gs)) := by
  refine ⟨PE.imp (pe_callN Fk hr hg hm hk hb pass0 ha.pa hkw.pk hall hks hdb he hpl) fun σ H Q h => ?_⟩
  refine chain_mono (chain_len (chain_app (callD_of (E := E0) hl h))) fun vs H1 q => ?_
  refine chain_mono (chain_len q.2) fun zs H2 q2 => ⟨q.1, q2.1.trans hgl, q2.2.2⟩
/-- f(k = b, ..), all data -/
theorem ve_callK0 {x : Str} {f : Addr} {fd : FuncData} {ps ks : List Str} {n k : Nat} {G : Fn} {kws : List Keyword} {gs : List VF} {p pos : Pos} {idx : List Nat} (Fk : FnOk X.prog X.w X.K X.mg X.base CX0 k f fd ps (spF X.K T n G)) (hr : Room k X.A) (hg : Gl X x) (hm : X.mg x = some (.ref f)) (hk : PySem.W.keepIn X.K (.ref f) = true)
    (hb : KBn X.K fd ps 0 ks (fun us ws => permL idx (us ++ ws)) (fun vs zs => permL idx (vs ++ zs))) (hkw : VK X T kws gs) (hl : ∀ l : List V, l.length = gs.length → (permL idx l).length = n) (hgl : gs.length = ks.length)
    (hall : (backToKw pos (keywordEach kws X.env)).all (·.1.isSome) = true := by rfl) (hks : (backToKw pos (keywordEach kws X.env)).filterMap (·.1) = ks := by rfl)
    (hdb : (x == ("__debug__" : Str)) = false := by decide)
    (hpl : ((backTo pos (starEach [] X.env)).any (·.1) || (backToKw pos (keywordEach kws X.env)).any (·.1.isNone)) = false := by rfl) : VE X T (.Call (.Name x p) [] kws pos) (vCallD G idx gs) := by
  refine ⟨⟨fun pins s σ H Q I h => ?_⟩⟩
  refine wpAny_Call_Name_kw (ld_glob I hg hm ?_ hdb)
  refine PySem.W.callWith_KW0 (h₀ := X.base) I.ok.mod.kin hk hall ?_ hpl
  have q := chain_len (callD_of (E := E0) hl h)
  refine thn (hkw.pk.run pos pins s σ H _ I q) fun ws s2 ⟨zs, H2, I2, rz, l1, l2, q2⟩ => ⟨I2.kIn, ?_⟩
  rw [hks]
  exact run_fnN (us := []) (vs := []) Fk hr hb pass0 I2 .nil rz rfl (l1.trans hgl) q2

/-! ### items popped, items stored -/
@[simp] def vPop (i : Nat) (f : VF) : VF := fun ε => match ε[i]? with
  | some (some (.own _)) => match f ε with
    | some (.o (.fz (.int n)), ε1) => match ε1[i]? with
      | some (some (.own l)) => if room l.length then match ixN l.length n with
          | some k => match l[k]? with
            | some o => some (.o o, ε1.set i (some (.own (l.eraseIdx k))))
            | none => none
          | none => none
        else none
      | _ => none
    | _ => none
  | _ => none
theorem Nodup.perm3 {a b c d : List Addr} (h : (a ++ b).Nodup) (p : a.Perm (c ++ d)) : (d ++ (b ++ c)).Nodup := by
  have q : (d ++ (b ++ c)).Perm (a ++ b) := by
    refine (List.Perm.append_left d List.perm_append_comm).trans ?_
    rw [← List.append_assoc]
    exact List.Perm.append_right b (List.perm_append_comm.trans p.symm)
  exact q.nodup_iff.mpr h
theorem ixN_63 {n : Nat} {i : Int} {k : Nat} (h : ixN n i = some k) (hr : room n = true) : -(2 ^ 63) ≤ i ∧ i < 2 ^ 63 ∧ seqIndex? i n = some k ∧ k < n := by
  obtain ⟨h1, h2, h3, h4⟩ := ixN_seq h
  have h := of_decide_eq_true ((room_eq n).symm.trans hr)
  refine ⟨by omega, by omega, h1, h2⟩
/-- the item at k leaves slot i's list -/
theorem Ok.popped {i k : Nat} {l : List O} {o : O} (ok : Ok K T H M R ε σ) (e : ε[i]? = some (some (.own l))) (hk : l[k]? = some o) : ∃ a vs y, σ[i]? = some (some (.ref a)) ∧ H a = some (.lst vs) ∧ vs.length = l.length ∧ vs[k]? = some y ∧
    ∃ M3 Fk, Post K T H M R (ε.set i (some (.own (l.eraseIdx k)))) σ o y (L2.upd H a (.lst (vs.eraseIdx k))) M3 Fk := by
  obtain ⟨a, vs, F', c1, c2, c3, c4, c5, c6, c7⟩ := Ok.change (F := []) (Fr := []) ok e
  obtain ⟨y, Fk, G, g1, g2, g3, g4⟩ := c4.at hk
  refine ⟨a, vs, y, c1, c2, c4.length, g1, ?_⟩
  have nda : a ∉ F' := fun z => (List.nodup_cons.mp c5).1 (List.mem_append_left _ z)
  have ndF : F'.Nodup := by
    have := (List.nodup_cons.mp c5).2
    rw [List.append_nil] at this
    exact this
  have hA : a ∈ M ++ ([] ++ R) := List.mem_append_left _ c3
  have nG : a ∉ G := fun z => nda (g2.mem_iff.mpr (List.mem_append_right _ z))
  have nK : a ∉ Fk := fun z => nda (g2.mem_iff.mpr (List.mem_append_left _ z))
  obtain ⟨M3, k3, s3, s4⟩ := c7 (l.eraseIdx k) (vs.eraseIdx k) G Fk ((g2.trans List.perm_append_comm).nodup_iff.mp ndF) (fun b hb => by
    rw [List.append_nil]
    exact (g2.trans List.perm_append_comm).mem_iff.mpr hb) (g4.upd (vs' := vs) ok.tab (lists1 c2) hA nG)
  have inM : ∀ b ∈ M3 ++ Fk, b ∈ M := fun b hb => (List.mem_append.mp hb).elim (fun z => by simpa using s3 b z) fun z => c6 b (g2.mem_iff.mpr (List.mem_append_left _ z))
  refine ⟨M3, Fk, k3, Stp.upd c3 inM, (g3.upd ok.tab (lists1 c2) hA nK).anti (fun b hb => ?_) _ _ _⟩
  rcases List.mem_append.mp hb with z | z
  · exact List.mem_append_left _ (inM b (List.mem_append_left _ z))
  · rcases List.mem_append.mp z with z | z
    · exact List.mem_append_left _ (inM b (List.mem_append_right _ z))
    · exact List.mem_append_right _ z
theorem ve_pop {i : Nat} {o e : Expr} {f : VF} {apos cpos : Pos} (he : PE X (.Call (.Attribute o "pop" apos) [e] [] cpos) (tBM X.K "list" rPopAt (tVar i) (fun σ H Q => chain X.K T [f] σ H Q))) : VE X T (.Call (.Attribute o "pop" apos) [e] [] cpos) (vPop i f) := by
  refine ⟨PE.imp he fun σ H Q h => ?_⟩
  obtain ⟨M, R, ε, r, ε', ok, hf, post⟩ := h
  unfold vPop at hf
  split at hf
  · rename_i l0 e0
    split at hf
    · rename_i n ε1 h1
      split at hf
      · rename_i l e1
        split at hf
        · rename_i hr
          split at hf
          · rename_i k hk
            split at hf
            · rename_i o1 ho
              cases hf
              obtain ⟨v, F0, g1, g2, g3⟩ := ok.rep.get e0
              rw [RepO] at g2
              obtain ⟨a0, vs0, _, rfl, ha0, _, _⟩ := g2
              refine ⟨_, g1, .inl ⟨rfl, vs0, SqL.of ha0⟩, ?_⟩
              refine ⟨M, R, ε, _, ε1, ok, h1, fun y H1 M1 F1 p1 => ?_⟩
              obtain ⟨rfl, rfl, ok1, st1⟩ := Post.int p1
              obtain ⟨a, vs, y, c1, c2, c3, c4, M3, Fk, c5⟩ := ok1.popped e1 ho
              rw [g1] at c1
              cases c1
              obtain ⟨b1, b2, b3, b4⟩ := ixN_63 hk hr
              rw [← c3] at b3
              exact ⟨a0, vs, n, k, y, rfl, rfl, c2, b1, b2, b3, c4, post _ _ M3 Fk (c5.before st1)⟩
            · cases hf
          · cases hf
        · cases hf
      · cases hf
    · cases hf
  · cases hf
/-- x.pop() -/
@[simp] def vPop0 (i : Nat) : VF := fun ε => match ε[i]? with
  | some (some (.own l)) => match l[l.length - 1]? with
    | some o => some (.o o, ε.set i (some (.own (l.eraseIdx (l.length - 1)))))
    | none => none
  | _ => none
theorem eraseIdx_last {α : Type} : ∀ l : List α, l.eraseIdx (l.length - 1) = l.dropLast
  | [] => rfl
  | [_] => rfl
  | x :: y :: l => by
    have ih := eraseIdx_last (y :: l)
    rw [List.length_cons, Nat.add_sub_cancel]
    rw [List.length_cons, Nat.add_sub_cancel] at ih
    show (x :: y :: l).eraseIdx (l.length + 1) = x :: (y :: l).dropLast
    rw [List.eraseIdx_cons_succ, ih]
theorem ve_pop0 {i : Nat} {o : Expr} {apos cpos : Pos} (he : PE X (.Call (.Attribute o "pop" apos) [] [] cpos) (tBM0 X.K "list" rPop (tVar i))) : VE X T (.Call (.Attribute o "pop" apos) [] [] cpos) (vPop0 i) := by
  refine ⟨PE.imp he fun σ H Q h => ?_⟩
  obtain ⟨M, R, ε, r, ε', ok, hf, post⟩ := h
  unfold vPop0 at hf
  split at hf
  · rename_i l e0
    split at hf
    · rename_i o1 ho
      cases hf
      obtain ⟨a, vs, y, c1, c2, c3, c4, M3, Fk, c5⟩ := ok.popped e0 ho
      refine ⟨_, c1, .inl ⟨rfl, vs, SqL.of c2⟩, a, vs, y, rfl, rfl, c2, by rw [c3]; exact c4, ?_⟩
      have e2 : vs.eraseIdx (l.length - 1) = vs.dropLast := by rw [← c3, eraseIdx_last]
      rw [e2] at c5
      exact post _ _ M3 Fk c5
    · cases hf
  · cases hf
/-- slot i's list gets o at k -/
theorem Ok.stored {i k : Nat} {l : List O} {o : O} {y : V} (ok : Ok K T H M (F ++ R) ε σ) (ho : RepO K H (M ++ (F ++ R)) o y F) (e : ε[i]? = some (some (.own l))) (hk : k < l.length) : ∃ a vs, σ[i]? = some (some (.ref a)) ∧ H a = some (.lst vs) ∧ vs.length = l.length ∧ a ∈ M ∧
    ∃ M3, Ok K T (L2.upd H a (.lst (vs.set k y))) M3 R (ε.set i (some (.own (l.set k o)))) σ ∧ ∀ b ∈ M3, b ∈ M ++ F := by
  obtain ⟨a, vs, F', c1, c2, c3, c4, c5, c6, c7⟩ := Ok.change (Fr := []) ok e
  obtain ⟨z, Fk, G, g1, g2, g3, g4⟩ := c4.at (List.getElem?_eq_getElem hk)
  refine ⟨a, vs, c1, c2, c4.length, c3, ?_⟩
  have nda : a ∉ F' ++ F := (List.nodup_cons.mp c5).1
  have ndF : (F' ++ F).Nodup := (List.nodup_cons.mp c5).2
  have hA : a ∈ M ++ (F ++ R) := List.mem_append_left _ c3
  have nG : a ∉ G := fun z => nda (List.mem_append_left _ (g2.mem_iff.mpr (List.mem_append_right _ z)))
  have nF : a ∉ F := fun z => nda (List.mem_append_right _ z)
  have kv : k < vs.length := by rw [c4.length]; exact hk
  obtain ⟨G', p', r'⟩ := RepOs.back (g4.upd (vs' := vs) (ws := vs.set k y) ok.tab (lists1 c2) hA nG) (ho.upd ok.tab (lists1 c2) hA nF) hk kv
  have mem : ∀ b ∈ G' ++ [], b ∈ F' ++ F := fun b hb => by
    rw [List.append_nil] at hb
    rcases List.mem_append.mp (p'.mem_iff.mp hb) with z | z
    · exact List.mem_append_right _ z
    · exact List.mem_append_left _ (g2.mem_iff.mpr (List.mem_append_right _ z))
  have nd' : (G' ++ []).Nodup := by
    rw [List.append_nil]
    refine p'.nodup_iff.mpr ?_
    have h1 := List.nodup_append.mp ndF
    have h2 := List.nodup_append.mp (g2.nodup_iff.mp h1.1)
    refine List.nodup_append.mpr ⟨h1.2.1, h2.2.1, fun x hx z hz e => ?_⟩
    subst e
    exact h1.2.2 x (g2.mem_iff.mpr (List.mem_append_right _ hz)) x hx rfl
  obtain ⟨M3, k3, s3, _⟩ := c7 (l.set k o) (vs.set k y) G' [] nd' mem r'
  exact ⟨M3, k3, s3⟩
/-- x[h] = f -/
@[simp] def sSetI (i : Nat) (h : Pl) (f : VF) : SF := fun ε => match f ε with
  | some (.o o, ε1) => match ε1[i]?, h ε1 with
    | some (some (.own l)), some (.fz (.int n)) => match ixN l.length n with
      | some k => some (.nx, ε1.set i (some (.own (l.set k o))))
      | none => none
    | _, _ => none
  | _ => none
theorem vs_setI {i : Nat} {o j e : Expr} {h : Pl} {f : VF} {pos spos : Pos} (hs : PS X (.Assign [.Subscript o j pos] e spos) (tAsg (tV X.K T f) (gSub (tVar i) (tP X.K T h) rSetL))) : VS X T P (.Assign [.Subscript o j pos] e spos) (sSetI i h f) := by
  refine ⟨PS.imp hs fun D σ H hh => ?_⟩
  obtain ⟨M, R, ε, fl, ε', ok, hf, post⟩ := hh
  unfold sSetI at hf
  split at hf
  · rename_i o1 ε1 h1
    split at hf
    · rename_i l n e1 e2
      split at hf
      · rename_i k hk
        cases hf
        refine ⟨M, R, ε, _, _, ok, h1, fun v H1 M1 F1 p1 => ?_⟩
        have p1 : Post _ T H M R ε1 σ o1 v H1 M1 F1 := p1
        obtain ⟨_, hk1, _, _⟩ := ixN_seq hk
        obtain ⟨a, vs, c1, c2, c3, c4, M3, c5, c6⟩ := p1.ok.stored p1.rep e1 hk1
        refine ⟨_, c1, M1, F1 ++ R, ε1, _, p1.ok, e2, fun w F2 r2 _ => ?_⟩
        rw [RepO, Rep] at r2
        obtain ⟨_, rfl⟩ := r2
        exact ⟨a, vs, n, k, rfl, rfl, c2, by rw [c3]; exact hk, post σ _ M3 ⟨c5, p1.stp.trans (Stp.upd (List.mem_append_left _ c4) c6), .refl⟩⟩
      · cases hf
    · cases hf
  · cases hf
end
end
end VS


set_option Elab.async false
set_option linter.all false
/-! VS9: the rules where a def's body stands (its facts by one look each); the end of a law. -/
namespace VS
noncomputable section
open PySem PySem.Spec PyProof.Rows L2

/-- where a body (or a block in it) stands -/
structure CF (Pg : Program) (w : World) (K : PySem.W.Frag) (mg : Str → Option Value) (base : Heap) (N : List Str) (k : Nat) (X : Cx) (sc : Scope) (fb : Str → Bool) : Prop where
  eP : X.prog = Pg
  eW : X.w = w
  eK : X.K = K
  eM : X.mg = mg
  eB : X.base = base
  eN : X.N = N
  nd : N.Nodup
  eS : X.env.scope = sc
  calm : X.calm = true
  room : Room k X.A
  xe : X.xe = fun _ _ => False
  fn : X.fn = fb
def okName (x : Str) : Bool := !(x == ("__debug__" : Str)) && !(x == ("__classdict__" : Str)) && !(x == ("__name__" : Str))
def rdB (N : List Str) (sc : Scope) (i : Nat) (x : Str) : Bool := (N[i]? == some x) && okName x && (match sc.names.lookup x with
  | some .local => true
  | some .cell => true
  | some .free => true
  | _ => false)
def stB (N : List Str) (sc : Scope) (fb : Str → Bool) (i : Nat) (x : Str) : Bool := (N[i]? == some x) && (match sc.names.lookup x with
  | some .local => true
  | some .cell => fb x
  | _ => false)
def glB (sc : Scope) (x : Str) : Bool := okName x && (sc.names.lookup x == some .globalImplicit)
theorem okName_iff {x : Str} (h : okName x = true) : (x == ("__debug__" : Str)) = false ∧ (x == ("__classdict__" : Str)) = false ∧ x ≠ "__name__" := by
  unfold okName at h
  rw [Bool.and_eq_true, Bool.and_eq_true] at h
  refine ⟨by simpa using h.1.1, by simpa using h.1.2, by simpa using h.2⟩
section
variable {Pg : Program} {w : World} {K : PySem.W.Frag} {mg : Str → Option Value} {base : Heap} {N : List Str} {k : Nat} {X : Cx} {sc : Scope} {fb : Str → Bool} {T : List Addr} {P : List Nat}
theorem rdB_iff {i : Nat} {x : Str} (h : rdB N sc i x = true) : N[i]? = some x ∧ okName x = true ∧ (sc.names.lookup x = some .local ∨ sc.names.lookup x = some .cell ∨ sc.names.lookup x = some .free) := by
  unfold rdB at h
  rw [Bool.and_eq_true, Bool.and_eq_true] at h
  refine ⟨by simpa using h.1.1, h.1.2, ?_⟩
  have q := h.2
  split at q
  · exact .inl (by assumption)
  · exact .inr (.inl (by assumption))
  · exact .inr (.inr (by assumption))
  · cases q
theorem stB_iff {i : Nat} {x : Str} (h : stB N sc fb i x = true) : N[i]? = some x ∧ (sc.names.lookup x = some .local ∨ (sc.names.lookup x = some .cell ∧ fb x = true)) := by
  unfold stB at h
  rw [Bool.and_eq_true] at h
  refine ⟨by simpa using h.1, ?_⟩
  have q := h.2
  split at q
  · exact .inl (by assumption)
  · exact .inr ⟨by assumption, q⟩
  · cases q
theorem CF.hu (c : CF Pg w K mg base N k X sc fb) : X.A.units + 64 < cLine := c.room.units
theorem CF.gl (c : CF Pg w K mg base N k X sc fb) {x : Str} (h : glB sc x = true) : Gl X x ∧ okName x = true := by
  unfold glB at h
  rw [Bool.and_eq_true] at h
  refine ⟨?_, h.1⟩
  show X.env.scope.names.lookup x = some .globalImplicit
  rw [c.eS]
  simpa using h.2
theorem CF.tv (c : CF Pg w K mg base N k X sc fb) {i : Nat} {x : Str} {pos : Pos} (h : rdB N sc i x = true) : PE X (.Name x pos) (tVar i) := by
  obtain ⟨h1, h2, h3⟩ := rdB_iff h
  obtain ⟨o1, o2, o3⟩ := okName_iff h2
  exact pe_var (by rw [c.eN]; exact h1) (by unfold Vis; rw [c.eS]; exact h3) o1 o2
theorem CF.rd (c : CF Pg w K mg base N k X sc fb) {i : Nat} {x : Str} {pos : Pos} (h : rdB N sc i x = true) : VE X T (.Name x pos) (vRd i) := by
  obtain ⟨h1, h2, h3⟩ := rdB_iff h
  obtain ⟨o1, o2, o3⟩ := okName_iff h2
  exact ve_rd (by rw [c.eN]; exact h1) (by unfold Vis; rw [c.eS]; exact h3) o1 o2
theorem CF.mv (c : CF Pg w K mg base N k X sc fb) {i : Nat} {x : Str} {pos : Pos} (h : rdB N sc i x = true) : VE X T (.Name x pos) (vMv i) := by
  obtain ⟨h1, h2, h3⟩ := rdB_iff h
  obtain ⟨o1, o2, o3⟩ := okName_iff h2
  exact ve_mv (by rw [c.eN]; exact h1) (by unfold Vis; rw [c.eS]; exact h3) o1 o2
theorem CF.bw (c : CF Pg w K mg base N k X sc fb) {i : Nat} {x : Str} {pos : Pos} (h : rdB N sc i x = true) : VE X T (.Name x pos) (vBw i) := by
  obtain ⟨h1, h2, h3⟩ := rdB_iff h
  obtain ⟨o1, o2, o3⟩ := okName_iff h2
  exact ve_bw (by rw [c.eN]; exact h1) (by unfold Vis; rw [c.eS]; exact h3) o1 o2
theorem CF.pn (c : CF Pg w K mg base N k X sc fb) {i : Nat} {x : Str} {pos : Pos} (h : rdB N sc i x = true) : VP X T (.Name x pos) (gN i) := by
  obtain ⟨h1, h2, h3⟩ := rdB_iff h
  obtain ⟨o1, o2, o3⟩ := okName_iff h2
  exact vp_name (by rw [c.eN]; exact h1) (by unfold Vis; rw [c.eS]; exact h3) o1 o2
theorem CF.loc (c : CF Pg w K mg base N k X sc fb) {i : Nat} {x : Str} (h : stB N sc fb i x = true) : X.N.Nodup ∧ X.N[i]? = some x ∧ Loc X.env.scope x ∧ (X.fn x = true ∨ X.env.scope.names.lookup x = some .local) := by
  obtain ⟨h1, h2⟩ := stB_iff h
  refine ⟨by rw [c.eN]; exact c.nd, by rw [c.eN]; exact h1, ?_, ?_⟩
  · unfold L2.Loc
    rw [c.eS]
    exact h2.elim .inl fun z => .inr z.1
  · rw [c.eS, c.fn]
    exact h2.elim .inr fun z => .inl z.2
theorem CF.set (c : CF Pg w K mg base N k X sc fb) {i : Nat} {x : Str} {e : Expr} {f : VF} {pos pos' : Pos} (h : stB N sc fb i x = true) (hP : i ∉ P) (he : VE X T e f) (hs : swapsWith e (some (.Name x pos')) pos.line X.env = pure false := by rfl) : VS X T P (.Assign [.Name x pos'] e pos) (sSet i f) := by
  obtain ⟨h1, h2, h3, h4⟩ := c.loc h
  exact vs_set h1 h2 h3 hP he (ps_set h1 h2 h3 he.pe hs h4)
theorem CF.gn (c : CF Pg w K mg base N k X sc fb) {i : Nat} {x : Str} {pos : Pos} (h : stB N sc fb i x = true) (hP : i ∉ P) : VG X T P (.Name x pos) (bName i) := by
  obtain ⟨h1, h2, h3, h4⟩ := c.loc h
  exact vg_name h1 h2 h3 hP (pg_name h1 h2 h3 h4)
theorem CF.gt (c : CF Pg w K mg base N k X sc fb) {tgs : List Expr} {j : Nat} {pos : Pos} {bs : List BF} (h : VGs X T P tgs bs) (hn : (assignEach tgs X.env).length = bs.length := by rfl) (hst : (assignEach tgs X.env).findIdx? (·.1) = none := by rfl) : VG X T P (.Tuple tgs j pos) (bTup bs) :=
  vg_tup (pg_tup c.calm h.pg hn hst)
theorem CF.asg (c : CF Pg w K mg base N k X sc fb) {tg e : Expr} {f : VF} {b : BF} {pos : Pos} (he : VE X T e f) (hg : VG X T P tg b) (hs : swapsWithSole [tg] e pos.line X.env = pure false := by rfl) (hw : swappedStores [tg] e X.env = pure none := by rfl)
    (h1 : (assignEach [tg] X.env).map (·.2) = [assign tg X.env] := by rfl) : VS X T P (.Assign [tg] e pos) (sAsg f b) := vs_asg hg (ps_asg he.pe hg.pg hs hw h1)
theorem CF.for (c : CF Pg w K mg base N k X sc fb) {tg e : Expr} {body : List Stmt} {it : Env' → Option (List D × Env')} {b : BF} {f : SF} {pos : Pos} (hi : VI X T tg e it) (hg : VG X T P tg b) (hb : VSs X T P body f)
    (hs : ∀ x, foldedSetIterable e X.env x = pure x := by intro _; rfl) : VS X T P (.For tg e body [] pos) (sFor it b f) :=
  vs_for (by rw [c.xe]; exact PassesOwn.never) c.calm hi hg hb hs
theorem vex {e : Expr} {f : VF} {pos : Pos} (h : VE X T e f) (hs : swapsWith e none pos.line X.env = pure false := by rfl) : VS X T P (.Expr e pos) (sExpr f) := vs_expr h (ps_expr h.pe hs)
/-- a built-in's call -/
theorem CF.cb (c : CF Pg w K mg base N k X sc fb) {x : Str} {id : String} {p : List D → Option O} {e : Expr} {es : List Expr} {fs : List VF} {pn pos : Pos} (hc : CallR X (.builtin id) (rP X.K T p)) (hg : glB sc x = true) (hm : mg x = none) (hv : bootBuiltins x = some (.builtin id)) (ha : VA X T (e :: es) fs)
    (he : starEach (e :: es) X.env = (false, eval e X.env) :: starEach es X.env := by rfl) (hpl : (backTo pos (starEach es X.env)).any (·.1) = false := by rfl) : VE X T (.Call (.Name x pn) (e :: es) [] pos) (vPrim p fs) := by
  obtain ⟨h1, h2⟩ := c.gl hg
  obtain ⟨o1, o2, o3⟩ := okName_iff h2
  exact ve_callB hc h1 (by rw [c.eM]; exact hm) hv ha o3 o1 he hpl
theorem CF.cbp (c : CF Pg w K mg base N k X sc fb) {x : Str} {id : String} {p : List D → Option O} {e : Expr} {g : Pl} {pn pos : Pos} (hc : CallR X (.builtin id) (rP X.K T p)) (hg : glB sc x = true) (hm : mg x = none) (hv : bootBuiltins x = some (.builtin id)) (ha : VP X T e g)
    (he : starEach [e] X.env = (false, eval e X.env) :: starEach [] X.env := by rfl) (hpl : (backTo pos (starEach [] X.env)).any (·.1) = false := by rfl) : VE X T (.Call (.Name x pn) [e] [] pos) (vPrP p g) := by
  obtain ⟨h1, h2⟩ := c.gl hg
  obtain ⟨o1, o2, o3⟩ := okName_iff h2
  exact ve_callBP hc h1 (by rw [c.eM]; exact hm) hv ha o3 o1 he hpl
theorem CF.ct (c : CF Pg w K mg base N k X sc fb) {x : Str} {ty : String} {p : List D → Option O} {e : Expr} {es : List Expr} {fs : List VF} {pn pos : Pos} (hc : CallR X (.type ty) (rP X.K T p)) (hg : glB sc x = true) (hm : mg x = none) (hv : bootBuiltins x = some (.type ty)) (ha : VA X T (e :: es) fs)
    (he : starEach (e :: es) X.env = (false, eval e X.env) :: starEach es X.env := by rfl) (hpl : (backTo pos (starEach es X.env)).any (·.1) = false := by rfl) : VE X T (.Call (.Name x pn) (e :: es) [] pos) (vPrim p fs) := by
  obtain ⟨h1, h2⟩ := c.gl hg
  obtain ⟨o1, o2, o3⟩ := okName_iff h2
  exact ve_callTy hc h1 (by rw [c.eM]; exact hm) hv ha o3 o1 he hpl
theorem CF.tuple (c : CF Pg w K mg base N k X sc fb) {a : Expr} {f : VF} {p pos : Pos} (hg : glB sc "tuple" = true) (hm : mg "tuple" = none) (ha : VE X T a f) (na : starEach [a] X.env = (false, eval a X.env) :: starEach [] X.env := by rfl) : VE X T (.Call (.Name "tuple" p) [a] [] pos) (vUn pTuple f) :=
  ve_tuple (c.gl hg).1 (by rw [c.eM]; exact hm) ha na
theorem CF.isi (c : CF Pg w K mg base N k X sc fb) {a : Expr} {x : Str} {t : String} {f : VF} {p p2 pos : Pos} (hg : glB sc "isinstance" = true) (hm : mg "isinstance" = none) (hg2 : glB sc x = true) (hm2 : mg x = none) (hv : bootBuiltins x = some (.type t)) (ht : isiOk t) (ha : VE X T a f)
    (he : starEach [a, .Name x p2] X.env = (false, eval a X.env) :: starEach [.Name x p2] X.env := by rfl) (he2 : starEach [.Name x p2] X.env = (false, eval (.Name x p2) X.env) :: starEach [] X.env := by rfl) (hpl : (backTo pos (starEach [.Name x p2] X.env)).any (·.1) = false := by rfl) : VE X T (.Call (.Name "isinstance" p) [a, .Name x p2] [] pos) (vUn (pIsi t) f) := by
  obtain ⟨h1, h2⟩ := c.gl hg2
  obtain ⟨o1, o2, o3⟩ := okName_iff h2
  exact ve_isi (c.gl hg).1 (by rw [c.eM]; exact hm) h1 (by rw [c.eM]; exact hm2) hv ht ha o3 o1 he he2 hpl
theorem CF.r1 (c : CF Pg w K mg base N k X sc fb) {tg a : Expr} {f : VF} {p pos : Pos} (hg : glB sc "range" = true) (hm : mg "range" = none) (ha : VE X T a f) (hs : starEach [a] X.env = [(false, eval a X.env)] := by rfl) : VI X T tg (.Call (.Name "range" p) [a] [] pos) (itR1 f) :=
  vi_range1 (c.gl hg).1 (by rw [c.eM]; exact hm) (va_cons ha va_nil hs) hs
theorem CF.r2 (c : CF Pg w K mg base N k X sc fb) {tg a b : Expr} {f g : VF} {p pos : Pos} (hg : glB sc "range" = true) (hm : mg "range" = none) (ha : VE X T a f) (hb : VE X T b g) (hs : starEach [a, b] X.env = [(false, eval a X.env), (false, eval b X.env)] := by rfl) (hs2 : starEach [b] X.env = [(false, eval b X.env)] := by rfl) : VI X T tg (.Call (.Name "range" p) [a, b] [] pos) (itR2 f g) :=
  vi_range2 (c.gl hg).1 (by rw [c.eM]; exact hm) (va_cons ha (va_cons hb va_nil hs2) (by rw [hs, hs2])) hs hs2
/-- a def's call -/
theorem CF.call (c : CF Pg w K mg base N k X sc fb) {x : Str} {f : Addr} {fd : FuncData} {ps : List Str} {n j : Nat} {G : Fn} {e : Expr} {es : List Expr} {fs : List VF} {p pos : Pos} (Fk : FnOk Pg w K mg base CX0 j f fd ps (spF K T n G)) (hj : j ≤ k) (hg : glB sc x = true) (hm : mg x = some (.ref f)) (hk : PySem.W.keepIn K (.ref f) = true) (hb : L2.Binds K fd ps [])
    (ha : VA X T (e :: es) fs) (hl : fs.length = n) (he : starEach (e :: es) X.env = (false, eval e X.env) :: starEach es X.env := by rfl) (hpl : (backTo pos (starEach es X.env)).any (·.1) = false := by rfl) : VE X T (.Call (.Name x p) (e :: es) [] pos) (vCall G fs) := by
  obtain ⟨h1, h2⟩ := c.gl hg
  obtain ⟨o1, o2, o3⟩ := okName_iff h2
  obtain ⟨rfl, rfl, rfl, rfl, rfl, _, _, _, _, rm, _, _⟩ := c
  exact ve_call Fk (rm.mono hj) h1 hm hk hb ha hl o1 he hpl
theorem CF.callK0 (c : CF Pg w K mg base N k X sc fb) {x : Str} {f : Addr} {fd : FuncData} {ps ks : List Str} {n j : Nat} {G : Fn} {kws : List Keyword} {gs : List VF} {p pos : Pos} {idx : List Nat} (Fk : FnOk Pg w K mg base CX0 j f fd ps (spF K T n G)) (hj : j ≤ k) (hg : glB sc x = true) (hm : mg x = some (.ref f)) (hk : PySem.W.keepIn K (.ref f) = true)
    (hb : KBn K fd ps 0 ks (fun us ws => permL idx (us ++ ws)) (fun vs zs => permL idx (vs ++ zs))) (hkw : VK X T kws gs) (hl : ∀ l : List V, l.length = gs.length → (permL idx l).length = n) (hgl : gs.length = ks.length)
    (hall : (backToKw pos (keywordEach kws X.env)).all (·.1.isSome) = true := by rfl) (hks : (backToKw pos (keywordEach kws X.env)).filterMap (·.1) = ks := by rfl)
    (hpl : ((backTo pos (starEach [] X.env)).any (·.1) || (backToKw pos (keywordEach kws X.env)).any (·.1.isNone)) = false := by rfl) : VE X T (.Call (.Name x p) [] kws pos) (vCallD G idx gs) := by
  obtain ⟨h1, h2⟩ := c.gl hg
  obtain ⟨o1, o2, o3⟩ := okName_iff h2
  obtain ⟨rfl, rfl, rfl, rfl, rfl, _, _, _, _, rm, _, _⟩ := c
  exact ve_callK0 Fk (rm.mono hj) h1 hm hk hb hkw hl hgl hall hks o1 hpl
/-- a block's place -/
theorem CF.blk (c : CF Pg w K mg base N k X sc fb) (scope : Scope) (s : Shared) (H : Hp) (C : Addr) (cl : List (Str × Addr)) (fp : List Addr) : CF Pg w K mg base N k (X.blk s H scope (compEnvC scope cl C X.env) fp) (relS scope sc) (fun x => scope.names.lookup x == some .cell) := by
  refine ⟨c.eP, c.eW, c.eK, c.eM, c.eB, c.eN, c.nd, ?_, c.calm, c.room, rfl, rfl⟩
  have := c.eS
  subst this
  rfl
theorem CF.lc (c : CF Pg w K mg base N k X sc fb) {elt tg iter : Expr} {ifs : List Expr} {scope : Scope} {own : List (Str × Nat)} {pos : Pos} {it : Env' → Option (List D × Env')} {b : BF} {cc : TF} {f : VF} {n : Nat} (ok : blkC N sc scope own = true) (hi : VI X T tg iter it)
    (hg : ∀ X', CF Pg w K mg base N k X' (relS scope sc) (fun x => scope.names.lookup x == some .cell) → VG X' T (notIn (own.map (·.2)) n) tg b) (ht : ∀ X', CF Pg w K mg base N k X' (relS scope sc) (fun x => scope.names.lookup x == some .cell) → VTs X' T ifs cc)
    (he : ∀ X', CF Pg w K mg base N k X' (relS scope sc) (fun x => scope.names.lookup x == some .cell) → VE X' T elt f) (hs : ∀ x, foldedSetIterable iter X.env x = pure x := by intro _; rfl) : VE X T (.ListComp elt [⟨tg, iter, ifs, 0⟩] scope pos) (vLc n (own.map (·.2)) it b cc f) :=
  ve_lc c.calm (by rw [c.eN]; exact c.nd) hi (by rw [c.eN, c.eS]; exact blkOk_by ok) (fun s H C cl fp => hg _ (c.blk scope s H C cl fp)) (fun s H C cl fp => ht _ (c.blk scope s H C cl fp)) (fun s H C cl fp => he _ (c.blk scope s H C cl fp)) hs
def swB (sc scope : Scope) (y : Str) (l l2 : Nat) : Bool := decide (sc.kind = .function) && (sc.names.lookup y == some .local) && (l == l2) && !(scope.names.any fun (n, k) => n == y && (k == .local || k == .cell))
theorem CF.setLc (c : CF Pg w K mg base N k X sc fb) {i : Nat} {y : Str} {py : Pos} {elt tg iter : Expr} {ifs : List Expr} {scope : Scope} {own : List (Str × Nat)} {pos spos : Pos} {it : Env' → Option (List D × Env')} {b : BF} {cc : TF} {f : VF} {n : Nat} (h : stB N sc fb i y = true) (hP : i ∉ P) (hsw : swB sc scope y py.line pos.line = true) (ok : blkC N sc scope own = true) (hi : VI X T tg iter it)
    (hg : ∀ X', CF Pg w K mg base N k X' (relS scope sc) (fun x => scope.names.lookup x == some .cell) → VG X' T (notIn (own.map (·.2)) n) tg b) (ht : ∀ X', CF Pg w K mg base N k X' (relS scope sc) (fun x => scope.names.lookup x == some .cell) → VTs X' T ifs cc)
    (he : ∀ X', CF Pg w K mg base N k X' (relS scope sc) (fun x => scope.names.lookup x == some .cell) → VE X' T elt f) (hs : ∀ x, foldedSetIterable iter X.env x = pure x := by intro _; rfl) : VS X T P (.Assign [.Name y py] (.ListComp elt [⟨tg, iter, ifs, 0⟩] scope pos) spos) (sSet i (vLc n (own.map (·.2)) it b cc f)) := by
  obtain ⟨h1, h2, h3, h4⟩ := c.loc h
  unfold swB at hsw
  rw [Bool.and_eq_true, Bool.and_eq_true, Bool.and_eq_true] at hsw
  obtain ⟨⟨⟨s1, s2⟩, s3⟩, s4⟩ := hsw
  have hyl : X.env.scope.names.lookup y = some .local := by rw [c.eS]; simpa using s2
  refine vs_setLc c.calm h1 h2 hyl h3 hP (sw_true (by rw [c.eS]; exact of_decide_eq_true s1) hyl s3 (by simpa using s4)) hi (by rw [c.eN, c.eS]; exact blkOk_by ok) (fun s H C cl fp => hg _ (c.blk scope s H C cl fp)) (fun s H C cl fp => ht _ (c.blk scope s H C cl fp)) (fun s H C cl fp => he _ (c.blk scope s H C cl fp)) hs
/-- y = [..] where the block's own store is no swap: y is a cell -/
def swN (sc : Scope) (y : Str) : Bool := !(sc.names.lookup y == some .local)
theorem CF.setLcN (c : CF Pg w K mg base N k X sc fb) {i : Nat} {y : Str} {py : Pos} {elt : Expr} {gens : List Comprehension} {scope : Scope} {pos spos : Pos} {f : VF} (h : stB N sc fb i y = true) (hP : i ∉ P) (hsw : swN sc y = true) (he : VE X T (.ListComp elt gens scope pos) f) : VS X T P (.Assign [.Name y py] (.ListComp elt gens scope pos) spos) (sSet i f) := by
  refine c.set h hP he ?_
  have e : (X.env.kindOf y == some .local) = false := by
    show (X.env.scope.names.lookup y == some .local) = false
    rw [c.eS]
    simpa [swN] using hsw
  unfold swapsWith
  simp only [e]
  simp
theorem CF.app (c : CF Pg w K mg base N k X sc fb) {i : Nat} {x : Str} {e : Expr} {f : VF} {np apos cpos : Pos} (h : rdB N sc i x = true) (he : VE X T e f) (hs : starEach [e] X.env = (false, eval e X.env) :: starEach [] X.env := by rfl) (hbase : attributeBase (.Name x np) "append" X.env (eval (.Name x np) X.env) = eval (.Name x np) X.env := by rfl)
    (hfew : ((backTo cpos (starEach [e] X.env)).all (fun x => !x.1) && (backToKw cpos (keywordEach [] X.env)).all (fun x => x.1.isSome) && decide (([e] : List Expr).length + ([] : List Keyword).length + (if ([] : List Keyword).isEmpty then 0 else 1) < 30)) = true := by rfl)
    (hline : (apos.endLine == cpos.line) = true := by rfl) (hplain : (backTo cpos (starEach [] X.env)).any (·.1) = false := by rfl) : VE X T (.Call (.Attribute (.Name x np) "append" apos) [e] [] cpos) (vApp i f) :=
  ve_app (x := x) (c.tv h) (pe_bm PySem.F.plainAttrs_list PySem.F.slot_list_append PySem.F.type_list_append mt_append (c.tv h) (va_cons he va_nil hs).pa hbase hfew hline hs hplain)
theorem CF.pop (c : CF Pg w K mg base N k X sc fb) {i : Nat} {x : Str} {e : Expr} {f : VF} {np apos cpos : Pos} (h : rdB N sc i x = true) (he : VE X T e f) (hs : starEach [e] X.env = (false, eval e X.env) :: starEach [] X.env := by rfl) (hbase : attributeBase (.Name x np) "pop" X.env (eval (.Name x np) X.env) = eval (.Name x np) X.env := by rfl)
    (hfew : ((backTo cpos (starEach [e] X.env)).all (fun x => !x.1) && (backToKw cpos (keywordEach [] X.env)).all (fun x => x.1.isSome) && decide (([e] : List Expr).length + ([] : List Keyword).length + (if ([] : List Keyword).isEmpty then 0 else 1) < 30)) = true := by rfl)
    (hline : (apos.endLine == cpos.line) = true := by rfl) (hplain : (backTo cpos (starEach [] X.env)).any (·.1) = false := by rfl) : VE X T (.Call (.Attribute (.Name x np) "pop" apos) [e] [] cpos) (vPop i f) :=
  ve_pop (pe_bm PySem.F.plainAttrs_list PySem.F.slot_list_pop PySem.F.type_list_pop mt_popAt (c.tv h) (va_cons he va_nil hs).pa hbase hfew hline hs hplain)
theorem CF.setI (c : CF Pg w K mg base N k X sc fb) {i : Nat} {x : Str} {j e : Expr} {g : Pl} {f : VF} {np pos spos : Pos} (h : rdB N sc i x = true) (hj : VP X T j g) (he : VE X T e f)
    (ha : ∀ v, assign (.Subscript (.Name x np) j pos) X.env v = (do
      let ov ← holding [v] (eval (.Name x np) X.env)
      let iv ← holding [v, ov] (eval j X.env)
      standAt pos
      holding [v, ov, iv] (setItem ov iv v)
      release [v, ov, iv] []) := by intro _; rfl)
    (hs : swapsWithSole [.Subscript (.Name x np) j pos] e spos.line X.env = pure false := by rfl) (hw : swappedStores [.Subscript (.Name x np) j pos] e X.env = pure none := by rfl)
    (h1 : (assignEach [.Subscript (.Name x np) j pos] X.env).map (·.2) = [assign (.Subscript (.Name x np) j pos) X.env] := by rfl) : VS X T P (.Assign [.Subscript (.Name x np) j pos] e spos) (sSetI i g f) :=
  vs_setI (ps_asg he.pe (pg_sub (c.tv h) hj.pe set_list ha) hs hw h1)
end
end
end VS


set_option Elab.async false
set_option linter.all false
/-! VS10: lists in lists changed; several names stored at once; the end of a law. -/
namespace VS
noncomputable section
open PySem PySem.Spec PyProof.Rows L2
section
variable {K : PySem.W.Frag} {T : List Addr} {P : List Nat} {H H' H'' : Hp} {M M' M'' R R' F F' A A' : List Addr} {ε ε' : Env'} {σ σ' σ'' : L2.St} {X : Cx}

theorem Ok.change2 {i j : Nat} {l l2 : List O} (k : Ok K T H M (F ++ R) ε σ) (e : ε[i]? = some (some (.own l))) (hj : l[j]? = some (.own l2)) : ∃ a vs a2 vs2 F2, σ[i]? = some (some (.ref a)) ∧ H a = some (.lst vs) ∧ vs.length = l.length ∧ vs[j]? = some (.ref a2) ∧ H a2 = some (.lst vs2) ∧ a2 ∈ M ∧ RepOs K H (M ++ (F ++ R)) l2 vs2 F2 ∧ (a2 :: (F2 ++ F)).Nodup ∧ (∀ b ∈ F2, b ∈ M) ∧
    ∀ l' vs' G Fr, (G ++ Fr).Nodup → (∀ b ∈ G ++ Fr, b ∈ F2 ++ F) → RepOs K (L2.upd H a2 (.lst vs')) (M ++ (F ++ R)) l' vs' G → ∃ M3, Ok K T (L2.upd H a2 (.lst vs')) M3 (Fr ++ R) (ε.set i (some (.own (l.set j (.own l'))))) σ ∧ (∀ b ∈ M3, b ∈ M ++ F) ∧ (∀ b ∈ M3, b ∉ Fr) := by
  obtain ⟨v, Fi, M1, h1, h2, h3, h4⟩ := k.take e
  have h3' := h3
  rw [RepO] at h3'
  obtain ⟨a, vs, F', rfl, ha, rfl, rl⟩ := h3'
  obtain ⟨y, Fk, G0, g1, g2, g3, g4⟩ := rl.at hj
  have g3' := g3
  rw [RepO] at g3'
  obtain ⟨a2, vs2, F2, rfl, ha2, rfl, r2⟩ := g3'
  have hjl : j < l.length := (List.getElem?_eq_some_iff.mp hj).1
  have hjv : j < vs.length := by rw [rl.length]; exact hjl
  have nd4 : ((a :: F') ++ (F ++ R)).Nodup := (List.nodup_append.mp h4.nd).2.1
  have inM : ∀ b ∈ a :: F', b ∈ M := fun b hb => h2.mem_iff.mpr (List.mem_append_left _ hb)
  have inF' : ∀ b ∈ (a2 :: F2) ++ G0, b ∈ F' := fun b hb => g2.mem_iff.mpr hb
  have ndF' : ((a2 :: F2) ++ G0).Nodup := g2.nodup_iff.mp (List.nodup_cons.mp (List.nodup_append.mp nd4).1).2
  have naF' : a ∉ F' := (List.nodup_cons.mp (List.nodup_append.mp nd4).1).1
  have a2F' : a2 ∈ F' := inF' a2 (List.mem_append_left _ List.mem_cons_self)
  have nea : a ≠ a2 := fun z => naF' (z ▸ a2F')
  have disF : ∀ b ∈ F', b ∉ F := fun b hb z => (List.nodup_append.mp nd4).2.2 b (List.mem_cons_of_mem _ hb) b (List.mem_append_left _ z) rfl
  have ndFR : (F ++ R).Nodup := (List.nodup_append.mp nd4).2.1
  refine ⟨a, vs, a2, vs2, F2, h1, ha, rl.length, g1, ha2, inM a2 (List.mem_cons_of_mem _ a2F'), r2, ?_, fun b hb => inM b (List.mem_cons_of_mem _ (inF' b (List.mem_append_left _ (List.mem_cons_of_mem _ hb)))), fun l' vs' G Fr hn hs hr => ?_⟩
  · refine List.nodup_cons.mpr ⟨fun z => ?_, List.nodup_append.mpr ⟨(List.nodup_cons.mp (List.nodup_append.mp ndF').1).2, (List.nodup_append.mp ndFR).1, fun x hx z hz e => ?_⟩⟩
    · rcases List.mem_append.mp z with z | z
      · exact (List.nodup_cons.mp (List.nodup_append.mp ndF').1).1 z
      · exact disF a2 a2F' z
    · subst e
      exact disF x (inF' x (List.mem_append_left _ (List.mem_cons_of_mem _ hx))) hz
  · have k5 : Ok K T (L2.upd H a2 (.lst vs')) M1 ((a :: F') ++ (F ++ R)) (ε.set i none) σ := h4.upd (List.mem_append_left _ (List.mem_cons_of_mem _ a2F'))
    have na2G0 : a2 ∉ G0 := fun z => (List.nodup_append.mp ndF').2.2 a2 List.mem_cons_self a2 z rfl
    have hAA : a2 ∈ M ++ (F ++ R) := List.mem_append_left _ (inM a2 (List.mem_cons_of_mem _ a2F'))
    have r4 := g4.upd (vs' := vs) (ws := vs') k.tab (lists1 ha2) hAA na2G0
    have ro : RepO K (L2.upd H a2 (.lst vs')) (M ++ (F ++ R)) (.own l') (.ref a2) (a2 :: G) := by
      rw [RepO]
      exact ⟨a2, vs', G, rfl, upd_same, rfl, hr⟩
    obtain ⟨G', p', r'⟩ := RepOs.back r4 ro hjl hjv
    rw [set_back g1] at r'
    have m1 : ∀ b ∈ G', b = a2 ∨ b ∈ G ∨ b ∈ G0 := fun b hb => by
      rcases List.mem_append.mp (p'.mem_iff.mp hb) with z | z
      · exact (List.mem_cons.mp z).elim .inl fun z => .inr (.inl z)
      · exact .inr (.inr z)
    have inS : ∀ b ∈ G ++ Fr, b ∈ F' ∨ b ∈ F := fun b hb => (List.mem_append.mp (hs b hb)).elim (fun z => .inl (inF' b (List.mem_append_left _ (List.mem_cons_of_mem _ z)))) .inr
    have na2S : ∀ b ∈ G ++ Fr, b ≠ a2 := fun b hb z => by
      subst z
      rcases List.mem_append.mp (hs b hb) with z | z
      · exact (List.nodup_cons.mp (List.nodup_append.mp ndF').1).1 z
      · exact disF b a2F' z
    have nG0S : ∀ b ∈ G ++ Fr, b ∉ G0 := fun b hb z => by
      rcases List.mem_append.mp (hs b hb) with y | y
      · exact (List.nodup_append.mp ndF').2.2 b (List.mem_cons_of_mem _ y) b z rfl
      · exact disF b (inF' b (List.mem_append_right _ z)) y
    have sub : ∀ b ∈ (a :: G') ++ (Fr ++ R), b ∈ (a :: F') ++ (F ++ R) := fun b hb => by
      rcases List.mem_append.mp hb with z | z
      · rcases List.mem_cons.mp z with rfl | z
        · exact List.mem_append_left _ List.mem_cons_self
        · rcases m1 b z with rfl | z | z
          · exact List.mem_append_left _ (List.mem_cons_of_mem _ a2F')
          · rcases inS b (List.mem_append_left _ z) with z | z
            · exact List.mem_append_left _ (List.mem_cons_of_mem _ z)
            · exact List.mem_append_right _ (List.mem_append_left _ z)
          · exact List.mem_append_left _ (List.mem_cons_of_mem _ (inF' b (List.mem_append_right _ z)))
      · rcases List.mem_append.mp z with z | z
        · rcases inS b (List.mem_append_right _ z) with z | z
          · exact List.mem_append_left _ (List.mem_cons_of_mem _ z)
          · exact List.mem_append_right _ (List.mem_append_left _ z)
        · exact List.mem_append_right _ (List.mem_append_right _ z)
    have ndG' : (G' ++ Fr).Nodup := by
      have hn' := List.nodup_append.mp hn
      refine List.nodup_append.mpr ⟨p'.nodup_iff.mpr (List.nodup_append.mpr ⟨List.nodup_cons.mpr ⟨fun z => na2S a2 (List.mem_append_left _ z) rfl, hn'.1⟩, (List.nodup_append.mp ndF').2.1, fun x hx z hz e => ?_⟩), hn'.2.1, fun x hx z hz e => ?_⟩
      · subst e
        rcases List.mem_cons.mp hx with rfl | hx
        · exact na2G0 hz
        · exact nG0S x (List.mem_append_left _ hx) hz
      · subst e
        rcases m1 x hx with rfl | y | y
        · exact na2S x (List.mem_append_right _ hz) rfl
        · exact hn'.2.2 x y x hz rfl
        · exact nG0S x (List.mem_append_right _ hz) y
    have ndR : ((a :: G') ++ (Fr ++ R)).Nodup := by
      have q1 := List.nodup_append.mp nd4
      show (a :: (G' ++ (Fr ++ R))).Nodup
      rw [← List.append_assoc]
      refine List.nodup_cons.mpr ⟨fun z => ?_, List.nodup_append.mpr ⟨ndG', (List.nodup_append.mp ndFR).2.1, fun x hx y hy e => ?_⟩⟩
      · rcases List.mem_append.mp z with z | z
        · rcases List.mem_append.mp z with z | z
          · rcases m1 a z with z | z | z
            · exact nea z
            · rcases inS a (List.mem_append_left _ z) with z | z
              · exact naF' z
              · exact q1.2.2 a List.mem_cons_self a (List.mem_append_left _ z) rfl
            · exact naF' (inF' a (List.mem_append_right _ z))
          · rcases inS a (List.mem_append_right _ z) with z | z
            · exact naF' z
            · exact q1.2.2 a List.mem_cons_self a (List.mem_append_left _ z) rfl
        · exact q1.2.2 a List.mem_cons_self a (List.mem_append_right _ z) rfl
      · subst e
        have fromF' : x ∈ F' → False := fun z => q1.2.2 x (List.mem_cons_of_mem _ z) x (List.mem_append_right _ hy) rfl
        have fromF : x ∈ F → False := fun z => (List.nodup_append.mp ndFR).2.2 x z x hy rfl
        rcases List.mem_append.mp hx with z | z
        · rcases m1 x z with rfl | z | z
          · exact fromF' a2F'
          · exact (inS x (List.mem_append_left _ z)).elim fromF' fromF
          · exact fromF' (inF' x (List.mem_append_right _ z))
        · exact (inS x (List.mem_append_right _ z)).elim fromF' fromF
    have k6 : Ok K T (L2.upd H a2 (.lst vs')) M1 ((a :: G') ++ (Fr ++ R)) (ε.set i none) σ := k5.other sub ndR
    have memA : ∀ b ∈ M1 ++ ((a :: G') ++ (Fr ++ R)), b ∈ M ++ (F ++ R) := fun b hb => by
      rcases List.mem_append.mp hb with z | z
      · exact List.mem_append_left _ (h2.mem_iff.mpr (List.mem_append_right _ z))
      · rcases List.mem_append.mp (sub b z) with z | z
        · exact List.mem_append_left _ (inM b z)
        · exact List.mem_append_right _ z
    obtain ⟨M3, p3, k7⟩ := k6.put' (o := .own (l.set j (.own l'))) (v := .ref a) (by
      rw [RepO]
      exact ⟨a, vs, G', rfl, by rw [upd_ne nea]; exact ha, rfl, r'.anti memA _ _ _⟩) h1
    refine ⟨M3, k7, fun b hb => ?_, fun b hb z => k7.apart (List.mem_append_left _ z) hb⟩
    rcases List.mem_append.mp (p3.mem_iff.mp hb) with z | z
    · rcases List.mem_cons.mp z with rfl | z
      · exact List.mem_append_left _ (inM _ List.mem_cons_self)
      · rcases m1 b z with rfl | z | z
        · exact List.mem_append_left _ (inM _ (List.mem_cons_of_mem _ a2F'))
        · exact (inS b (List.mem_append_left _ z)).elim (fun z => List.mem_append_left _ (inM b (List.mem_cons_of_mem _ z))) fun z => List.mem_append_right _ z
        · exact List.mem_append_left _ (inM b (List.mem_cons_of_mem _ (inF' b (List.mem_append_right _ z))))
    · exact List.mem_append_left _ (h2.mem_iff.mpr (List.mem_append_right _ z))

/-- x[h].pop(g) -/
@[simp] def vPop2 (i : Nat) (h g : Pl) : VF := fun ε => match ε[i]?, h ε, g ε with
  | some (some (.own l)), some (.fz (.int n)), some (.fz (.int m)) => match ixN l.length n with
    | some k => match l[k]? with
      | some (.own l2) => if room l2.length then match ixN l2.length m with
          | some j => match l2[j]? with
            | some o => some (.o o, ε.set i (some (.own (l.set k (.own (l2.eraseIdx j))))))
            | none => none
          | none => none
        else none
      | _ => none
    | none => none
  | _, _, _ => none
theorem ve_pop2 {i : Nat} {o e : Expr} {h g : Pl} {apos cpos : Pos} (he : PE X (.Call (.Attribute o "pop" apos) [e] [] cpos) (tBM X.K "list" rPopAt (tOp (rIxL X.K) (tVar i) (tP X.K T h)) (tCons (tP X.K T g) tNil))) : VE X T (.Call (.Attribute o "pop" apos) [e] [] cpos) (vPop2 i h g) := by
  refine ⟨PE.imp he fun σ H Q hh => ?_⟩
  obtain ⟨M, R, ε, r, ε', ok, hf, post⟩ := hh
  unfold vPop2 at hf
  split at hf
  · rename_i l n m e1 e2 e3
    split at hf
    · rename_i k hk
      split at hf
      · rename_i l2 hl2
        split at hf
        · rename_i hr
          split at hf
          · rename_i j hj
            split at hf
            · rename_i o1 ho
              cases hf
              obtain ⟨a, vs, a2, vs2, F2, c1, c2, c3, c4, c5, c6, c7, c8, c9, c10⟩ := Ok.change2 (F := []) ok e1 hl2
              refine ⟨_, c1, M, R, ε, _, ok, e2, fun w Fw rw_ _ => ?_⟩
              rw [RepO, Rep] at rw_
              obtain ⟨_, rfl⟩ := rw_
              refine ⟨a, vs, n, .ref a2, rfl, rfl, SqL.of c2, atI_of hk c3 c4, .inl ⟨rfl, vs2, SqL.of c5⟩, M, R, ε, _, ok, e3, fun w2 Fw2 rw2 _ => ?_⟩
              rw [RepO, Rep] at rw2
              obtain ⟨_, rfl⟩ := rw2
              obtain ⟨y, Fk, G, g1, g2, g3, g4⟩ := c7.at ho
              obtain ⟨b1, b2, b3, b4⟩ := ixN_63 hj hr
              have nda : a2 ∉ F2 := fun z => (List.nodup_cons.mp c8).1 (List.mem_append_left _ z)
              have ndF : F2.Nodup := by
                have := (List.nodup_cons.mp c8).2
                rw [List.append_nil] at this
                exact this
              have hA : a2 ∈ M ++ ([] ++ R) := List.mem_append_left _ c6
              have nG : a2 ∉ G := fun z => nda (g2.mem_iff.mpr (List.mem_append_right _ z))
              have nK : a2 ∉ Fk := fun z => nda (g2.mem_iff.mpr (List.mem_append_left _ z))
              obtain ⟨M3, k3, s3, s4⟩ := c10 (l2.eraseIdx j) (vs2.eraseIdx j) G Fk ((g2.trans List.perm_append_comm).nodup_iff.mp ndF) (fun b hb => by
                rw [List.append_nil]
                exact (g2.trans List.perm_append_comm).mem_iff.mpr hb) (g4.upd (vs' := vs2) ok.tab (lists1 c5) hA nG)
              have inM : ∀ b ∈ M3 ++ Fk, b ∈ M := fun b hb => (List.mem_append.mp hb).elim (fun z => by simpa using s3 b z) fun z => c9 b (g2.mem_iff.mpr (List.mem_append_left _ z))
              refine ⟨a2, vs2, m, j, y, rfl, rfl, c5, b1, b2, by rw [c7.length]; exact b3, g1, post _ _ M3 Fk ⟨k3, Stp.upd c6 inM, (g3.upd ok.tab (lists1 c5) hA nK).anti (fun b hb => ?_) _ _ _⟩⟩
              rcases List.mem_append.mp hb with z | z
              · exact List.mem_append_left _ (inM b (List.mem_append_left _ z))
              · rcases List.mem_append.mp z with z | z
                · exact List.mem_append_left _ (inM b (List.mem_append_right _ z))
                · exact List.mem_append_right _ z
            · cases hf
          · cases hf
        · cases hf
      · cases hf
    · cases hf
  · cases hf
/-- x[h1][h2] = f -/
@[simp] def sSetI2 (i : Nat) (h g : Pl) (f : VF) : SF := fun ε => match f ε with
  | some (.o o, ε1) => match ε1[i]?, h ε1, g ε1 with
    | some (some (.own l)), some (.fz (.int n)), some (.fz (.int m)) => match ixN l.length n with
      | some k => match l[k]? with
        | some (.own l2) => match ixN l2.length m with
          | some j => some (.nx, ε1.set i (some (.own (l.set k (.own (l2.set j o))))))
          | none => none
        | _ => none
      | none => none
    | _, _, _ => none
  | _ => none
theorem vs_setI2 {i : Nat} {o j e : Expr} {h g : Pl} {f : VF} {pos spos : Pos} (hs : PS X (.Assign [.Subscript o j pos] e spos) (tAsg (tV X.K T f) (gSub (tOp (rIxL X.K) (tVar i) (tP X.K T h)) (tP X.K T g) rSetL))) : VS X T P (.Assign [.Subscript o j pos] e spos) (sSetI2 i h g f) := by
  refine ⟨PS.imp hs fun D σ H hh => ?_⟩
  obtain ⟨M, R, ε, fl, ε', ok, hf, post⟩ := hh
  unfold sSetI2 at hf
  split at hf
  · rename_i o1 ε1 h1
    split at hf
    · rename_i l n m e1 e2 e3
      split at hf
      · rename_i k hk
        split at hf
        · rename_i l2 hl2
          split at hf
          · rename_i j2 hj
            cases hf
            refine ⟨M, R, ε, _, _, ok, h1, fun v H1 M1 F1 p1 => ?_⟩
            have p1 : Post _ T H M R ε1 σ o1 v H1 M1 F1 := p1
            obtain ⟨a, vs, a2, vs2, F2, c1, c2, c3, c4, c5, c6, c7, c8, c9, c10⟩ := Ok.change2 p1.ok e1 hl2
            refine ⟨_, c1, M1, F1 ++ R, ε1, _, p1.ok, e2, fun w Fw rw_ _ => ?_⟩
            rw [RepO, Rep] at rw_
            obtain ⟨_, rfl⟩ := rw_
            refine ⟨a, vs, n, .ref a2, rfl, rfl, SqL.of c2, atI_of hk c3 c4, M1, F1 ++ R, ε1, _, p1.ok, e3, fun w2 Fw2 rw2 _ => ?_⟩
            rw [RepO, Rep] at rw2
            obtain ⟨_, rfl⟩ := rw2
            obtain ⟨_, hj1, _, _⟩ := ixN_seq hj
            obtain ⟨z, Fk, G, g1, g2, g3, g4⟩ := c7.at (List.getElem?_eq_getElem hj1)
            have nda : a2 ∉ F2 ++ F1 := (List.nodup_cons.mp c8).1
            have ndF : (F2 ++ F1).Nodup := (List.nodup_cons.mp c8).2
            have hA : a2 ∈ M1 ++ (F1 ++ R) := List.mem_append_left _ c6
            have nG : a2 ∉ G := fun z => nda (List.mem_append_left _ (g2.mem_iff.mpr (List.mem_append_right _ z)))
            have nF : a2 ∉ F1 := fun z => nda (List.mem_append_right _ z)
            have kv : j2 < vs2.length := by rw [c7.length]; exact hj1
            obtain ⟨G', p', r'⟩ := RepOs.back (g4.upd (vs' := vs2) (ws := vs2.set j2 v) p1.ok.tab (lists1 c5) hA nG) (p1.rep.upd p1.ok.tab (lists1 c5) hA nF) hj1 kv
            have mem : ∀ b ∈ G' ++ [], b ∈ F2 ++ F1 := fun b hb => by
              rw [List.append_nil] at hb
              rcases List.mem_append.mp (p'.mem_iff.mp hb) with z | z
              · exact List.mem_append_right _ z
              · exact List.mem_append_left _ (g2.mem_iff.mpr (List.mem_append_right _ z))
            have nd' : (G' ++ []).Nodup := by
              rw [List.append_nil]
              refine p'.nodup_iff.mpr ?_
              have h1 := List.nodup_append.mp ndF
              have h2 := List.nodup_append.mp (g2.nodup_iff.mp h1.1)
              refine List.nodup_append.mpr ⟨h1.2.1, h2.2.1, fun x hx z hz e => ?_⟩
              subst e
              exact h1.2.2 x (g2.mem_iff.mpr (List.mem_append_right _ hz)) x hx rfl
            obtain ⟨M3, k3, s3, _⟩ := c10 (l2.set j2 o1) (vs2.set j2 v) G' [] nd' mem r'
            exact ⟨a2, vs2, m, j2, rfl, rfl, c5, by rw [c7.length]; exact hj, post σ _ M3 ⟨k3, p1.stp.trans (Stp.upd (List.mem_append_left _ c6) s3), .refl⟩⟩
          · cases hf
        · cases hf
      · cases hf
    · cases hf
  · cases hf

/-! ### several names at once -/
@[simp] def setAll : List Nat → List O → Env' → Option Env'
  | [], [], ε => some ε
  | i :: is, o :: os, ε => if i < ε.length then setAll is os (ε.set i (some o)) else none
  | _, _, _ => none
def setAllV : List Nat → List V → L2.St → L2.St
  | i :: is, v :: vs, σ => setAllV is vs (σ.set i (some v))
  | _, _, σ => σ
/-- a, b = e1, e2 -/
@[simp] def sPar (is : List Nat) (fs : List VF) : SF := fun ε => match evs fs ε with
  | some (rs, ε1) => match allO rs with
    | some os => if room os.length then match setAll is os ε1 with
        | some ε2 => some (.nx, ε2)
        | none => none
      else none
    | none => none
  | none => none
theorem setAll_ok : ∀ {is : List Nat} {os : List O} {vs : List V} {F M : List Addr} {ε ε' : Env'} {σ : L2.St}, Ok K T H M (F ++ R) ε σ → RepOs K H A os vs F → (∀ a ∈ M ++ (F ++ R), a ∈ A) → setAll is os ε = some ε' → (∀ i ∈ is, i ∉ P) → ∃ M', Ok K T H M' R ε' (setAllV is vs σ) ∧ (∀ a ∈ M', a ∈ M ++ F) ∧ Same' P σ (setAllV is vs σ)
  | [], [], vs, F, M, ε, ε', σ, ok, h, hA, e, _ => by
    cases e
    rw [RepOs] at h
    obtain ⟨rfl, rfl⟩ := h
    exact ⟨M, ok, fun a h => List.mem_append_left _ h, .refl⟩
  | [], o :: os, vs, F, M, ε, ε', σ, ok, h, hA, e, _ => by cases e
  | i :: is, [], vs, F, M, ε, ε', σ, ok, h, hA, e, _ => by cases e
  | i :: is, o :: os, vs, F, M, ε, ε', σ, ok, h, hA, e, hP => by
    rw [setAll] at e
    split at e
    · rename_i hl
      rw [RepOs] at h
      obtain ⟨v, r, F1, F2, rfl, rfl, h1, h2⟩ := h
      rw [List.append_assoc] at ok
      obtain ⟨M1, s1, k1⟩ := ok.setNone i
      have memA : ∀ a ∈ M1 ++ (F1 ++ (F2 ++ R)), a ∈ A := fun a ha => hA a (by
        rw [List.append_assoc]
        exact (List.mem_append.mp ha).elim (fun z => List.mem_append_left _ (s1 a z)) fun z => List.mem_append_right _ z)
      obtain ⟨M2, p2, k2⟩ := k1.put (i := i) (h1.anti memA _ _ _) hl
      have m2 : ∀ a ∈ M2, a ∈ M ++ F1 := fun a ha => (List.mem_append.mp (p2.mem_iff.mp ha)).elim (fun z => List.mem_append_right _ z) fun z => List.mem_append_left _ (s1 a z)
      obtain ⟨M3, k3, s3, q3⟩ := setAll_ok k2 h2 (fun a ha => hA a (by
        rcases List.mem_append.mp ha with z | z
        · rcases List.mem_append.mp (m2 a z) with z | z
          · exact List.mem_append_left _ z
          · exact List.mem_append_right _ (List.mem_append_left _ (List.mem_append_left _ z))
        · rcases List.mem_append.mp z with z | z
          · exact List.mem_append_right _ (List.mem_append_left _ (List.mem_append_right _ z))
          · exact List.mem_append_right _ (List.mem_append_right _ z))) e fun j hj => hP j (List.mem_cons_of_mem _ hj)
      refine ⟨M3, k3, fun a ha => ?_, (Same'.set (hP i List.mem_cons_self)).trans q3⟩
      rcases List.mem_append.mp (s3 a ha) with z | z
      · rcases List.mem_append.mp (m2 a z) with z | z
        · exact List.mem_append_left _ z
        · exact List.mem_append_right _ (List.mem_append_left _ z)
      · exact List.mem_append_right _ (List.mem_append_right _ z)
    · cases e
def gNm : List Nat → TGs
  | [] => gNil
  | i :: is => gCons (gName i) (gNm is)
theorem gNm_of : ∀ {is : List Nat} {vs : List V} {σ : L2.St} {H : Hp} {Q : L2.St → Hp → Prop}, vs.length = is.length → Q (setAllV is vs σ) H → gNm is vs σ H Q
  | [], [], σ, H, Q, _, q => ⟨rfl, q⟩
  | i :: is, v :: vs, σ, H, Q, hl, q => ⟨v, vs, rfl, gNm_of (by simpa using hl) q⟩
  | [], v :: vs, σ, H, Q, hl, q => by simp at hl
  | i :: is, [], σ, H, Q, hl, q => by simp at hl
theorem setAll_len : ∀ {is : List Nat} {os : List O} {ε ε' : Env'}, setAll is os ε = some ε' → os.length = is.length
  | [], [], ε, ε', _ => rfl
  | i :: is, o :: os, ε, ε', h => by
    rw [setAll] at h
    split at h
    · rw [List.length_cons, List.length_cons, setAll_len h]
    · cases h
  | [], o :: os, ε, ε', h => by cases h
  | i :: is, [], ε, ε', h => by cases h
/-- the stores, behind the values -/
theorem sPar_of {is : List Nat} {fs : List VF} {D : Ends} {H : Hp} (hP : ∀ i ∈ is, i ∉ P) (h : tS K T P (sPar is fs) D σ H) : chain K T fs σ H fun vs H1 => vs.length = is.length ∧ vs.length ≤ sizeLine ∧ ∀ H2, Same H1 H2 → D.nx (setAllV is vs σ) H2 := by
  obtain ⟨M, R, ε, fl, ε', ok, hf, post⟩ := h
  unfold sPar at hf
  split at hf
  · rename_i rs ε1 h1
    split at hf
    · rename_i os h2
      split at hf
      · rename_i hr
        split at hf
        · rename_i ε2 h3
          cases hf
          refine chain_of ok h1 fun vs H1 M1 F1 p => ?_
          have ho := Held.all p.rep h2
          refine ⟨ho.length.trans (setAll_len h3), by rw [ho.length]; exact room_line hr, fun H2 sm => ?_⟩
          have ok2 := p.ok.same sm
          have ho2 : RepOs K H2 (M1 ++ (F1 ++ R)) os vs F1 := ho.mono (T := T) (M := []) (Keep.ofSame sm) p.ok.tab .nil (fun a h => by cases h) (fun a h => .inl h) _ _ _ fun a _ z => by cases z
          obtain ⟨M3, k3, s3, q3⟩ := setAll_ok ok2 ho2 (fun a h => h) h3 hP
          exact post _ H2 M3 ⟨k3, (p.stp.trans (Stp.ofSame sm)).less s3, q3⟩
        · cases hf
      · cases hf
    · cases hf
  · cases hf
theorem vs_par {tgs es : List Expr} {is : List Nat} {fs : List VF} {k1 k2 : Nat} {p1 p2 pos : Pos} (hP : ∀ i ∈ is, i ∉ P) (hs : PS X (.Assign [.Tuple tgs k1 p1] (.Tuple es k2 p2) pos) (tAsg (tTup (fun σ H Q => chain X.K T fs σ H Q)) (gTup X.K is.length (gNm is)))) : VS X T P (.Assign [.Tuple tgs k1 p1] (.Tuple es k2 p2) pos) (sPar is fs) := by
  refine ⟨PS.imp hs fun D σ H h => chain_mono (sPar_of hP h) fun vs H1 q => ⟨q.2.1, fun p hp => ⟨p, vs, rfl, SqT.of upd_same, q.1, gNm_of q.1 (q.2.2 _ fun b o e => by rw [upd_ne (ne_of_none e hp)]; exact e)⟩⟩⟩
theorem vs_par2 {x y : Str} {px py pt pt2 pos : Pos} {kt k2 : Nat} {a b : Expr} {i j : Nat} {f g : VF} (hP : ∀ k ∈ [i, j], k ∉ P) (hs : PS X (.Assign [.Tuple [.Name x px, .Name y py] kt pt] (.Tuple [a, b] k2 pt2) pos) (tPar i j (fun σ H Q => chain X.K T [f, g] σ H Q))) : VS X T P (.Assign [.Tuple [.Name x px, .Name y py] kt pt] (.Tuple [a, b] k2 pt2) pos) (sPar [i, j] [f, g]) := by
  refine ⟨PS.imp hs fun D σ H h => chain_mono (sPar_of hP h) fun vs H1 q => ?_⟩
  obtain ⟨hl, _, q⟩ := q
  match vs, hl with
  | [v, w], _ => exact ⟨v, w, rfl, q H1 (.refl _)⟩
/-- a list unpacked -/
@[simp] def bUnl (bs : List BF) : BF := fun d ε => match d with
  | .lst ds => if ds.length = bs.length then bAll bs ds ε else none
  | _ => none
theorem vg_unl {tgs : List Expr} {k : Nat} {pos : Pos} {bs : List BF} (hpg : PG X (.Tuple tgs k pos) (gUnl X.K bs.length (gBs X.K T P bs))) : VG X T P (.Tuple tgs k pos) (bUnl bs) := by
  refine ⟨PG.imp hpg fun v σ H Q h => ?_⟩
  obtain ⟨M, R, ε, d, ε', ok, hr, hf, post⟩ := h
  unfold bUnl at hf
  split at hf
  · rename_i ds
    split at hf
    · rename_i hl
      rw [Rep] at hr
      obtain ⟨a, vs, e, h1, _, h2⟩ := hr
      exact ⟨a, vs, e, SqL.of h1, h2.length.trans hl, M, R, ε, ds, ε', ok, h2, hf, post⟩
    · cases hf
  · cases hf
end
section
variable {Pg : Program} {w : World} {K : PySem.W.Frag} {mg : Str → Option Value} {base : Heap} {N : List Str} {k : Nat} {X : Cx} {sc : Scope} {fb : Str → Bool} {T : List Addr} {P : List Nat}
theorem CF.pop2 (c : CF Pg w K mg base N k X sc fb) {i : Nat} {x : Str} {e j : Expr} {h g : Pl} {np sp apos cpos : Pos} (hx : rdB N sc i x = true) (hj : VP X T j h) (hpl : PlainIx j) (he : VP X T e g) (hs : starEach [e] X.env = (false, eval e X.env) :: starEach [] X.env := by rfl) (hbase : attributeBase (.Subscript (.Name x np) j sp) "pop" X.env (eval (.Subscript (.Name x np) j sp) X.env) = eval (.Subscript (.Name x np) j sp) X.env := by rfl)
    (hfew : ((backTo cpos (starEach [e] X.env)).all (fun x => !x.1) && (backToKw cpos (keywordEach [] X.env)).all (fun x => x.1.isSome) && decide (([e] : List Expr).length + ([] : List Keyword).length + (if ([] : List Keyword).isEmpty then 0 else 1) < 30)) = true := by rfl)
    (hline : (apos.endLine == cpos.line) = true := by rfl) (hplain : (backTo cpos (starEach [] X.env)).any (·.1) = false := by rfl) : VE X T (.Call (.Attribute (.Subscript (.Name x np) j sp) "pop" apos) [e] [] cpos) (vPop2 i h g) :=
  ve_pop2 (pe_bm PySem.F.plainAttrs_list PySem.F.slot_list_pop PySem.F.type_list_pop mt_popAt (pe_ix ix_list (c.tv hx) hj.pe hpl) (pa_cons he.pe pa_nil hs) hbase hfew hline hs hplain)
theorem CF.setI2 (c : CF Pg w K mg base N k X sc fb) {i : Nat} {x : Str} {j j2 e : Expr} {g g2 : Pl} {f : VF} {np pos pos2 spos : Pos} (h : rdB N sc i x = true) (hj : VP X T j g) (hpl : PlainIx j) (hj2 : VP X T j2 g2) (he : VE X T e f)
    (ha : ∀ v, assign (.Subscript (.Subscript (.Name x np) j pos2) j2 pos) X.env v = (do
      let ov ← holding [v] (eval (.Subscript (.Name x np) j pos2) X.env)
      let iv ← holding [v, ov] (eval j2 X.env)
      standAt pos
      holding [v, ov, iv] (setItem ov iv v)
      release [v, ov, iv] []) := by intro _; rfl)
    (hs : swapsWithSole [.Subscript (.Subscript (.Name x np) j pos2) j2 pos] e spos.line X.env = pure false := by rfl) (hw : swappedStores [.Subscript (.Subscript (.Name x np) j pos2) j2 pos] e X.env = pure none := by rfl)
    (h1 : (assignEach [.Subscript (.Subscript (.Name x np) j pos2) j2 pos] X.env).map (·.2) = [assign (.Subscript (.Subscript (.Name x np) j pos2) j2 pos) X.env] := by rfl) : VS X T P (.Assign [.Subscript (.Subscript (.Name x np) j pos2) j2 pos] e spos) (sSetI2 i g g2 f) :=
  vs_setI2 (ps_asg he.pe (pg_sub (pe_ix ix_list (c.tv h) hj.pe hpl) hj2.pe set_list ha) hs hw h1)
/-- names of a parallel store -/
inductive Nms (X : Cx) : List Expr → List Nat → Prop where
  | nil : Nms X [] []
  | cons {x : Str} {p : Pos} {es : List Expr} {i : Nat} {is : List Nat} (h : PG X (.Name x p) (gName i)) (r : Nms X es is) (hs : (assignEach (.Name x p :: es) X.env).map (·.2) = assign (.Name x p) X.env :: (assignEach es X.env).map (·.2)) : Nms X (.Name x p :: es) (i :: is)
theorem Nms.pgs {es : List Expr} {is : List Nat} (h : Nms X es is) : PGs X es (gNm is) := by
  induction h with
  | nil => exact pgs_nil
  | cons h r hs ih => exact pgs_cons h ih hs
theorem CF.nm (c : CF Pg w K mg base N k X sc fb) {i : Nat} {x : Str} {pos : Pos} (h : stB N sc fb i x = true) {es : List Expr} {is : List Nat} (r : Nms X es is) (hs : (assignEach (.Name x pos :: es) X.env).map (·.2) = assign (.Name x pos) X.env :: (assignEach es X.env).map (·.2) := by rfl) : Nms X (.Name x pos :: es) (i :: is) := by
  obtain ⟨h1, h2, h3, h4⟩ := c.loc h
  exact .cons (pg_name h1 h2 h3 h4) r hs
/-- a, b, .. = e1, e2, .. where the machine makes the tuple -/
theorem CF.par (c : CF Pg w K mg base N k X sc fb) {tgs es : List Expr} {is : List Nat} {fs : List VF} {k1 k2 : Nat} {p1 p2 pos : Pos} (hP : ∀ i ∈ is, i ∉ P) (hn : Nms X tgs is) (he : VA X T es fs) (hw : swappedStores [.Tuple tgs k1 p1] (.Tuple es k2 p2) X.env = pure none)
    (hl : (assignEach tgs X.env).length = is.length := by rfl) (hst : (assignEach tgs X.env).findIdx? (·.1) = none := by rfl) (hs : swapsWithSole [.Tuple tgs k1 p1] (.Tuple es k2 p2) pos.line X.env = pure false := by rfl)
    (h1 : (assignEach [.Tuple tgs k1 p1] X.env).map (·.2) = [assign (.Tuple tgs k1 p1) X.env] := by rfl) : VS X T P (.Assign [.Tuple tgs k1 p1] (.Tuple es k2 p2) pos) (sPar is fs) :=
  vs_par hP (ps_asg (pe_tup he.pa) (pg_tup c.calm hn.pgs hl hst) hs hw h1)
/-- two names, both plain locals: the machine swaps the stores -/
theorem CF.par2 (c : CF Pg w K mg base N k X sc fb) {x y : Str} {px py pt pt2 pos : Pos} {kt k2 : Nat} {a b : Expr} {i j : Nat} {f g : VF} (hP : ∀ k ∈ [i, j], k ∉ P) (hx : stB N sc fb i x = true) (hy : stB N sc fb j y = true) (hxl : (sc.names.lookup x == some .local) = true) (hyl : (sc.names.lookup y == some .local) = true) (hij : i ≠ j) (he : VA X T [a, b] [f, g])
    (hw : swappedStores [.Tuple [.Name x px, .Name y py] kt pt] (.Tuple [a, b] k2 pt2) X.env = pure (some [x, y])) : VS X T P (.Assign [.Tuple [.Name x px, .Name y py] kt pt] (.Tuple [a, b] k2 pt2) pos) (sPar [i, j] [f, g]) := by
  obtain ⟨h1, h2, h3, h4⟩ := c.loc hx
  obtain ⟨g1, g2, g3, g4⟩ := c.loc hy
  exact vs_par2 hP (ps_par c.calm h1 h2 g2 hij (by rw [c.eS]; simpa using hxl) (by rw [c.eS]; simpa using hyl) he.pa hw)
theorem CF.gu (c : CF Pg w K mg base N k X sc fb) {tgs : List Expr} {j : Nat} {pos : Pos} {bs : List BF} (h : VGs X T P tgs bs) (hn : (assignEach tgs X.env).length = bs.length := by rfl) (hst : (assignEach tgs X.env).findIdx? (·.1) = none := by rfl) : VG X T P (.Tuple tgs j pos) (bUnl bs) :=
  vg_unl (pg_unl c.calm h.pg hn hst)
/-- a def of the text -/
theorem fnOk_c {x qual : Str} {st : Stmt} {f : Addr} {fd : FuncData} {ps : List Str} {n : Nat} {body : SF} (Fu : Fun K x qual st f fd) (S : FnScope N ps (defScope st)) (hn : ps.length = n)
    (h : ∀ X : Cx, CF Pg w K mg base N k X (defScope st) (fun _ => true) → VSs X T P (defBody st) body) : FnOk Pg w K mg base CX0 (k + 1) f fd ps (spF K T n (mkFn n N.length P body)) :=
  fnOk_of Fu S hn fun X h1 h2 h3 h4 h5 h6 h7 h8 h9 h10 h11 => h X ⟨h1, h2, h3, h4, h5, h6, S.nd, h7, h8, h9, h10, h11⟩
theorem fnOk_no {f : Addr} {fd : FuncData} {ps : List Str} {n : Nat} : FnOk Pg w K mg base CX0 k f fd ps (spF K T n (fun _ => none)) where
  len := fun vs H Q E h => by
    obtain ⟨_, _, _, _, _, _, _, h, _⟩ := h
    cases h
  run := fun A outer s H args us vs Q E _ _ _ _ h => by
    obtain ⟨_, _, _, _, _, _, _, h, _⟩ := h
    cases h
/-- the parallel store looks at the scope alone -/
def envOf (sc : Scope) : Env := { scope := sc, locals := 0, globals := 0, cells := [], qual := ⟨#[]⟩, func := none, code := .none, frame := none, builtins := 0 }
theorem swapped_env {ts : List Expr} {v : Expr} {e e2 : Env} (h : e.scope = e2.scope) : swappedStores ts v e = swappedStores ts v e2 := by
  have h1 : e.kindOf = e2.kindOf := by funext x; unfold Env.kindOf; rw [h]
  have h2 : e.blockKind = e2.blockKind := by unfold Env.blockKind; rw [h]
  unfold swappedStores
  simp only [h1, h2]
theorem CF.swp (c : CF Pg w K mg base N k X sc fb) {ts : List Expr} {v : Expr} {r : Sem (Option (List Str))} (h : swappedStores ts v (envOf sc) = r) : swappedStores ts v X.env = r := (swapped_env (e2 := envOf sc) c.eS).trans h
/-- the law's own def at the script -/
theorem law_sp {F : Fn} {fin : List (Option O)} {H : Hp} {a : Addr} {ns : List Int} (hF : F [.fz (.scr ns)] = some (.fz (.bl true), fin)) (hS : SqL K H a (ns.map V.int)) : spF K [] 1 F [.ref a] H (fun v _ => v = .bl true) fun _ _ _ => False := by
  refine ⟨[], [.fz (.scr ns)], [], _, fin, ⟨?_, List.nodup_nil, .nil, fun p hp => by cases hp⟩, rfl, hF, fun v H' Ff Fr p => (Post.bool p).1⟩
  rw [List.map_cons, List.map_cons, RepE]
  refine ⟨_, _, [], [], rfl, rfl, ?_, by rw [List.map_nil, List.map_nil, RepE]; exact ⟨rfl, rfl⟩⟩
  rw [RepO, Rep]
  exact ⟨rfl, a, rfl, ScrAt.of hS (by simp)⟩
theorem vals_perm {vs : List V} {us : List Value} (r : Vals vs us) : ∀ idx : List Nat, Vals (permL idx vs) (permL idx us)
  | [] => .nil
  | i :: idx => by
    have ih := vals_perm r idx
    unfold permL at ih ⊢
    rw [List.filterMap_cons, List.filterMap_cons]
    cases q : vs[i]? with
    | none => rw [Vals.none_of r q]; exact ih
    | some v =>
      obtain ⟨u, h1, h2⟩ := Vals.get r q
      rw [h1]
      exact .cons h2 ih
end
end
end VS


set_option linter.all false
set_option Elab.async false
namespace VS
noncomputable section
open PySem PySem.Spec PyProof.Rows L2
@[simp] theorem logOk_of {j : Int} (h : 0 < j) (h2 : j < 4611686018427387904) : logOk j = true := by
  rw [logOk_eq, decide_eq_true_eq]
  have := (Nat.log2_lt (n := j.natAbs) (k := 62) (by omega)).2 (by omega)
  omega
@[simp] theorem s64_of {i : Int} (h : -18446744073709551616 < i) (h2 : i < 18446744073709551616) : s64 i = true := by
  rw [s64_eq, Bool.and_eq_true, decide_eq_true_eq, decide_eq_true_eq]
  omega
@[simp] theorem powOk_of {i j : Int} (h : 0 ≤ j) (h2 : j ≤ 1000000) (h3 : -18446744073709551616 < i) (h4 : i < 18446744073709551616) : powOk (i, j) = true := by
  rw [powOk_eq, Bool.and_eq_true, Bool.and_eq_true, decide_eq_true_eq, decide_eq_true_eq, decide_eq_true_eq]
  omega
theorem natAbs_ok {m : Int} (h1 : 0 < m) (h2 : m < 2 ^ 62) : m.natAbs < 4611686018427387904 := by omega
end
end VS
namespace VS
noncomputable section
open PySem PySem.Spec PyProof.Rows L2
@[simp] theorem flatD_ints {α : Type} (f : α → D) (l : List α) : flatD (l.map fun i => O.fz (f i)) = some (l.map f) := by
  induction l with
  | nil => rfl
  | cons x l ih => simp [ih]
theorem ix0 {n : Nat} (h : 0 < n) : ixN n 0 = some 0 := by simp [ixN, h]
end
end VS
namespace VS
noncomputable section
open PySem PySem.Spec PyProof.Rows L2
theorem for_nx {b : BF} {body : SF} {d : D} {ε ε1 : Env'} (h : (match b d ε with | some e => body e | none => none) = some (.nx, ε1)) {ds : List D} :
    forRun b body (d :: ds) ε = forRun b body ds ε1 := by
  rw [forRun]
  revert h
  cases b d ε with
  | none => simp
  | some e => simp only; intro h; rw [h]
end
end VS
namespace VS
noncomputable section
open PySem PySem.Spec PyProof.Rows L2
theorem cut_to {α : Type} (l : List α) (k : Nat) : cutD l none (some (k : Int)) = l.take k := by
  unfold cutD
  rw [HT.sIx_none, HT.sIx_nat, List.drop_zero, Nat.sub_zero]
  by_cases h : k ≤ l.length
  · rw [Nat.min_eq_left h]
  · rw [Nat.min_eq_right (by omega), List.take_of_length_le (Nat.le_refl _), List.take_of_length_le (by omega)]
theorem cut_from {α : Type} (l : List α) (k : Nat) : cutD l (some (k : Int)) none = l.drop k := by
  unfold cutD
  rw [HT.sIx_none, HT.sIx_nat]
  by_cases h : k ≤ l.length
  · rw [Nat.min_eq_left h, List.take_of_length_le (by simp)]
  · rw [Nat.min_eq_right (by omega), List.drop_of_length_le (Nat.le_refl _), List.drop_of_length_le (by omega)]; simp
theorem atI_ofNat {α : Type} (l : List α) (k : Nat) : atI l (k : Int) = l[k]? := by
  unfold atI
  by_cases h : k < l.length
  · simp [ixN, h]
  · simp [ixN, h]
theorem set_cut {α : Type} (l : List α) (k : Nat) (x : α) (h : k < l.length) : l.take k ++ x :: l.drop (k + 1) = l.set k x := (List.set_eq_take_append_cons_drop (l := l) (i := k) (a := x)).symm ▸ by rw [if_pos h]
theorem for_inv {b : BF} {body : SF} (Inv : List D → Env' → Prop) (step : ∀ d ds ε, Inv (d :: ds) ε → ∃ ε1 ε2, b d ε = some ε1 ∧ (body ε1 = some (.nx, ε2) ∨ body ε1 = some (.ct, ε2)) ∧ Inv ds ε2) :
    ∀ ds ε, Inv ds ε → ∃ ε', forRun b body ds ε = some (.nx, ε') ∧ Inv [] ε'
  | [], ε, h => ⟨ε, rfl, h⟩
  | d :: ds, ε, h => by
    obtain ⟨ε1, ε2, h1, h2, h3⟩ := step d ds ε h
    obtain ⟨ε3, h4, h5⟩ := for_inv Inv step ds ε2 h3
    refine ⟨ε3, ?_, h5⟩
    rw [forRun]
    rcases h2 with h2 | h2 <;> simp only [h1, h2, h4]
inductive All2 {α β : Type} (R : α → β → Prop) : List α → List β → Prop
  | nil : All2 R [] []
  | cons {a : α} {b : β} {l : List α} {m : List β} : R a b → All2 R l m → All2 R (a :: l) (b :: m)
/-- a comprehension without a test -/
theorem lc_inv {own : List Nat} {b : BF} {f : VF} (Inv : List D → Env' → Prop) (P : D → O → Prop) (step : ∀ d ds ε, Inv (d :: ds) ε → ∃ ε1 o ε2, b d ε = some ε1 ∧ f ε1 = some (.o o, ε2) ∧ P d o ∧ Inv ds (wipeE ε2 own)) :
    ∀ ds ε, Inv ds ε → ∃ os ε', lcRun own b tYes' f ds ε = some (os, ε') ∧ All2 P ds os ∧ Inv [] ε'
  | [], ε, h => ⟨[], ε, rfl, .nil, h⟩
  | d :: ds, ε, h => by
    obtain ⟨ε1, o, ε2, h1, h2, h3, h4⟩ := step d ds ε h
    obtain ⟨os, ε3, h5, h6, h7⟩ := lc_inv Inv P step ds _ h4
    refine ⟨o :: os, ε3, ?_, .cons h3 h6, h7⟩
    rw [lcRun]
    simp only [h1, tYes', h2, h5]
/-- a comprehension with a test, of which nothing but what it keeps is asked -/
theorem lc_invT {own : List Nat} {b : BF} {c : TF} {f : VF} (Inv : List D → Env' → Prop) (P : O → Prop) (step : ∀ d ds ε, Inv (d :: ds) ε → ∃ ε1 t ε2, b d ε = some ε1 ∧ c ε1 = some (t, ε2) ∧ (t = false → Inv ds (wipeE ε2 own)) ∧ (t = true → ∃ o ε3, f ε2 = some (.o o, ε3) ∧ P o ∧ Inv ds (wipeE ε3 own))) :
    ∀ ds ε, Inv ds ε → ∃ os ε', lcRun own b c f ds ε = some (os, ε') ∧ (∀ o ∈ os, P o) ∧ os.length ≤ ds.length ∧ Inv [] ε'
  | [], ε, h => ⟨[], ε, rfl, by simp, by simp, h⟩
  | d :: ds, ε, h => by
    obtain ⟨ε1, t, ε2, h1, h2, h3, h4⟩ := step d ds ε h
    rw [lcRun]
    cases t with
    | false =>
      obtain ⟨os, ε3, h5, h6, h6', h7⟩ := lc_invT Inv P step ds _ (h3 rfl)
      exact ⟨os, ε3, by simp only [h1, h2, h5], h6, by simp; omega, h7⟩
    | true =>
      obtain ⟨o, ε3, k1, k2, k3⟩ := h4 rfl
      obtain ⟨os, ε4, h5, h6, h6', h7⟩ := lc_invT Inv P step ds _ k3
      refine ⟨o :: os, ε4, by simp only [h1, h2, k1, h5], ?_, by simp; omega, h7⟩
      intro x hx
      rcases List.mem_cons.1 hx with rfl | hx
      · exact k2
      · exact h6 x hx
/-- a comprehension that changes nothing -/
theorem lc_map {own : List Nat} {b : BF} {c : TF} {f : VF} {ε : Env'} (t : D → Bool) (g : D → O) : ∀ {ds : List D}, (∀ d ∈ ds, ∃ ε1, b d ε = some ε1 ∧ c ε1 = some (t d, ε1) ∧ (t d = true → f ε1 = some (.o (g d), ε1)) ∧ wipeE ε1 own = ε) →
    lcRun own b c f ds ε = some ((ds.filter t).map g, ε)
  | [], _ => rfl
  | d :: ds, h => by
    obtain ⟨ε1, h1, h2, h3, h4⟩ := h d (by simp)
    have ih := lc_map (own := own) (b := b) (c := c) (f := f) (ε := ε) t g (ds := ds) fun x hx => h x (by simp [hx])
    rw [lcRun]
    simp only [h1, h2]
    cases ht : t d with
    | false => simp only [ht, h4, ih]; simp [ht]
    | true => simp only [ht, h3 ht, h4, ih]; simp [ht]
theorem rng_length (lo : Int) (n : Nat) : (rng lo n).length = n := by simp [rng]
theorem rng_mem {lo : Int} {n : Nat} {d : D} (h : d ∈ rng lo n) : ∃ k : Nat, k < n ∧ d = .int (lo + k) := by
  simp only [rng, List.mem_map, List.mem_range] at h
  obtain ⟨k, h1, rfl⟩ := h
  exact ⟨k, h1, rfl⟩
theorem all2_len {α β : Type} {R : α → β → Prop} {l : List α} {m : List β} (h : All2 R l m) : l.length = m.length := by
  induction h <;> simp [*]
end
end VS
namespace VS
noncomputable section
open PySem PySem.Spec PyProof.Rows L2
@[simp] theorem vals_fz (l : List D) : O.vals (l.map O.fz) = l := by
  induction l with
  | nil => rfl
  | cons x l ih => simp [ih]
@[simp] theorem flatD_fz' (l : List D) : flatD (l.map O.fz) = some l := flatD_fz l
theorem room_of {n : Nat} (h : n ≤ 1000000) : room n = true := (room_eq n).trans (decide_eq_true h)
@[simp] theorem small_of {n : Int} (h : -4611686018427387904 ≤ n) (h2 : n < 4611686018427387904) : small n = true := by
  rw [small_eq, Bool.and_eq_true, decide_eq_true_eq, decide_eq_true_eq]
  omega
end
end VS
namespace VS
noncomputable section
open PySem PySem.Spec PyProof.Rows L2
@[simp] theorem room_small {n : Nat} (h : n < 1000) : room n = true := room_of (by omega)
end
end VS
namespace VS
noncomputable section
open PySem PySem.Spec PyProof.Rows L2
theorem eq_pair (i j k l : Int) : eqD (.tup [.int i, .int j]) (.tup [.int k, .int l]) = some (decide (i = k ∧ j = l)) := by
  have h1 : ∀ i j, SeqAt.shaped (PyData.tuple [PyData.int i, PyData.int j]) = true := fun _ _ => rfl
  simp [eqD, D.toP, D.toPs, h1, PyData.eqv, PyData.eqvAll]
  rfl
theorem eq_nil : eqD (.lst []) (.lst []) = some true := by
  have h1 : SeqAt.shaped (PyData.list []) = true := rfl
  simp [eqD, D.toP, D.toPs, h1, PyData.eqv, PyData.eqvAll]
theorem seq_nx {f g : SF} {ε ε1 : Env'} {r : Option (Fl × Env')} (h : f ε = some (.nx, ε1)) (k : g ε1 = r) : sSeq f g ε = r := by simp [h, k]
theorem if_no {c : TF} {f : SF} {ε ε1 : Env'} (h : c ε = some (false, ε1)) : sIf c f sNx ε = some (.nx, ε1) := by simp [h]
theorem ret_of {f : VF} {ε ε1 : Env'} {o : O} (h : f ε = some (.o o, ε1)) : sRet f ε = some (.rt o, ε1) := by simp [h]
end
end VS
namespace VS
noncomputable section
open PySem PySem.Spec PyProof.Rows L2
theorem splice1 (l : List D) (k : Nat) (x : D) (h : l.length ≤ 100000) : pAdd (.tup (l.take k)) (.tup [x]) = some (.fz (.tup (l.take k ++ [x]))) := by
  have h2 : room ((l.take k).length + [x].length) = true := room_of (by simp; omega)
  rw [pAdd, if_pos h2]
theorem splice2 (l : List D) (k : Nat) (x : D) (h : l.length ≤ 100000) (hk : k < l.length) : pAdd (.tup (l.take k ++ [x])) (.tup (l.drop (k + 1))) = some (.fz (.tup (l.set k x))) := by
  have h2 : room ((l.take k ++ [x]).length + (l.drop (k + 1)).length) = true := room_of (by simp; omega)
  rw [pAdd, if_pos h2, List.append_assoc, List.singleton_append, set_cut l k x hk]
end
end VS
namespace VS
noncomputable section
open PySem PySem.Spec PyProof.Rows L2
theorem cut_from1 {α : Type} (l : List α) (k : Nat) : cutD l (some ((k : Int) + 1)) none = l.drop (k + 1) := cut_from l (k + 1)
theorem pAdd_int (i j : Int) : pAdd (.int i) (.int j) = some (.fz (.int (i + j))) := rfl
end
end VS
namespace VS
noncomputable section
open PySem PySem.Spec PyProof.Rows L2
@[simp] theorem eqD_int (i j : Int) : eqD (.int i) (.int j) = some (decide (i = j)) := rfl
@[simp] theorem eqD_str (i j : Str) : eqD (.str i) (.str j) = some (decide (i = j)) := rfl
@[simp] theorem eqD_bl (i j : Bool) : eqD (.bl i) (.bl j) = some (decide (i = j)) := rfl
@[simp] theorem eqD_nn : eqD .non .non = some true := rfl
@[simp] theorem eqD_in (i : Int) : eqD (.int i) .non = some false := rfl
@[simp] theorem eqD_ni (i : Int) : eqD .non (.int i) = some false := rfl
@[simp] theorem eqD_lnil : eqD (.lst []) (.lst []) = some true := eq_nil
end
end VS
namespace VS
noncomputable section
open PySem PySem.Spec PyProof.Rows L2
@[simp] theorem vals_ints {α : Type} (f : α → D) (l : List α) : O.vals (l.map fun i => O.fz (f i)) = l.map f := by
  induction l with
  | nil => rfl
  | cons x l ih => simp [ih]
/-- a comprehension without a test that changes nothing -/
theorem lc_all {α : Type} {own : List Nat} {b : BF} {f : VF} {ε : Env'} (d : α → D) (g : α → O) : ∀ {l : List α}, (∀ x ∈ l, ∃ ε1, b (d x) ε = some ε1 ∧ f ε1 = some (.o (g x), ε1) ∧ wipeE ε1 own = ε) →
    lcRun own b tYes' f (l.map d) ε = some (l.map g, ε)
  | [], _ => rfl
  | x :: l, h => by
    obtain ⟨ε1, h1, h2, h3⟩ := h x (by simp)
    have ih := lc_all (own := own) (b := b) (f := f) (ε := ε) d g (l := l) fun y hy => h y (by simp [hy])
    rw [List.map_cons, lcRun]
    simp only [h1, tYes', h2, h3, ih, List.map_cons]
/-- a comprehension with a test that changes nothing -/
theorem lc_some {α : Type} {own : List Nat} {b : BF} {c : TF} {f : VF} {ε : Env'} (d : α → D) (t : α → Bool) (g : α → O) : ∀ {l : List α}, (∀ x ∈ l, ∃ ε1, b (d x) ε = some ε1 ∧ c ε1 = some (t x, ε1) ∧ (t x = true → f ε1 = some (.o (g x), ε1)) ∧ wipeE ε1 own = ε) →
    lcRun own b c f (l.map d) ε = some ((l.filter t).map g, ε)
  | [], _ => rfl
  | x :: l, h => by
    obtain ⟨ε1, h1, h2, h3, h4⟩ := h x (by simp)
    have ih := lc_some (own := own) (b := b) (c := c) (f := f) (ε := ε) d t g (l := l) fun y hy => h y (by simp [hy])
    rw [List.map_cons, lcRun]
    simp only [h1, h2]
    cases ht : t x with
    | false => simp only [ht, h4, ih]; simp [ht]
    | true => simp only [ht, h3 ht, h4, ih]; simp [ht]
end
end VS
namespace VS
noncomputable section
open PySem PySem.Spec PyProof.Rows L2
theorem rng0 (n : Nat) : rng 0 n = (List.range n).map fun (k : Nat) => D.int (k : Int) := by
  unfold rng
  congr 1
  funext k
  simp
/-- a loop over a list, what is left in sight -/
theorem for_list {α : Type} {b : BF} {body : SF} (d : α → D) (Inv : List α → Env' → Prop) (step : ∀ x l ε, Inv (x :: l) ε → ∃ ε1 ε2, b (d x) ε = some ε1 ∧ (body ε1 = some (.nx, ε2) ∨ body ε1 = some (.ct, ε2)) ∧ Inv l ε2) :
    ∀ l ε, Inv l ε → ∃ ε', forRun b body (l.map d) ε = some (.nx, ε') ∧ Inv [] ε'
  | [], ε, h => ⟨ε, rfl, h⟩
  | x :: l, ε, h => by
    obtain ⟨ε1, ε2, h1, h2, h3⟩ := step x l ε h
    obtain ⟨ε3, h4, h5⟩ := for_list d Inv step l ε2 h3
    refine ⟨ε3, ?_, h5⟩
    rw [List.map_cons, forRun]
    rcases h2 with h2 | h2 <;> simp only [h1, h2, h4]
/-- how a search ends -/
def flO (r : Option O) (ε : Env') : Fl × Env' := match r with
  | some o => (.rt o, ε)
  | none => (.nx, ε)
@[simp] theorem flO_some (o : O) (ε : Env') : flO (some o) ε = (.rt o, ε) := rfl
@[simp] theorem flO_none (ε : Env') : flO none ε = (.nx, ε) := rfl
/-- a loop that hands back the first that it finds -/
theorem for_find {α : Type} {b : BF} {body : SF} (d : α → D) (Inv : Env' → Prop) (f : α → Option O) : ∀ (l : List α), (∀ x ∈ l, ∀ ε, Inv ε → ∃ ε1 ε2, b (d x) ε = some ε1 ∧ body ε1 = some (flO (f x) ε2) ∧ Inv ε2) →
    ∀ ε, Inv ε → ∃ ε', forRun b body (l.map d) ε = some (flO (l.findSome? f) ε') ∧ Inv ε'
  | [], _, ε, h => ⟨ε, rfl, h⟩
  | x :: l, step, ε, h => by
    obtain ⟨ε1, ε2, h1, h2, h3⟩ := step x (by simp) ε h
    rw [List.map_cons, forRun, List.findSome?_cons]
    cases hf : f x with
    | some o =>
      rw [hf, flO_some] at h2
      exact ⟨ε2, by simp only [h1, h2, flO_some], h3⟩
    | none =>
      rw [hf, flO_none] at h2
      obtain ⟨ε3, h4, h5⟩ := for_find d Inv f l (fun y hy => step y (by simp [hy])) ε2 h3
      exact ⟨ε3, by simp only [h1, h2, h4], h5⟩
/-- a table as data -/
def cellD : Option Int → D
  | none => .non
  | some i => .int i
def tabD (t : List (List (Option Int))) : D := .tup (t.map fun r => .tup (r.map cellD))
def tget (t : List (List (Option Int))) (i j : Nat) : Option Int := (t.getD i []).getD j none
structure Tab (m n : Nat) (t : List (List (Option Int))) : Prop where
  len : t.length = m
  row : ∀ r ∈ t, r.length = n
theorem Tab.rowAt {m n : Nat} {t : List (List (Option Int))} (h : Tab m n t) {i : Nat} (hi : i < m) : ∃ r, t[i]? = some r ∧ r.length = n ∧ t.getD i [] = r := by
  have hi' : i < t.length := by rw [h.len]; exact hi
  exact ⟨t[i], by simp [hi'], h.row _ (List.getElem_mem hi'), by simp [hi']⟩
theorem gIx_row {m n : Nat} {t : List (List (Option Int))} (h : Tab m n t) {ε : Env'} {a b : Pl} {i : Nat} (hi : i < m) (ha : a ε = some (.fz (tabD t))) (hb : b ε = some (.fz (.int i))) :
    gIx a b ε = some (.fz (.tup ((t.getD i []).map cellD))) := by
  obtain ⟨r, h1, h2, h3⟩ := h.rowAt hi
  rw [h3]
  simp [ha, hb, tabD, atI_ofNat, h1]
theorem gIx_cell {m n : Nat} {t : List (List (Option Int))} (h : Tab m n t) {ε : Env'} {a b c : Pl} {i j : Nat} (hi : i < m) (hj : j < n) (ha : a ε = some (.fz (tabD t))) (hb : b ε = some (.fz (.int i))) (hc : c ε = some (.fz (.int j))) :
    gIx (gIx a b) c ε = some (.fz (cellD (tget t i j))) := by
  obtain ⟨r, h1, h2, h3⟩ := h.rowAt hi
  have hr := gIx_row h hi ha hb
  rw [h3] at hr
  have hj' : j < r.length := by omega
  rw [gIx, hr, hc]
  unfold tget
  rw [h3]
  simp [atI_ofNat, hj']
@[simp] theorem cellD_none : cellD none = .non := rfl
@[simp] theorem cellD_some (i : Int) : cellD (some i) = .int i := rfl
theorem len_tab {m n : Nat} {t : List (List (Option Int))} (h : Tab m n t) : pLen [tabD t] = some (.fz (.int m)) := by simp [tabD, h.len]
theorem len_row {m n : Nat} {t : List (List (Option Int))} (h : Tab m n t) (hm : 0 < m) {ε : Env'} {a : Pl} (ha : a ε = some (.fz (tabD t))) : vPrP pLen (gIx a (gC (.int 0))) ε = some (.o (.fz (.int n)), ε) := by
  have hr := gIx_row h (i := 0) (b := gC (.int 0)) hm ha rfl
  obtain ⟨r, h1, h2, h3⟩ := h.rowAt hm
  rw [vPrP, hr, h3]
  simp [h2]
end
end VS


set_option Elab.async false
set_option linter.all false
/-! VS12: membership; min, max, sum of a list of ints. -/
namespace VS
noncomputable section
open PySem PySem.Spec PyProof.Rows L2
section
variable {K : PySem.W.Frag} {T : List Addr} {P : List Nat} {H H' H'' : Hp} {M M' M'' R R' F F' A A' : List Addr} {ε ε' : Env'} {σ σ' σ'' : L2.St} {X : Cx}
def rInT (K : PySem.W.Frag) : R2 := fun x y H Q => ∃ d ds, Dp K H x d ∧ Dp K H y (.tuple ds) ∧ SeqAt.shaped d = true ∧ SeqAt.shaped (.tuple ds) = true ∧ Q (.bl (ds.any fun z => PyData.eqv z d)) H
def rNotInT (K : PySem.W.Frag) : R2 := fun x y H Q => ∃ d ds, Dp K H x d ∧ Dp K H y (.tuple ds) ∧ SeqAt.shaped d = true ∧ SeqAt.shaped (.tuple ds) = true ∧ Q (.bl (!ds.any fun z => PyData.eqv z d)) H
theorem op_inT (hu : X.A.units + 65 < cLine) : OpR X (compareOp .In) (rInT X.K) := by
  intro pins s σ H x y v u Q I rx ry h
  obtain ⟨d, ds, hd, he, sd, se, q⟩ := h
  obtain ⟨as, r1⟩ := Dp.reads I d x v hd rx
  obtain ⟨bs, r2⟩ := Dp.reads I (.tuple ds) y u he ry
  exact SeqAt.in_tuple_reads r2 r1 (SeqAt.canLay_of_shaped se) (SeqAt.canLay_of_shaped sd) (room_in_shaped sd hu) ⟨.bl _, H, I, rfl, q⟩
theorem op_notInT (hu : X.A.units + 65 < cLine) : OpR X (compareOp .NotIn) (rNotInT X.K) := by
  intro pins s σ H x y v u Q I rx ry h
  obtain ⟨d, ds, hd, he, sd, se, q⟩ := h
  obtain ⟨as, r1⟩ := Dp.reads I d x v hd rx
  obtain ⟨bs, r2⟩ := Dp.reads I (.tuple ds) y u he ry
  exact SeqAt.notIn_tuple_reads r2 r1 (SeqAt.canLay_of_shaped se) (SeqAt.canLay_of_shaped sd) (room_in_shaped sd hu) ⟨.bl _, H, I, rfl, q⟩
/-- d in e -/
def inD (d e : D) : Option Bool := match e with
  | .lst l => if SeqAt.shaped d.toP && SeqAt.shaped (D.lst l).toP then some ((D.toPs l).any fun z => PyData.eqv z d.toP) else none
  | .tup l => if SeqAt.shaped d.toP && SeqAt.shaped (D.tup l).toP then some ((D.toPs l).any fun z => PyData.eqv z d.toP) else none
  | _ => none
@[simp] def pIn (d e : D) : Option O := (inD d e).map fun b => .fz (.bl b)
@[simp] def pNotIn (d e : D) : Option O := (inD d e).map fun b => .fz (.bl (!b))
theorem od_in (hu : X.A.units + 65 < cLine) : OpR X (compareOp .In) (rP2 X.K T pIn) := OpR.imp ((op_inD hu).or (op_inT hu)) fun x y H Q h => by
  obtain ⟨A, d, e, o, lA, tA, hx, hy, hp, post⟩ := h
  unfold pIn inD at hp
  split at hp
  · split at hp
    · rename_i hs
      cases hp
      rw [Bool.and_eq_true] at hs
      exact .inl ⟨_, _, hx.dp, hy.dp, hs.1, hs.2, post _ H [] (New.fz (by rw [Rep]))⟩
    · cases hp
  · split at hp
    · rename_i hs
      cases hp
      rw [Bool.and_eq_true] at hs
      exact .inr ⟨_, _, hx.dp, hy.dp, hs.1, hs.2, post _ H [] (New.fz (by rw [Rep]))⟩
    · cases hp
  · cases hp
theorem od_notIn (hu : X.A.units + 65 < cLine) : OpR X (compareOp .NotIn) (rP2 X.K T pNotIn) := OpR.imp ((op_notInD hu).or (op_notInT hu)) fun x y H Q h => by
  obtain ⟨A, d, e, o, lA, tA, hx, hy, hp, post⟩ := h
  unfold pNotIn inD at hp
  split at hp
  · split at hp
    · rename_i hs
      cases hp
      rw [Bool.and_eq_true] at hs
      exact .inl ⟨_, _, hx.dp, hy.dp, hs.1, hs.2, post _ H [] (New.fz (by rw [Rep]))⟩
    · cases hp
  · split at hp
    · rename_i hs
      cases hp
      rw [Bool.and_eq_true] at hs
      exact .inr ⟨_, _, hx.dp, hy.dp, hs.1, hs.2, post _ H [] (New.fz (by rw [Rep]))⟩
    · cases hp
  · cases hp
/-- a list of ints -/
def intsOf : List D → Option (List Int)
  | [] => some []
  | .int i :: l => match intsOf l with
    | some ns => some (i :: ns)
    | none => none
  | _ => none
theorem intsOf_map : ∀ ns : List Int, intsOf (ns.map D.int) = some ns
  | [] => rfl
  | n :: ns => by rw [List.map_cons, intsOf, intsOf_map ns]
theorem intsOf_eq : ∀ {l : List D} {ns : List Int}, intsOf l = some ns → l = ns.map D.int
  | [], _, h => by cases h; rfl
  | .int i :: l, ns, h => by
    rw [intsOf] at h
    split at h
    · rename_i ms hm
      cases h
      rw [intsOf_eq hm, List.map_cons]
    · cases h
  | .non :: _, _, h => by cases h
  | .bl _ :: _, _, h => by cases h
  | .str _ :: _, _, h => by cases h
  | .tup _ :: _, _, h => by cases h
  | .lst _ :: _, _, h => by cases h
  | .scr _ :: _, _, h => by cases h
theorem Reps.intsV : ∀ {ns : List Int} {vs : List V}, Reps K H A (ns.map D.int) vs → vs = ns.map V.int
  | [], vs, h => by
    rw [List.map_nil, Reps] at h
    rw [h, List.map_nil]
  | n :: ns, vs, h => by
    rw [List.map_cons, Reps] at h
    obtain ⟨v, r, rfl, h1, h2⟩ := h
    rw [Rep] at h1
    rw [h1, Reps.intsV h2, List.map_cons]
@[simp] def pMinL : List D → Option O
  | [.lst l] => match intsOf l with
    | some ns => match ns.min? with
      | some m => some (.fz (.int m))
      | none => none
    | none => none
  | _ => none
@[simp] def pMaxL : List D → Option O
  | [.lst l] => match intsOf l with
    | some ns => match ns.max? with
      | some m => some (.fz (.int m))
      | none => none
    | none => none
  | _ => none
@[simp] def pSumL : List D → Option O
  | [.lst l] => match intsOf l with
    | some ns => some (.fz (.int ns.sum))
    | none => none
  | _ => none
theorem cd_minL (hc : X.calm = true) : CallR X (.builtin "min") (rP X.K T pMinL) := CallR.imp (cr_min hc) fun vs H Q h => by
  obtain ⟨A, ds, o, lA, tA, hx, hp, post⟩ := h
  unfold pMinL at hp
  split at hp
  · rename_i l
    split at hp
    · rename_i ns hns
      split at hp
      · rename_i m hm
        cases hp
        obtain ⟨v, rfl, hv⟩ := hx.one
        obtain ⟨a, ws, rfl, h1, h2⟩ := hv
        rw [intsOf_eq hns] at h2
        rw [h2.intsV] at h1
        obtain ⟨m1, m2⟩ := List.min?_eq_some_iff.1 hm
        refine ⟨a, ns, rfl, SqL.of h1, List.length_pos_of_mem m1, fun m' k1 k2 => ?_⟩
        have : m' = m := Int.le_antisymm (k2 m m1) (m2 m' k1)
        rw [this]
        exact post _ H [] (New.fz (by rw [Rep]))
      · cases hp
    · cases hp
  · cases hp
theorem cd_maxL (hc : X.calm = true) : CallR X (.builtin "max") (rP X.K T pMaxL) := CallR.imp (cr_max hc) fun vs H Q h => by
  obtain ⟨A, ds, o, lA, tA, hx, hp, post⟩ := h
  unfold pMaxL at hp
  split at hp
  · rename_i l
    split at hp
    · rename_i ns hns
      split at hp
      · rename_i m hm
        cases hp
        obtain ⟨v, rfl, hv⟩ := hx.one
        obtain ⟨a, ws, rfl, h1, h2⟩ := hv
        rw [intsOf_eq hns] at h2
        rw [h2.intsV] at h1
        obtain ⟨m1, m2⟩ := List.max?_eq_some_iff.1 hm
        refine ⟨a, ns, rfl, SqL.of h1, List.length_pos_of_mem m1, fun m' k1 k2 => ?_⟩
        have : m' = m := Int.le_antisymm (m2 m' k1) (k2 m m1)
        rw [this]
        exact post _ H [] (New.fz (by rw [Rep]))
      · cases hp
    · cases hp
  · cases hp
theorem cd_sumL (hc : X.calm = true) : CallR X (.builtin "sum") (rP X.K T pSumL) := CallR.imp (cr_sum hc) fun vs H Q h => by
  obtain ⟨A, ds, o, lA, tA, hx, hp, post⟩ := h
  unfold pSumL at hp
  split at hp
  · rename_i l
    split at hp
    · rename_i ns hns
      cases hp
      obtain ⟨v, rfl, hv⟩ := hx.one
      obtain ⟨a, ws, rfl, h1, h2⟩ := hv
      rw [intsOf_eq hns] at h2
      rw [h2.intsV] at h1
      exact ⟨a, ns, rfl, SqL.of h1, post _ H [] (New.fz (by rw [Rep]))⟩
    · cases hp
  · cases hp
end
section
variable {Pg : Program} {w : World} {K : PySem.W.Frag} {mg : Str → Option Value} {base : Heap} {N : List Str} {k : Nat} {X : Cx} {sc : Scope} {fb : Str → Bool}
theorem CF.hu5 (c : CF Pg w K mg base N k X sc fb) : X.A.units + 65 < cLine := by
  have := c.room.un
  omega
end
end
end VS


set_option Elab.async false
set_option linter.all false
set_option maxRecDepth 100000
/-! VS13: plain facts about tables. -/
namespace VS
noncomputable section
open PySem PySem.Spec PyProof.Rows L2
/-- a pair of places as data -/
def wayD (p : Nat × Nat) : D := .tup [.int p.1, .int p.2]
def tput (t : List (List (Option Int))) (i j : Nat) (x : Option Int) : List (List (Option Int)) := t.set i ((t.getD i []).set j x)
theorem Tab.put {m n : Nat} {t : List (List (Option Int))} (h : Tab m n t) {i j : Nat} {x : Option Int} (hi : i < m) : Tab m n (tput t i j x) := by
  obtain ⟨r, h1, h2, h3⟩ := h.rowAt hi
  refine ⟨by simp [tput, h.len], fun l hl => ?_⟩
  unfold tput at hl
  rcases List.mem_or_eq_of_mem_set hl with hl | rfl
  · exact h.row l hl
  · rw [h3]; simpa using h2
/-- x[:j] + (p,) + x[j + 1:] of a row, then of the table -/
theorem splice_row {r : List (Option Int)} {j : Nat} {x : Option Int} (hj : j < r.length) (hr : r.length ≤ 100000) :
    pAdd (.tup ((r.map cellD).take j)) (.tup [cellD x]) = some (.fz (.tup ((r.map cellD).take j ++ [cellD x]))) ∧
    pAdd (.tup ((r.map cellD).take j ++ [cellD x])) (.tup ((r.map cellD).drop (j + 1))) = some (.fz (.tup ((r.set j x).map cellD))) := by
  refine ⟨splice1 _ _ _ (by simpa using hr), ?_⟩
  rw [splice2 _ _ _ (by simpa using hr) (by simpa using hj), List.map_set]
theorem splice_tab {t : List (List (Option Int))} {i : Nat} {r : List (Option Int)} (hi : i < t.length) (ht : t.length ≤ 100000) :
    pAdd (.tup ((t.map fun r => D.tup (r.map cellD)).take i)) (.tup [.tup (r.map cellD)]) = some (.fz (.tup ((t.map fun r => D.tup (r.map cellD)).take i ++ [.tup (r.map cellD)]))) ∧
    pAdd (.tup ((t.map fun r => D.tup (r.map cellD)).take i ++ [.tup (r.map cellD)])) (.tup ((t.map fun r => D.tup (r.map cellD)).drop (i + 1))) = some (.fz (tabD (t.set i r))) := by
  refine ⟨splice1 _ _ _ (by simpa using ht), ?_⟩
  rw [splice2 _ _ _ (by simpa using ht) (by simpa using hi), tabD, List.map_set]
theorem non_in3 (x y z : Option Int) : inD .non (.lst [cellD x, cellD y, cellD z]) = some (x.isNone || y.isNone || z.isNone) := by
  have h1 : SeqAt.shaped D.non.toP = true := rfl
  have h2 : SeqAt.shaped (D.lst [cellD x, cellD y, cellD z]).toP = true := by
    cases x <;> cases y <;> cases z <;> rfl
  rw [inD, h1, h2]
  cases x <;> cases y <;> cases z <;> rfl
end
end VS
namespace VS
noncomputable section
open PySem PySem.Spec PyProof.Rows L2
theorem it_row {m n : Nat} {t : List (List (Option Int))} (h : Tab m n t) (hm : 0 < m) (hn : n ≤ 100000) {ε : Env'} {a : Pl} (ha : a ε = some (.fz (tabD t))) : itR1 (vPrP pLen (gIx a (gC (.int 0)))) ε = some ((List.range n).map fun k : Nat => D.int k, ε) := by
  have h3 : small (n : Int) = true := small_of (by omega) (by omega)
  rw [itR1, len_row h hm ha]
  simp only [h3, if_true, Int.toNat_natCast, rng0]
theorem it_tab {m n : Nat} {t : List (List (Option Int))} (h : Tab m n t) (hm : m ≤ 100000) {ε : Env'} {a : Pl} (ha : a ε = some (.fz (tabD t))) : itR1 (vPrim pLen [vP a]) ε = some ((List.range m).map fun k : Nat => D.int k, ε) := by
  have h3 : small (m : Int) = true := small_of (by omega) (by omega)
  have h4 : vPrim pLen [vP a] ε = some (.o (.fz (.int m)), ε) := by
    simp [-pLen, ha, len_tab h]
  rw [itR1, h4]
  simp only [h3, if_true, Int.toNat_natCast, rng0]
end
end VS


set_option Elab.async false
set_option linter.all false
set_option maxRecDepth 100000
set_option maxHeartbeats 4000000
namespace K32
noncomputable section
open PySem PySem.Spec PyProof.Rows L2 VS
def topS (i : Nat) : Stmt := PySem.Challenge.pw_anyamount_k32_full_ways.main.body.getD i (.Pass ⟨0, 0, 0, 0⟩)
abbrev s6 : Stmt := topS 6
def n6 : List Str := ["script", "cell"]
def p6 : List Str := ["script"]
theorem sc6 : FnScope n6 p6 (defScope s6) := ⟨rfl, rfl, rfl, by decide +kernel, rfl, by decide +kernel, by decide +kernel⟩
abbrev s7 : Stmt := topS 7
def n7 : List Str := ["flow", "many", "cell", "first", "second", "got"]
def p7 : List Str := ["flow", "many"]
theorem sc7 : FnScope n7 p7 (defScope s7) := ⟨rfl, rfl, rfl, by decide +kernel, rfl, by decide +kernel, by decide +kernel⟩
abbrev s8 : Stmt := topS 8
def n8 : List Str := ["flow", "things"]
def p8 : List Str := ["flow", "things"]
theorem sc8 : FnScope n8 p8 (defScope s8) := ⟨rfl, rfl, rfl, by decide +kernel, rfl, by decide +kernel, by decide +kernel⟩
abbrev s12 : Stmt := topS 12
def n12 : List Str := ["flow", "table", "ways", "i", "limits", "k", "price", "row", "j", "l"]
def p12 : List Str := ["flow", "table"]
theorem sc12 : FnScope n12 p12 (defScope s12) := ⟨rfl, rfl, rfl, by decide +kernel, rfl, by decide +kernel, by decide +kernel⟩
abbrev s9 : Stmt := topS 9
def n9 : List Str := ["flow", "full", "kind", "shut", "rows", "i", "many", "long", "row", "j", "price"]
def p9 : List Str := ["flow", "full"]
theorem sc9 : FnScope n9 p9 (defScope s9) := ⟨rfl, rfl, rfl, by decide +kernel, rfl, by decide +kernel, by decide +kernel⟩
abbrev s11 : Stmt := topS 11
def n11 : List Str := ["table", "i", "j", "word", "found", "k", "l", "gap"]
def p11 : List Str := ["table", "i", "j", "word"]
theorem sc11 : FnScope n11 p11 (defScope s11) := ⟨rfl, rfl, rfl, by decide +kernel, rfl, by decide +kernel, by decide +kernel⟩
abbrev s1 : Stmt := topS 1
def n1 : List Str := ["table", "way", "by", "word", "gain", "i", "j", "k", "l"]
def p1 : List Str := ["table", "way", "by", "word"]
theorem sc1 : FnScope n1 p1 (defScope s1) := ⟨rfl, rfl, rfl, by decide +kernel, rfl, by decide +kernel, by decide +kernel⟩
abbrev s2 : Stmt := topS 2
def n2 : List Str := ["table", "i", "j", "word", "k", "l"]
def p2 : List Str := ["table", "i", "j", "word"]
theorem sc2 : FnScope n2 p2 (defScope s2) := ⟨rfl, rfl, rfl, by decide +kernel, rfl, by decide +kernel, by decide +kernel⟩
abbrev s3 : Stmt := topS 3
def n3 : List Str := ["table", "i", "j"]
def p3 : List Str := ["table", "i", "j"]
theorem sc3 : FnScope n3 p3 (defScope s3) := ⟨rfl, rfl, rfl, by decide +kernel, rfl, by decide +kernel, by decide +kernel⟩
abbrev s4 : Stmt := topS 4
def n4 : List Str := ["table", "i", "j"]
def p4 : List Str := ["table", "i", "j"]
theorem sc4 : FnScope n4 p4 (defScope s4) := ⟨rfl, rfl, rfl, by decide +kernel, rfl, by decide +kernel, by decide +kernel⟩
abbrev s10 : Stmt := topS 10
def n10 : List Str := ["value"]
def p10 : List Str := ["value"]
theorem sc10 : FnScope n10 p10 (defScope s10) := ⟨rfl, rfl, rfl, by decide +kernel, rfl, by decide +kernel, by decide +kernel⟩
abbrev s13 : Stmt := topS 13
def n13 : List Str := ["script", "flow", "turn", "i", "table", "way", "j", "names", "word", "bars", "four", "found"]
def p13 : List Str := ["script"]
theorem sc13 : FnScope n13 p13 (defScope s13) := ⟨rfl, rfl, rfl, by decide +kernel, rfl, by decide +kernel, by decide +kernel⟩
/-- what the text's top has left -/
structure TX (K : PySem.W.Frag) (mg : Str → Option Value) (fA : Nat → Addr) (fD : Nat → FuncData) : Prop where
  F6 : Fun K "_law_flow" "_law_flow" s6 (fA 6) (fD 6)
  b6 : L2.Binds K (fD 6) p6 []
  g6 : mg "_law_flow" = some (.ref (fA 6))
  F7 : Fun K "_law_draw" "_law_draw" s7 (fA 7) (fD 7)
  b7 : L2.Binds K (fD 7) p7 []
  g7 : mg "_law_draw" = some (.ref (fA 7))
  F8 : Fun K "_law_pick" "_law_pick" s8 (fA 8) (fD 8)
  b8 : L2.Binds K (fD 8) p8 []
  g8 : mg "_law_pick" = some (.ref (fA 8))
  F12 : Fun K "_law_turned_cheap" "_law_turned_cheap" s12 (fA 12) (fD 12)
  b12 : L2.Binds K (fD 12) p12 []
  g12 : mg "_law_turned_cheap" = some (.ref (fA 12))
  F9 : Fun K "_law_table" "_law_table" s9 (fA 9) (fD 9)
  b9 : L2.Binds K (fD 9) p9 []
  g9 : mg "_law_table" = some (.ref (fA 9))
  F11 : Fun K "_law_bars" "_law_bars" s11 (fA 11) (fD 11)
  b11 : L2.Binds K (fD 11) p11 []
  g11 : mg "_law_bars" = some (.ref (fA 11))
  F1 : Fun K "_bars" "_bars" s1 (fA 1) (fD 1)
  b1 : L2.Binds K (fD 1) p1 []
  g1 : mg "_bars" = some (.ref (fA 1))
  F2 : Fun K "full_four" "full_four" s2 (fA 2) (fD 2)
  b2 : L2.Binds K (fD 2) p2 []
  g2 : mg "full_four" = some (.ref (fA 2))
  F3 : Fun K "always_full" "always_full" s3 (fA 3) (fD 3)
  b3 : L2.Binds K (fD 3) p3 []
  g3 : mg "always_full" = some (.ref (fA 3))
  F4 : Fun K "sometimes_full" "sometimes_full" s4 (fA 4) (fD 4)
  b4 : L2.Binds K (fD 4) p4 []
  g4 : mg "sometimes_full" = some (.ref (fA 4))
  F10 : Fun K "_law_is_whole" "_law_is_whole" s10 (fA 10) (fD 10)
  b10 : L2.Binds K (fD 10) p10 []
  g10 : mg "_law_is_whole" = some (.ref (fA 10))
  F13 : Fun K "law" "law" s13 (fA 13) (fD 13)
  b13 : L2.Binds K (fD 13) p13 []
  g13 : mg "law" = some (.ref (fA 13))
  k2_word_j_i_table : KBn K (fD 2) p2 0 ["word", "j", "i", "table"] (fun us ws => permL [3, 2, 1, 0] (us ++ ws)) (fun vs zs => permL [3, 2, 1, 0] (vs ++ zs))
  k3_j_i_table : KBn K (fD 3) p3 0 ["j", "i", "table"] (fun us ws => permL [2, 1, 0] (us ++ ws)) (fun vs zs => permL [2, 1, 0] (vs ++ zs))
  k4_j_i_table : KBn K (fD 4) p4 0 ["j", "i", "table"] (fun us ws => permL [2, 1, 0] (us ++ ws)) (fun vs zs => permL [2, 1, 0] (vs ++ zs))
  z_abs : mg "abs" = none
  z_bool : mg "bool" = none
  z_int : mg "int" = none
  z_isinstance : mg "isinstance" = none
  z_len : mg "len" = none
  z_min : mg "min" = none
  z_range : mg "range" = none
  z_tuple : mg "tuple" = none
section
variable {Pg : Program} {w : World} {K : PySem.W.Frag} {mg : Str → Option Value} {base : Heap} {fA : Nat → Addr} {fD : Nat → FuncData}
def E6_0 : VF :=
  (vPrim pAbs [(vPrim pInt [(vP (gN 1))])])
def B6 : SF :=
  (sRet (vLst [(vC (.int 0)), (vC (.int 0)), (vC (.int 0)), (vC (.int 0)), (vFz (vLc 2 [1] (itL (vSl (vP (gN 0)) none (some (vC (.int 63))))) (bName 1) tYes' E6_0))]))
def F6 : Fn := mkFn 1 2 [] B6
theorem ok_6 (Z : TX K mg fA fD) : FnOk Pg w K mg base CX0 1 (fA 6) (fD 6) p6 (spF K [] 1 F6) :=
  fnOk_c (k := 0) Z.F6 sc6 rfl fun X c => (show VSs X [] [] _ B6 from
  (vss_one (vs_ret (ve_lst (va_cons ve_int (va_cons ve_int (va_cons ve_int (va_cons ve_int (va_cons (ve_fz (c.lc (own := [("cell", 1)]) (n := 2) (by decide +kernel) (vi_list (ve_sl (ve_p (c.pn (i := 0) (by decide +kernel))) vo_none (vo_some ve_int))) (fun _ c1 => (c1.gn (i := 1) (by decide +kernel) (by decide))) (fun _ c1 => vts_nil) (fun _ c1 => (c1.cb cd_abs (by decide +kernel) Z.z_abs (by decide +kernel) (va_cons (c1.ct cd_int (by decide +kernel) Z.z_int (by decide +kernel) (va_cons (ve_p (c1.pn (i := 1) (by decide +kernel))) va_nil)) va_nil))))) va_nil)))))))))
def B7 : SF :=
  (sSeq (sSetI 0 (gC (.int 3)) (vBin pAdd (vP (gIx (gN 0) (gC (.int 3)))) (vC (.int 1))))
  (sSeq (sIf (tAn (tVal (vBin pEq (vP (gIx (gN 0) (gC (.int 1)))) (vC (.int 0)))) (tAn (tVal (vBin pLt (vP (gIx (gN 0) (gC (.int 2)))) (vPrP pLen (gIx (gN 0) (gC (.int 4)))))) (tVal (vBin pGe (vP (gIx (gIx (gN 0) (gC (.int 4))) (gIx (gN 0) (gC (.int 2))))) (vBin pPow (vC (.int 10)) (vC (.int 18)))))))
  (sSeq (sSetI 0 (gC (.int 0)) (vP (gIx (gIx (gN 0) (gC (.int 4))) (gIx (gN 0) (gC (.int 2))))))
  (sSeq (sSetI 0 (gC (.int 1)) (vC (.int 60)))
  (sSetI 0 (gC (.int 2)) (vBin pAdd (vP (gIx (gN 0) (gC (.int 2)))) (vC (.int 1))))))
  sNx)
  (sSeq (sIf (tVal (vBin pGt (vP (gIx (gN 0) (gC (.int 1)))) (vC (.int 0))))
  (sSeq (sSet 5 (vBin pMod (vPrim pInt [(vP (gIx (gN 0) (gC (.int 0))))]) (vP (gN 1))))
  (sSeq (sSetI 0 (gC (.int 0)) (vBin pDiv (vP (gIx (gN 0) (gC (.int 0)))) (vP (gN 1))))
  (sSeq (sSetI 0 (gC (.int 1)) (vBin pMul (vBin pSub (vP (gIx (gN 0) (gC (.int 1)))) (vC (.int 1))) (vPrim pInt [(vBin pGt (vP (gIx (gN 0) (gC (.int 0)))) (vC (.int 0)))])))
  (sRet (vP (gN 5))))))
  sNx)
  (sSeq (sSet 2 (vC (.int 7)))
  (sSeq (sIf (tVal (vBin pGt (vPrP pLen (gIx (gN 0) (gC (.int 4)))) (vC (.int 0))))
  (sSeq (sSet 2 (vBin pIx (vP (gIx (gN 0) (gC (.int 4)))) (vBin pMod (vPrim pInt [(vP (gIx (gN 0) (gC (.int 2))))]) (vPrP pLen (gIx (gN 0) (gC (.int 4)))))))
  (sSetI 0 (gC (.int 2)) (vBin pAdd (vP (gIx (gN 0) (gC (.int 2)))) (vC (.int 1)))))
  sNx)
  (sSeq (sSet 3 (vBin pMod (vPrim pInt [(vBin pAdd (vBin pMul (vP (gN 2)) (vC (.int 48271))) (vBin pMul (vP (gIx (gN 0) (gC (.int 3)))) (vC (.int 69621))))]) (vC (.int 2147483647))))
  (sSeq (sSet 4 (vBin pMod (vPrim pInt [(vBin pAdd (vBin pMul (vP (gN 3)) (vP (gN 3))) (vBin pMul (vP (gIx (gN 0) (gC (.int 3)))) (vC (.int 40692))))]) (vC (.int 2147483399))))
  (sRet (vBin pMod (vPrim pInt [(vBin pMod (vPrim pInt [(vBin pAdd (vBin pMul (vP (gN 4)) (vP (gN 4))) (vP (gN 3)))]) (vC (.int 2147483647)))]) (vP (gN 1)))))))))))
def F7 : Fn := mkFn 2 6 [0] B7
theorem ok_7 (Z : TX K mg fA fD) : FnOk Pg w K mg base CX0 1 (fA 7) (fD 7) p7 (spF K [] 2 F7) :=
  fnOk_c (k := 0) Z.F7 sc7 rfl fun X c => (show VSs X [] [0] _ B7 from
  (vss_cons (c.setI (i := 0) (by decide +kernel) vp_int (ve_bin od_add (ve_p (vp_ix (c.pn (i := 0) (by decide +kernel)) vp_int (fun _ _ => rfl))) ve_int))
  (vss_cons (vs_if (vt_w (vw_an (vt_cmp (od_eq c.hu) rfl (ve_p (vp_ix (c.pn (i := 0) (by decide +kernel)) vp_int (fun _ _ => rfl))) ve_int) (vw_an (vt_cmp od_lt rfl (ve_p (vp_ix (c.pn (i := 0) (by decide +kernel)) vp_int (fun _ _ => rfl))) (c.cbp cd_len (by decide +kernel) Z.z_len (by decide +kernel) (vp_ix (c.pn (i := 0) (by decide +kernel)) vp_int (fun _ _ => rfl)))) (vw_an1 (vt_cmp od_ge rfl (ve_p (vp_ix (vp_ix (c.pn (i := 0) (by decide +kernel)) vp_int (fun _ _ => rfl)) (vp_ix (c.pn (i := 0) (by decide +kernel)) vp_int (fun _ _ => rfl)) (fun _ _ => rfl))) (ve_bin od_pow ve_int ve_int))))))
  (vss_cons (c.setI (i := 0) (by decide +kernel) vp_int (ve_p (vp_ix (vp_ix (c.pn (i := 0) (by decide +kernel)) vp_int (fun _ _ => rfl)) (vp_ix (c.pn (i := 0) (by decide +kernel)) vp_int (fun _ _ => rfl)) (fun _ _ => rfl))))
  (vss_cons (c.setI (i := 0) (by decide +kernel) vp_int ve_int)
  (vss_one (c.setI (i := 0) (by decide +kernel) vp_int (ve_bin od_add (ve_p (vp_ix (c.pn (i := 0) (by decide +kernel)) vp_int (fun _ _ => rfl))) ve_int)))))
  vss_nil)
  (vss_cons (vs_if (vt_cmp od_gt rfl (ve_p (vp_ix (c.pn (i := 0) (by decide +kernel)) vp_int (fun _ _ => rfl))) ve_int)
  (vss_cons (c.set (i := 5) (by decide +kernel) (by decide) (ve_bin od_mod (c.ct cd_int (by decide +kernel) Z.z_int (by decide +kernel) (va_cons (ve_p (vp_ix (c.pn (i := 0) (by decide +kernel)) vp_int (fun _ _ => rfl))) va_nil)) (ve_p (c.pn (i := 1) (by decide +kernel)))))
  (vss_cons (c.setI (i := 0) (by decide +kernel) vp_int (ve_bin od_div (ve_p (vp_ix (c.pn (i := 0) (by decide +kernel)) vp_int (fun _ _ => rfl))) (ve_p (c.pn (i := 1) (by decide +kernel)))))
  (vss_cons (c.setI (i := 0) (by decide +kernel) vp_int (ve_bin od_mul (ve_bin od_sub (ve_p (vp_ix (c.pn (i := 0) (by decide +kernel)) vp_int (fun _ _ => rfl))) ve_int) (c.ct cd_int (by decide +kernel) Z.z_int (by decide +kernel) (va_cons (ve_cmp od_gt rfl (ve_p (vp_ix (c.pn (i := 0) (by decide +kernel)) vp_int (fun _ _ => rfl))) ve_int) va_nil))))
  (vss_one (vs_ret (ve_p (c.pn (i := 5) (by decide +kernel))))))))
  vss_nil)
  (vss_cons (c.set (i := 2) (by decide +kernel) (by decide) ve_int)
  (vss_cons (vs_if (vt_cmp od_gt rfl (c.cbp cd_len (by decide +kernel) Z.z_len (by decide +kernel) (vp_ix (c.pn (i := 0) (by decide +kernel)) vp_int (fun _ _ => rfl))) ve_int)
  (vss_cons (c.set (i := 2) (by decide +kernel) (by decide) (ve_ix id_ix (fun _ _ => rfl) (ve_p (vp_ix (c.pn (i := 0) (by decide +kernel)) vp_int (fun _ _ => rfl))) (ve_bin od_mod (c.ct cd_int (by decide +kernel) Z.z_int (by decide +kernel) (va_cons (ve_p (vp_ix (c.pn (i := 0) (by decide +kernel)) vp_int (fun _ _ => rfl))) va_nil)) (c.cbp cd_len (by decide +kernel) Z.z_len (by decide +kernel) (vp_ix (c.pn (i := 0) (by decide +kernel)) vp_int (fun _ _ => rfl))))))
  (vss_one (c.setI (i := 0) (by decide +kernel) vp_int (ve_bin od_add (ve_p (vp_ix (c.pn (i := 0) (by decide +kernel)) vp_int (fun _ _ => rfl))) ve_int))))
  vss_nil)
  (vss_cons (c.set (i := 3) (by decide +kernel) (by decide) (ve_bin od_mod (c.ct cd_int (by decide +kernel) Z.z_int (by decide +kernel) (va_cons (ve_bin od_add (ve_bin od_mul (ve_p (c.pn (i := 2) (by decide +kernel))) ve_int) (ve_bin od_mul (ve_p (vp_ix (c.pn (i := 0) (by decide +kernel)) vp_int (fun _ _ => rfl))) ve_int)) va_nil)) ve_int))
  (vss_cons (c.set (i := 4) (by decide +kernel) (by decide) (ve_bin od_mod (c.ct cd_int (by decide +kernel) Z.z_int (by decide +kernel) (va_cons (ve_bin od_add (ve_bin od_mul (ve_p (c.pn (i := 3) (by decide +kernel))) (ve_p (c.pn (i := 3) (by decide +kernel)))) (ve_bin od_mul (ve_p (vp_ix (c.pn (i := 0) (by decide +kernel)) vp_int (fun _ _ => rfl))) ve_int)) va_nil)) ve_int))
  (vss_one (vs_ret (ve_bin od_mod (c.ct cd_int (by decide +kernel) Z.z_int (by decide +kernel) (va_cons (ve_bin od_mod (c.ct cd_int (by decide +kernel) Z.z_int (by decide +kernel) (va_cons (ve_bin od_add (ve_bin od_mul (ve_p (c.pn (i := 4) (by decide +kernel))) (ve_p (c.pn (i := 4) (by decide +kernel)))) (ve_p (c.pn (i := 3) (by decide +kernel)))) va_nil)) ve_int) va_nil)) (ve_p (c.pn (i := 1) (by decide +kernel))))))))))))))
def B8 : SF :=
  (sRet (vBin pIx (vP (gN 1)) (vCall F7 [(vBw 0), (vPrim pLen [(vP (gN 1))])])))
def F8 : Fn := mkFn 2 2 [0] B8
theorem ok_8 (Z : TX K mg fA fD) : FnOk Pg w K mg base CX0 2 (fA 8) (fD 8) p8 (spF K [] 2 F8) :=
  fnOk_c (k := 1) Z.F8 sc8 rfl fun X c => (show VSs X [] [0] _ B8 from
  (vss_one (vs_ret (ve_ix id_ix (fun _ _ => rfl) (ve_p (c.pn (i := 1) (by decide +kernel))) (c.call (ok_7 Z) (by omega) (by decide +kernel) Z.g7 Z.F7.kp Z.b7 (va_cons (c.bw (i := 0) (by decide +kernel)) (va_cons (c.cb cd_len (by decide +kernel) Z.z_len (by decide +kernel) (va_cons (ve_p (c.pn (i := 1) (by decide +kernel))) va_nil)) va_nil)) rfl)))))
def E12_0 : VF :=
  (vTup [(vP (gN 3)), (vP (gN 8))])
def L12_1 : SF :=
  (sSet 2 (vBin pAdd (vBw 2) (vLc 10 [8] (itR1 (vPrP pLen (gIx (gN 1) (gC (.int 0))))) (bName 8) (tVal (vBin pNotN (vP (gIx (gIx (gN 1) (gN 3)) (gN 8))) (vC .non))) E12_0)))
def E12_2 : VF :=
  (vBin pSub (vBin pAdd (vP (gIx (gIx (gN 1) (gN 3)) (gN 9))) (vP (gIx (gIx (gN 1) (gN 5)) (gN 8)))) (vP (gIx (gIx (gN 1) (gN 5)) (gN 9))))
def L12_3 : SF :=
  (sSet 4 (vBin pAdd (vBw 4) (vLc 10 [9] (itR1 (vPrP pLen (gIx (gN 1) (gC (.int 0))))) (bName 9) (tAn (tVal (vBin pNe (vP (gN 5)) (vP (gN 3)))) (tAn (tVal (vBin pNe (vP (gN 9)) (vP (gN 8)))) (tVal (vBin pNotIn (vC .non) (vLst [(vP (gIx (gIx (gN 1) (gN 3)) (gN 9))), (vP (gIx (gIx (gN 1) (gN 5)) (gN 8))), (vP (gIx (gIx (gN 1) (gN 5)) (gN 9)))]))))) E12_2)))
def B12 : SF :=
  (sSeq (sSet 2 (vLst []))
  (sSeq (sFor (itR1 (vPrim pLen [(vP (gN 1))])) (bName 3)
  L12_1)
  (sSeq (sIf (tVal (vBin pEq (vPrim pLen [(vBw 2)]) (vC (.int 0))))
  (sRet (vTup [(vP (gN 1)), (vC .non)]))
  sNx)
  (sSeq (sAsg (vCall F8 [(vBw 0), (vRd 2)]) (bTup [(bName 3), (bName 8)]))
  (sSeq (sSet 4 (vLst []))
  (sSeq (sFor (itR1 (vPrim pLen [(vP (gN 1))])) (bName 5)
  L12_3)
  (sSeq (sSet 6 (vIf (tVal (vBin pEq (vPrim pLen [(vBw 4)]) (vC (.int 0)))) (vP (gIx (gIx (gN 1) (gN 3)) (gN 8))) (vBin pAdd (vPrim pMinL [(vBw 4)]) (vBin pIx (vLst [(vC (.int 0)), (vC (.int 0)), (vUn pNeg (vC (.int 1))), (vC (.int 1))]) (vCall F7 [(vBw 0), (vC (.int 4))])))))
  (sSeq (sIf (tOr' (tVal (vBin pLt (vP (gN 6)) (vUn pNeg (vC (.int 1000))))) (tVal (vBin pGt (vP (gN 6)) (vC (.int 1000)))))
  (sSet 6 (vP (gIx (gIx (gN 1) (gN 3)) (gN 8))))
  sNx)
  (sSeq (sSet 7 (vBin pAdd (vBin pAdd (vSl (vP (gIx (gN 1) (gN 3))) none (some (vP (gN 8)))) (vTup [(vP (gN 6))])) (vSl (vP (gIx (gN 1) (gN 3))) (some (vBin pAdd (vP (gN 8)) (vC (.int 1)))) none)))
  (sRet (vTup [(vBin pAdd (vBin pAdd (vSl (vP (gN 1)) none (some (vP (gN 3)))) (vTup [(vP (gN 7))])) (vSl (vP (gN 1)) (some (vBin pAdd (vP (gN 3)) (vC (.int 1)))) none)), (vTup [(vP (gN 3)), (vP (gN 8))])])))))))))))
def F12 : Fn := mkFn 2 10 [0] B12
theorem ok_12 (Z : TX K mg fA fD) : FnOk Pg w K mg base CX0 3 (fA 12) (fD 12) p12 (spF K [] 2 F12) :=
  fnOk_c (k := 2) Z.F12 sc12 rfl fun X c => (show VSs X [] [0] _ B12 from
  (vss_cons (c.set (i := 2) (by decide +kernel) (by decide) (ve_lst va_nil))
  (vss_cons (c.for (c.r1 (by decide +kernel) Z.z_range (c.cb cd_len (by decide +kernel) Z.z_len (by decide +kernel) (va_cons (ve_p (c.pn (i := 1) (by decide +kernel))) va_nil))) (c.gn (i := 3) (by decide +kernel) (by decide))
  (vss_one (c.set (i := 2) (by decide +kernel) (by decide) (ve_bin od_add (c.bw (i := 2) (by decide +kernel)) (c.lc (own := [("j", 8)]) (n := 10) (by decide +kernel) (c.r1 (by decide +kernel) Z.z_range (c.cbp cd_len (by decide +kernel) Z.z_len (by decide +kernel) (vp_ix (c.pn (i := 1) (by decide +kernel)) vp_int (fun _ _ => rfl)))) (fun _ c1 => (c1.gn (i := 8) (by decide +kernel) (by decide))) (fun _ c1 => (vts_one (vt_cmp od_notN rfl (ve_p (vp_ix (vp_ix (c1.pn (i := 1) (by decide +kernel)) (c1.pn (i := 3) (by decide +kernel)) (fun _ _ => rfl)) (c1.pn (i := 8) (by decide +kernel)) (fun _ _ => rfl))) ve_non))) (fun _ c1 => (ve_tup (va_cons (ve_p (c1.pn (i := 3) (by decide +kernel))) (va_cons (ve_p (c1.pn (i := 8) (by decide +kernel))) va_nil)))))))))
  (vss_cons (vs_if (vt_cmp (od_eq c.hu) rfl (c.cb cd_len (by decide +kernel) Z.z_len (by decide +kernel) (va_cons (c.bw (i := 2) (by decide +kernel)) va_nil)) ve_int)
  (vss_one (vs_ret (ve_tup (va_cons (ve_p (c.pn (i := 1) (by decide +kernel))) (va_cons ve_non va_nil)))))
  vss_nil)
  (vss_cons (c.asg (c.call (ok_8 Z) (by omega) (by decide +kernel) Z.g8 Z.F8.kp Z.b8 (va_cons (c.bw (i := 0) (by decide +kernel)) (va_cons (c.rd (i := 2) (by decide +kernel)) va_nil)) rfl) (c.gt (vgs_cons (c.gn (i := 3) (by decide +kernel) (by decide)) (vgs_cons (c.gn (i := 8) (by decide +kernel) (by decide)) vgs_nil))))
  (vss_cons (c.set (i := 4) (by decide +kernel) (by decide) (ve_lst va_nil))
  (vss_cons (c.for (c.r1 (by decide +kernel) Z.z_range (c.cb cd_len (by decide +kernel) Z.z_len (by decide +kernel) (va_cons (ve_p (c.pn (i := 1) (by decide +kernel))) va_nil))) (c.gn (i := 5) (by decide +kernel) (by decide))
  (vss_one (c.set (i := 4) (by decide +kernel) (by decide) (ve_bin od_add (c.bw (i := 4) (by decide +kernel)) (c.lc (own := [("l", 9)]) (n := 10) (by decide +kernel) (c.r1 (by decide +kernel) Z.z_range (c.cbp cd_len (by decide +kernel) Z.z_len (by decide +kernel) (vp_ix (c.pn (i := 1) (by decide +kernel)) vp_int (fun _ _ => rfl)))) (fun _ c1 => (c1.gn (i := 9) (by decide +kernel) (by decide))) (fun _ c1 => (vts_one (vt_w (vw_an (vt_cmp (od_ne c1.hu) rfl (ve_p (c1.pn (i := 5) (by decide +kernel))) (ve_p (c1.pn (i := 3) (by decide +kernel)))) (vw_an (vt_cmp (od_ne c1.hu) rfl (ve_p (c1.pn (i := 9) (by decide +kernel))) (ve_p (c1.pn (i := 8) (by decide +kernel)))) (vw_an1 (vt_cmp (od_notIn c1.hu5) rfl ve_non (ve_lst (va_cons (ve_p (vp_ix (vp_ix (c1.pn (i := 1) (by decide +kernel)) (c1.pn (i := 3) (by decide +kernel)) (fun _ _ => rfl)) (c1.pn (i := 9) (by decide +kernel)) (fun _ _ => rfl))) (va_cons (ve_p (vp_ix (vp_ix (c1.pn (i := 1) (by decide +kernel)) (c1.pn (i := 5) (by decide +kernel)) (fun _ _ => rfl)) (c1.pn (i := 8) (by decide +kernel)) (fun _ _ => rfl))) (va_cons (ve_p (vp_ix (vp_ix (c1.pn (i := 1) (by decide +kernel)) (c1.pn (i := 5) (by decide +kernel)) (fun _ _ => rfl)) (c1.pn (i := 9) (by decide +kernel)) (fun _ _ => rfl))) va_nil))))))))))) (fun _ c1 => (ve_bin od_sub (ve_bin od_add (ve_p (vp_ix (vp_ix (c1.pn (i := 1) (by decide +kernel)) (c1.pn (i := 3) (by decide +kernel)) (fun _ _ => rfl)) (c1.pn (i := 9) (by decide +kernel)) (fun _ _ => rfl))) (ve_p (vp_ix (vp_ix (c1.pn (i := 1) (by decide +kernel)) (c1.pn (i := 5) (by decide +kernel)) (fun _ _ => rfl)) (c1.pn (i := 8) (by decide +kernel)) (fun _ _ => rfl)))) (ve_p (vp_ix (vp_ix (c1.pn (i := 1) (by decide +kernel)) (c1.pn (i := 5) (by decide +kernel)) (fun _ _ => rfl)) (c1.pn (i := 9) (by decide +kernel)) (fun _ _ => rfl))))))))))
  (vss_cons (c.set (i := 6) (by decide +kernel) (by decide) (ve_if (vt_cmp (od_eq c.hu) rfl (c.cb cd_len (by decide +kernel) Z.z_len (by decide +kernel) (va_cons (c.bw (i := 4) (by decide +kernel)) va_nil)) ve_int) (ve_p (vp_ix (vp_ix (c.pn (i := 1) (by decide +kernel)) (c.pn (i := 3) (by decide +kernel)) (fun _ _ => rfl)) (c.pn (i := 8) (by decide +kernel)) (fun _ _ => rfl))) (ve_bin od_add (c.cb (cd_minL c.calm) (by decide +kernel) Z.z_min (by decide +kernel) (va_cons (c.bw (i := 4) (by decide +kernel)) va_nil)) (ve_ix id_ix (fun _ _ => rfl) (ve_lst (va_cons ve_int (va_cons ve_int (va_cons (ve_un ud_neg ve_int (by decide)) (va_cons ve_int va_nil))))) (c.call (ok_7 Z) (by omega) (by decide +kernel) Z.g7 Z.F7.kp Z.b7 (va_cons (c.bw (i := 0) (by decide +kernel)) (va_cons ve_int va_nil)) rfl)))))
  (vss_cons (vs_if (vt_w (vw_or (vt_cmp od_lt rfl (ve_p (c.pn (i := 6) (by decide +kernel))) (ve_un ud_neg ve_int (by decide))) (vw_or1 (vt_cmp od_gt rfl (ve_p (c.pn (i := 6) (by decide +kernel))) ve_int))))
  (vss_one (c.set (i := 6) (by decide +kernel) (by decide) (ve_p (vp_ix (vp_ix (c.pn (i := 1) (by decide +kernel)) (c.pn (i := 3) (by decide +kernel)) (fun _ _ => rfl)) (c.pn (i := 8) (by decide +kernel)) (fun _ _ => rfl)))))
  vss_nil)
  (vss_cons (c.set (i := 7) (by decide +kernel) (by decide) (ve_bin od_add (ve_bin od_add (ve_sl (ve_p (vp_ix (c.pn (i := 1) (by decide +kernel)) (c.pn (i := 3) (by decide +kernel)) (fun _ _ => rfl))) vo_none (vo_some (ve_p (c.pn (i := 8) (by decide +kernel))))) (ve_tup (va_cons (ve_p (c.pn (i := 6) (by decide +kernel))) va_nil))) (ve_sl (ve_p (vp_ix (c.pn (i := 1) (by decide +kernel)) (c.pn (i := 3) (by decide +kernel)) (fun _ _ => rfl))) (vo_some (ve_bin od_add (ve_p (c.pn (i := 8) (by decide +kernel))) ve_int)) vo_none)))
  (vss_one (vs_ret (ve_tup (va_cons (ve_bin od_add (ve_bin od_add (ve_sl (ve_p (c.pn (i := 1) (by decide +kernel))) vo_none (vo_some (ve_p (c.pn (i := 3) (by decide +kernel))))) (ve_tup (va_cons (ve_p (c.pn (i := 7) (by decide +kernel))) va_nil))) (ve_sl (ve_p (c.pn (i := 1) (by decide +kernel))) (vo_some (ve_bin od_add (ve_p (c.pn (i := 3) (by decide +kernel))) ve_int)) vo_none)) (va_cons (ve_tup (va_cons (ve_p (c.pn (i := 3) (by decide +kernel))) (va_cons (ve_p (c.pn (i := 8) (by decide +kernel))) va_nil))) va_nil)))))))))))))))
def L9_0 : SF :=
  (sSeq (sSet 10 (vIf (tVal (vBin pLt (vP (gN 2)) (vC (.int 3)))) (vCall F8 [(vBw 0), (vFz (vLst [(vCall F7 [(vBw 0), (vC (.int 5))]), (vCall F7 [(vBw 0), (vC (.int 5))]), (vBin pSub (vCall F7 [(vBw 0), (vC (.int 40))]) (vC (.int 9)))]))]) (vBin pSub (vCall F7 [(vBw 0), (vC (.int 2001))]) (vC (.int 1000)))))
  (sExpr (vApp 8 (vIf (tAn (tVal (vBin pGt (vP (gN 3)) (vC (.int 0)))) (tVal (vBin pEq (vCall F7 [(vBw 0), (vP (gN 3))]) (vC (.int 0))))) (vC .non) (vP (gN 10))))))
def L9_1 : SF :=
  (sSeq (sSet 8 (vLst []))
  (sSeq (sFor (itR1 (vP (gN 7))) (bName 9)
  L9_0)
  (sExpr (vApp 4 (vUn pTuple (vBw 8))))))
def B9 : SF :=
  (sSeq (sAsg (vCall F8 [(vBw 0), (vFz (vLst [(vTup [(vC (.int 1)), (vC (.int 1))]), (vTup [(vC (.int 1)), (vC (.int 6))]), (vTup [(vC (.int 2)), (vC (.int 2))]), (vTup [(vC (.int 2)), (vC (.int 3))]), (vTup [(vC (.int 3)), (vC (.int 2))]), (vTup [(vC (.int 3)), (vC (.int 3))]), (vTup [(vC (.int 3)), (vC (.int 3))]), (vTup [(vC (.int 3)), (vC (.int 3))]), (vTup [(vC (.int 3)), (vC (.int 4))]), (vTup [(vC (.int 4)), (vC (.int 3))]), (vTup [(vC (.int 4)), (vC (.int 4))]), (vTup [(vC (.int 2)), (vC (.int 6))]), (vTup [(vC (.int 6)), (vC (.int 2))])]))]) (bTup [(bName 6), (bName 7)]))
  (sSeq (sIf (tVal (vBin pEq (vCall F7 [(vBw 0), (vC (.int 8))]) (vC (.int 0))))
  (sAsg (vCall F8 [(vBw 0), (vFz (vLst [(vTup [(vC (.int 5)), (vC (.int 5))]), (vTup [(vC (.int 4)), (vC (.int 6))]), (vTup [(vC (.int 6)), (vC (.int 4))]), (vTup [(vC (.int 3)), (vC (.int 5))]), (vTup [(vC (.int 5)), (vC (.int 3))]), (vTup [(vC (.int 2)), (vC (.int 5))]), (vTup [(vC (.int 5)), (vC (.int 2))]), (vTup [(vC (.int 6)), (vC (.int 1))]), (vTup [(vC (.int 1)), (vC (.int 3))]), (vTup [(vC (.int 4)), (vC (.int 2))])]))]) (bTup [(bName 6), (bName 7)]))
  sNx)
  (sSeq (sSet 2 (vCall F7 [(vBw 0), (vC (.int 4))]))
  (sSeq (sSet 3 (vIf (tNo (tVal (vP (gN 1)))) (vBin pIx (vLst [(vC (.int 0)), (vC (.int 0)), (vC (.int 3)), (vC (.int 5))]) (vCall F7 [(vBw 0), (vC (.int 4))])) (vC (.int 0))))
  (sSeq (sSet 4 (vLst []))
  (sSeq (sFor (itR1 (vP (gN 6))) (bName 5)
  L9_1)
  (sRet (vUn pTuple (vBw 4)))))))))
def F9 : Fn := mkFn 2 11 [0] B9
theorem ok_9 (Z : TX K mg fA fD) : FnOk Pg w K mg base CX0 3 (fA 9) (fD 9) p9 (spF K [] 2 F9) :=
  fnOk_c (k := 2) Z.F9 sc9 rfl fun X c => (show VSs X [] [0] _ B9 from
  (vss_cons (c.asg (c.call (ok_8 Z) (by omega) (by decide +kernel) Z.g8 Z.F8.kp Z.b8 (va_cons (c.bw (i := 0) (by decide +kernel)) (va_cons (ve_fz (ve_lst (va_cons (ve_tup (va_cons ve_int (va_cons ve_int va_nil))) (va_cons (ve_tup (va_cons ve_int (va_cons ve_int va_nil))) (va_cons (ve_tup (va_cons ve_int (va_cons ve_int va_nil))) (va_cons (ve_tup (va_cons ve_int (va_cons ve_int va_nil))) (va_cons (ve_tup (va_cons ve_int (va_cons ve_int va_nil))) (va_cons (ve_tup (va_cons ve_int (va_cons ve_int va_nil))) (va_cons (ve_tup (va_cons ve_int (va_cons ve_int va_nil))) (va_cons (ve_tup (va_cons ve_int (va_cons ve_int va_nil))) (va_cons (ve_tup (va_cons ve_int (va_cons ve_int va_nil))) (va_cons (ve_tup (va_cons ve_int (va_cons ve_int va_nil))) (va_cons (ve_tup (va_cons ve_int (va_cons ve_int va_nil))) (va_cons (ve_tup (va_cons ve_int (va_cons ve_int va_nil))) (va_cons (ve_tup (va_cons ve_int (va_cons ve_int va_nil))) va_nil))))))))))))))) va_nil)) rfl) (c.gt (vgs_cons (c.gn (i := 6) (by decide +kernel) (by decide)) (vgs_cons (c.gn (i := 7) (by decide +kernel) (by decide)) vgs_nil))))
  (vss_cons (vs_if (vt_cmp (od_eq c.hu) rfl (c.call (ok_7 Z) (by omega) (by decide +kernel) Z.g7 Z.F7.kp Z.b7 (va_cons (c.bw (i := 0) (by decide +kernel)) (va_cons ve_int va_nil)) rfl) ve_int)
  (vss_one (c.asg (c.call (ok_8 Z) (by omega) (by decide +kernel) Z.g8 Z.F8.kp Z.b8 (va_cons (c.bw (i := 0) (by decide +kernel)) (va_cons (ve_fz (ve_lst (va_cons (ve_tup (va_cons ve_int (va_cons ve_int va_nil))) (va_cons (ve_tup (va_cons ve_int (va_cons ve_int va_nil))) (va_cons (ve_tup (va_cons ve_int (va_cons ve_int va_nil))) (va_cons (ve_tup (va_cons ve_int (va_cons ve_int va_nil))) (va_cons (ve_tup (va_cons ve_int (va_cons ve_int va_nil))) (va_cons (ve_tup (va_cons ve_int (va_cons ve_int va_nil))) (va_cons (ve_tup (va_cons ve_int (va_cons ve_int va_nil))) (va_cons (ve_tup (va_cons ve_int (va_cons ve_int va_nil))) (va_cons (ve_tup (va_cons ve_int (va_cons ve_int va_nil))) (va_cons (ve_tup (va_cons ve_int (va_cons ve_int va_nil))) va_nil)))))))))))) va_nil)) rfl) (c.gt (vgs_cons (c.gn (i := 6) (by decide +kernel) (by decide)) (vgs_cons (c.gn (i := 7) (by decide +kernel) (by decide)) vgs_nil)))))
  vss_nil)
  (vss_cons (c.set (i := 2) (by decide +kernel) (by decide) (c.call (ok_7 Z) (by omega) (by decide +kernel) Z.g7 Z.F7.kp Z.b7 (va_cons (c.bw (i := 0) (by decide +kernel)) (va_cons ve_int va_nil)) rfl))
  (vss_cons (c.set (i := 3) (by decide +kernel) (by decide) (ve_if (vt_no (vt_val (ve_p (c.pn (i := 1) (by decide +kernel))))) (ve_ix id_ix (fun _ _ => rfl) (ve_lst (va_cons ve_int (va_cons ve_int (va_cons ve_int (va_cons ve_int va_nil))))) (c.call (ok_7 Z) (by omega) (by decide +kernel) Z.g7 Z.F7.kp Z.b7 (va_cons (c.bw (i := 0) (by decide +kernel)) (va_cons ve_int va_nil)) rfl)) ve_int))
  (vss_cons (c.set (i := 4) (by decide +kernel) (by decide) (ve_lst va_nil))
  (vss_cons (c.for (c.r1 (by decide +kernel) Z.z_range (ve_p (c.pn (i := 6) (by decide +kernel)))) (c.gn (i := 5) (by decide +kernel) (by decide))
  (vss_cons (c.set (i := 8) (by decide +kernel) (by decide) (ve_lst va_nil))
  (vss_cons (c.for (c.r1 (by decide +kernel) Z.z_range (ve_p (c.pn (i := 7) (by decide +kernel)))) (c.gn (i := 9) (by decide +kernel) (by decide))
  (vss_cons (c.set (i := 10) (by decide +kernel) (by decide) (ve_if (vt_cmp od_lt rfl (ve_p (c.pn (i := 2) (by decide +kernel))) ve_int) (c.call (ok_8 Z) (by omega) (by decide +kernel) Z.g8 Z.F8.kp Z.b8 (va_cons (c.bw (i := 0) (by decide +kernel)) (va_cons (ve_fz (ve_lst (va_cons (c.call (ok_7 Z) (by omega) (by decide +kernel) Z.g7 Z.F7.kp Z.b7 (va_cons (c.bw (i := 0) (by decide +kernel)) (va_cons ve_int va_nil)) rfl) (va_cons (c.call (ok_7 Z) (by omega) (by decide +kernel) Z.g7 Z.F7.kp Z.b7 (va_cons (c.bw (i := 0) (by decide +kernel)) (va_cons ve_int va_nil)) rfl) (va_cons (ve_bin od_sub (c.call (ok_7 Z) (by omega) (by decide +kernel) Z.g7 Z.F7.kp Z.b7 (va_cons (c.bw (i := 0) (by decide +kernel)) (va_cons ve_int va_nil)) rfl) ve_int) va_nil))))) va_nil)) rfl) (ve_bin od_sub (c.call (ok_7 Z) (by omega) (by decide +kernel) Z.g7 Z.F7.kp Z.b7 (va_cons (c.bw (i := 0) (by decide +kernel)) (va_cons ve_int va_nil)) rfl) ve_int)))
  (vss_one (vex (c.app (i := 8) (by decide +kernel) (ve_if (vt_w (vw_an (vt_cmp od_gt rfl (ve_p (c.pn (i := 3) (by decide +kernel))) ve_int) (vw_an1 (vt_cmp (od_eq c.hu) rfl (c.call (ok_7 Z) (by omega) (by decide +kernel) Z.g7 Z.F7.kp Z.b7 (va_cons (c.bw (i := 0) (by decide +kernel)) (va_cons (ve_p (c.pn (i := 3) (by decide +kernel))) va_nil)) rfl) ve_int)))) ve_non (ve_p (c.pn (i := 10) (by decide +kernel)))))))))
  (vss_one (vex (c.app (i := 4) (by decide +kernel) (c.tuple (by decide +kernel) Z.z_tuple (c.bw (i := 8) (by decide +kernel)))))))))
  (vss_one (vs_ret (c.tuple (by decide +kernel) Z.z_tuple (c.bw (i := 4) (by decide +kernel))))))))))))
def L11_0 : SF :=
  (sIf (tAn (tVal (vBin pNe (vP (gN 5)) (vP (gN 1)))) (tAn (tVal (vBin pNe (vP (gN 6)) (vP (gN 2)))) (tAn (tVal (vBin pNotN (vP (gIx (gIx (gN 0) (gN 1)) (gN 6))) (vC .non))) (tVal (vBin pNotN (vP (gIx (gIx (gN 0) (gN 5)) (gN 2))) (vC .non))))))
  (sIf (tVal (vBin pIsN (vP (gIx (gIx (gN 0) (gN 5)) (gN 6))) (vC .non)))
  (sExpr (vApp 4 (vTup [(vP (gN 5)), (vP (gN 6))])))
  (sSeq (sSet 7 (vBin pSub (vBin pSub (vBin pAdd (vP (gIx (gIx (gN 0) (gN 1)) (gN 6))) (vP (gIx (gIx (gN 0) (gN 5)) (gN 2)))) (vP (gIx (gIx (gN 0) (gN 1)) (gN 2)))) (vP (gIx (gIx (gN 0) (gN 5)) (gN 6)))))
  (sIf (tOr' (tVal (vBin pLt (vP (gN 7)) (vC (.int 0)))) (tAn (tVal (vBin pEq (vP (gN 7)) (vC (.int 0)))) (tVal (vBin pEq (vP (gN 3)) (vC (.str "always"))))))
  (sExpr (vApp 4 (vTup [(vP (gN 5)), (vP (gN 6))])))
  sNx)))
  sNx)
def L11_1 : SF :=
  (sFor (itR1 (vPrP pLen (gIx (gN 0) (gC (.int 0))))) (bName 6)
  L11_0)
def B11 : SF :=
  (sSeq (sSet 4 (vLst []))
  (sSeq (sFor (itR1 (vPrim pLen [(vP (gN 0))])) (bName 5)
  L11_1)
  (sRet (vMv 4))))
def F11 : Fn := mkFn 4 8 [] B11
theorem ok_11 (Z : TX K mg fA fD) : FnOk Pg w K mg base CX0 1 (fA 11) (fD 11) p11 (spF K [] 4 F11) :=
  fnOk_c (k := 0) Z.F11 sc11 rfl fun X c => (show VSs X [] [] _ B11 from
  (vss_cons (c.set (i := 4) (by decide +kernel) (by decide) (ve_lst va_nil))
  (vss_cons (c.for (c.r1 (by decide +kernel) Z.z_range (c.cb cd_len (by decide +kernel) Z.z_len (by decide +kernel) (va_cons (ve_p (c.pn (i := 0) (by decide +kernel))) va_nil))) (c.gn (i := 5) (by decide +kernel) (by decide))
  (vss_one (c.for (c.r1 (by decide +kernel) Z.z_range (c.cbp cd_len (by decide +kernel) Z.z_len (by decide +kernel) (vp_ix (c.pn (i := 0) (by decide +kernel)) vp_int (fun _ _ => rfl)))) (c.gn (i := 6) (by decide +kernel) (by decide))
  (vss_one (vs_if (vt_w (vw_an (vt_cmp (od_ne c.hu) rfl (ve_p (c.pn (i := 5) (by decide +kernel))) (ve_p (c.pn (i := 1) (by decide +kernel)))) (vw_an (vt_cmp (od_ne c.hu) rfl (ve_p (c.pn (i := 6) (by decide +kernel))) (ve_p (c.pn (i := 2) (by decide +kernel)))) (vw_an (vt_cmp od_notN rfl (ve_p (vp_ix (vp_ix (c.pn (i := 0) (by decide +kernel)) (c.pn (i := 1) (by decide +kernel)) (fun _ _ => rfl)) (c.pn (i := 6) (by decide +kernel)) (fun _ _ => rfl))) ve_non) (vw_an1 (vt_cmp od_notN rfl (ve_p (vp_ix (vp_ix (c.pn (i := 0) (by decide +kernel)) (c.pn (i := 5) (by decide +kernel)) (fun _ _ => rfl)) (c.pn (i := 2) (by decide +kernel)) (fun _ _ => rfl))) ve_non))))))
  (vss_one (vs_if (vt_cmp od_isN rfl (ve_p (vp_ix (vp_ix (c.pn (i := 0) (by decide +kernel)) (c.pn (i := 5) (by decide +kernel)) (fun _ _ => rfl)) (c.pn (i := 6) (by decide +kernel)) (fun _ _ => rfl))) ve_non)
  (vss_one (vex (c.app (i := 4) (by decide +kernel) (ve_tup (va_cons (ve_p (c.pn (i := 5) (by decide +kernel))) (va_cons (ve_p (c.pn (i := 6) (by decide +kernel))) va_nil))))))
  (vss_cons (c.set (i := 7) (by decide +kernel) (by decide) (ve_bin od_sub (ve_bin od_sub (ve_bin od_add (ve_p (vp_ix (vp_ix (c.pn (i := 0) (by decide +kernel)) (c.pn (i := 1) (by decide +kernel)) (fun _ _ => rfl)) (c.pn (i := 6) (by decide +kernel)) (fun _ _ => rfl))) (ve_p (vp_ix (vp_ix (c.pn (i := 0) (by decide +kernel)) (c.pn (i := 5) (by decide +kernel)) (fun _ _ => rfl)) (c.pn (i := 2) (by decide +kernel)) (fun _ _ => rfl)))) (ve_p (vp_ix (vp_ix (c.pn (i := 0) (by decide +kernel)) (c.pn (i := 1) (by decide +kernel)) (fun _ _ => rfl)) (c.pn (i := 2) (by decide +kernel)) (fun _ _ => rfl)))) (ve_p (vp_ix (vp_ix (c.pn (i := 0) (by decide +kernel)) (c.pn (i := 5) (by decide +kernel)) (fun _ _ => rfl)) (c.pn (i := 6) (by decide +kernel)) (fun _ _ => rfl)))))
  (vss_one (vs_if (vt_w (vw_or (vt_cmp od_lt rfl (ve_p (c.pn (i := 7) (by decide +kernel))) ve_int) (vw_or1 (vt_w (vw_an (vt_cmp (od_eq c.hu) rfl (ve_p (c.pn (i := 7) (by decide +kernel))) ve_int) (vw_an1 (vt_cmp (od_eq c.hu) rfl (ve_p (c.pn (i := 3) (by decide +kernel))) ve_str)))))))
  (vss_one (vex (c.app (i := 4) (by decide +kernel) (ve_tup (va_cons (ve_p (c.pn (i := 5) (by decide +kernel))) (va_cons (ve_p (c.pn (i := 6) (by decide +kernel))) va_nil))))))
  vss_nil)))))
  vss_nil)))))
  (vss_one (vs_ret (c.mv (i := 4) (by decide +kernel)))))))
def B1 : SF :=
  (sSeq (sAsg (vP (gN 1)) (bTup [(bName 5), (bName 6)]))
  (sSeq (sAsg (vP (gN 2)) (bTup [(bName 7), (bName 8)]))
  (sSeq (sIf (tOr' (tVal (vBin pIsN (vP (gIx (gIx (gN 0) (gN 5)) (gN 8))) (vC .non))) (tVal (vBin pIsN (vP (gIx (gIx (gN 0) (gN 7)) (gN 6))) (vC .non))))
  (sRet (vC (.bl false)))
  sNx)
  (sSeq (sIf (tVal (vBin pIsN (vP (gIx (gIx (gN 0) (gN 7)) (gN 8))) (vC .non)))
  (sRet (vC (.bl true)))
  sNx)
  (sSeq (sSet 4 (vBin pSub (vBin pSub (vBin pAdd (vP (gIx (gIx (gN 0) (gN 5)) (gN 8))) (vP (gIx (gIx (gN 0) (gN 7)) (gN 6)))) (vP (gIx (gIx (gN 0) (gN 5)) (gN 6)))) (vP (gIx (gIx (gN 0) (gN 7)) (gN 8)))))
  (sRet (vOr (vBin pLt (vP (gN 4)) (vC (.int 0))) (vAn (vBin pEq (vP (gN 4)) (vC (.int 0))) (vBin pEq (vP (gN 3)) (vC (.str "always")))))))))))
def F1 : Fn := mkFn 4 9 [] B1
theorem ok_1 (Z : TX K mg fA fD) : FnOk Pg w K mg base CX0 1 (fA 1) (fD 1) p1 (spF K [] 4 F1) :=
  fnOk_c (k := 0) Z.F1 sc1 rfl fun X c => (show VSs X [] [] _ B1 from
  (vss_cons (c.asg (ve_p (c.pn (i := 1) (by decide +kernel))) (c.gt (vgs_cons (c.gn (i := 5) (by decide +kernel) (by decide)) (vgs_cons (c.gn (i := 6) (by decide +kernel) (by decide)) vgs_nil))))
  (vss_cons (c.asg (ve_p (c.pn (i := 2) (by decide +kernel))) (c.gt (vgs_cons (c.gn (i := 7) (by decide +kernel) (by decide)) (vgs_cons (c.gn (i := 8) (by decide +kernel) (by decide)) vgs_nil))))
  (vss_cons (vs_if (vt_w (vw_or (vt_cmp od_isN rfl (ve_p (vp_ix (vp_ix (c.pn (i := 0) (by decide +kernel)) (c.pn (i := 5) (by decide +kernel)) (fun _ _ => rfl)) (c.pn (i := 8) (by decide +kernel)) (fun _ _ => rfl))) ve_non) (vw_or1 (vt_cmp od_isN rfl (ve_p (vp_ix (vp_ix (c.pn (i := 0) (by decide +kernel)) (c.pn (i := 7) (by decide +kernel)) (fun _ _ => rfl)) (c.pn (i := 6) (by decide +kernel)) (fun _ _ => rfl))) ve_non))))
  (vss_one (vs_ret ve_bl))
  vss_nil)
  (vss_cons (vs_if (vt_cmp od_isN rfl (ve_p (vp_ix (vp_ix (c.pn (i := 0) (by decide +kernel)) (c.pn (i := 7) (by decide +kernel)) (fun _ _ => rfl)) (c.pn (i := 8) (by decide +kernel)) (fun _ _ => rfl))) ve_non)
  (vss_one (vs_ret ve_bl))
  vss_nil)
  (vss_cons (c.set (i := 4) (by decide +kernel) (by decide) (ve_bin od_sub (ve_bin od_sub (ve_bin od_add (ve_p (vp_ix (vp_ix (c.pn (i := 0) (by decide +kernel)) (c.pn (i := 5) (by decide +kernel)) (fun _ _ => rfl)) (c.pn (i := 8) (by decide +kernel)) (fun _ _ => rfl))) (ve_p (vp_ix (vp_ix (c.pn (i := 0) (by decide +kernel)) (c.pn (i := 7) (by decide +kernel)) (fun _ _ => rfl)) (c.pn (i := 6) (by decide +kernel)) (fun _ _ => rfl)))) (ve_p (vp_ix (vp_ix (c.pn (i := 0) (by decide +kernel)) (c.pn (i := 5) (by decide +kernel)) (fun _ _ => rfl)) (c.pn (i := 6) (by decide +kernel)) (fun _ _ => rfl)))) (ve_p (vp_ix (vp_ix (c.pn (i := 0) (by decide +kernel)) (c.pn (i := 7) (by decide +kernel)) (fun _ _ => rfl)) (c.pn (i := 8) (by decide +kernel)) (fun _ _ => rfl)))))
  (vss_one (vs_ret (ve_or (ve_cmp od_lt rfl (ve_p (c.pn (i := 4) (by decide +kernel))) ve_int) (ve_one (ve_an (ve_cmp (od_eq c.hu) rfl (ve_p (c.pn (i := 4) (by decide +kernel))) ve_int) (ve_one (ve_cmp (od_eq c.hu) rfl (ve_p (c.pn (i := 3) (by decide +kernel))) ve_str)))))))))))))
def L2_0 : SF :=
  (sIf (tAn (tVal (vBin pNe (vP (gN 4)) (vP (gN 1)))) (tAn (tVal (vBin pNe (vP (gN 5)) (vP (gN 2)))) (tVal (vCall F1 [(vP (gN 0)), (vTup [(vP (gN 1)), (vP (gN 2))]), (vTup [(vP (gN 4)), (vP (gN 5))]), (vP (gN 3))]))))
  (sRet (vTup [(vP (gN 4)), (vP (gN 5))]))
  sNx)
def L2_1 : SF :=
  (sFor (itR1 (vPrP pLen (gIx (gN 0) (gC (.int 0))))) (bName 5)
  L2_0)
def B2 : SF :=
  (sSeq (sFor (itR1 (vPrim pLen [(vP (gN 0))])) (bName 4)
  L2_1)
  (sRet (vC .non)))
def F2 : Fn := mkFn 4 6 [] B2
theorem ok_2 (Z : TX K mg fA fD) : FnOk Pg w K mg base CX0 2 (fA 2) (fD 2) p2 (spF K [] 4 F2) :=
  fnOk_c (k := 1) Z.F2 sc2 rfl fun X c => (show VSs X [] [] _ B2 from
  (vss_cons (c.for (c.r1 (by decide +kernel) Z.z_range (c.cb cd_len (by decide +kernel) Z.z_len (by decide +kernel) (va_cons (ve_p (c.pn (i := 0) (by decide +kernel))) va_nil))) (c.gn (i := 4) (by decide +kernel) (by decide))
  (vss_one (c.for (c.r1 (by decide +kernel) Z.z_range (c.cbp cd_len (by decide +kernel) Z.z_len (by decide +kernel) (vp_ix (c.pn (i := 0) (by decide +kernel)) vp_int (fun _ _ => rfl)))) (c.gn (i := 5) (by decide +kernel) (by decide))
  (vss_one (vs_if (vt_w (vw_an (vt_cmp (od_ne c.hu) rfl (ve_p (c.pn (i := 4) (by decide +kernel))) (ve_p (c.pn (i := 1) (by decide +kernel)))) (vw_an (vt_cmp (od_ne c.hu) rfl (ve_p (c.pn (i := 5) (by decide +kernel))) (ve_p (c.pn (i := 2) (by decide +kernel)))) (vw_an1 (vt_val (c.call (ok_1 Z) (by omega) (by decide +kernel) Z.g1 Z.F1.kp Z.b1 (va_cons (ve_p (c.pn (i := 0) (by decide +kernel))) (va_cons (ve_tup (va_cons (ve_p (c.pn (i := 1) (by decide +kernel))) (va_cons (ve_p (c.pn (i := 2) (by decide +kernel))) va_nil))) (va_cons (ve_tup (va_cons (ve_p (c.pn (i := 4) (by decide +kernel))) (va_cons (ve_p (c.pn (i := 5) (by decide +kernel))) va_nil))) (va_cons (ve_p (c.pn (i := 3) (by decide +kernel))) va_nil)))) rfl))))))
  (vss_one (vs_ret (ve_tup (va_cons (ve_p (c.pn (i := 4) (by decide +kernel))) (va_cons (ve_p (c.pn (i := 5) (by decide +kernel))) va_nil)))))
  vss_nil)))))
  (vss_one (vs_ret ve_non))))
def B3 : SF :=
  (sRet (vBin pIsN (vCall F2 [(vP (gN 0)), (vP (gN 1)), (vP (gN 2)), (vC (.str "always"))]) (vC .non)))
def F3 : Fn := mkFn 3 3 [] B3
theorem ok_3 (Z : TX K mg fA fD) : FnOk Pg w K mg base CX0 3 (fA 3) (fD 3) p3 (spF K [] 3 F3) :=
  fnOk_c (k := 2) Z.F3 sc3 rfl fun X c => (show VSs X [] [] _ B3 from
  (vss_one (vs_ret (ve_cmp od_isN rfl (c.call (ok_2 Z) (by omega) (by decide +kernel) Z.g2 Z.F2.kp Z.b2 (va_cons (ve_p (c.pn (i := 0) (by decide +kernel))) (va_cons (ve_p (c.pn (i := 1) (by decide +kernel))) (va_cons (ve_p (c.pn (i := 2) (by decide +kernel))) (va_cons ve_str va_nil)))) rfl) ve_non))))
def B4 : SF :=
  (sRet (vBin pIsN (vCall F2 [(vP (gN 0)), (vP (gN 1)), (vP (gN 2)), (vC (.str "sometimes"))]) (vC .non)))
def F4 : Fn := mkFn 3 3 [] B4
theorem ok_4 (Z : TX K mg fA fD) : FnOk Pg w K mg base CX0 3 (fA 4) (fD 4) p4 (spF K [] 3 F4) :=
  fnOk_c (k := 2) Z.F4 sc4 rfl fun X c => (show VSs X [] [] _ B4 from
  (vss_one (vs_ret (ve_cmp od_isN rfl (c.call (ok_2 Z) (by omega) (by decide +kernel) Z.g2 Z.F2.kp Z.b2 (va_cons (ve_p (c.pn (i := 0) (by decide +kernel))) (va_cons (ve_p (c.pn (i := 1) (by decide +kernel))) (va_cons (ve_p (c.pn (i := 2) (by decide +kernel))) (va_cons ve_str va_nil)))) rfl) ve_non))))
def B10 : SF :=
  (sRet (vAn (vUn (pIsi "int") (vP (gN 0))) (vNo (vUn (pIsi "bool") (vP (gN 0))))))
def F10 : Fn := mkFn 1 1 [] B10
theorem ok_10 (Z : TX K mg fA fD) : FnOk Pg w K mg base CX0 1 (fA 10) (fD 10) p10 (spF K [] 1 F10) :=
  fnOk_c (k := 0) Z.F10 sc10 rfl fun X c => (show VSs X [] [] _ B10 from
  (vss_one (vs_ret (ve_an (c.isi (by decide +kernel) Z.z_isinstance (by decide +kernel) Z.z_int (by decide +kernel) isi_int (ve_p (c.pn (i := 0) (by decide +kernel)))) (ve_one (ve_no (c.isi (by decide +kernel) Z.z_isinstance (by decide +kernel) Z.z_bool (by decide +kernel) isi_bool (ve_p (c.pn (i := 0) (by decide +kernel))))))))))
def L13_0 : SF :=
  (sSeq (sSet 9 (vCall F11 [(vP (gN 4)), (vP (gN 3)), (vP (gN 6)), (vP (gN 8))]))
  (sSeq (sIf (tVal (vBin pEq (vP (gN 8)) (vC (.str "always"))))
  (sSet 11 (vIf (tVal (vP (gN 7))) (vCallD F3 [2, 1, 0] [(vP (gN 6)), (vP (gN 3)), (vP (gN 4))]) (vCall F3 [(vP (gN 4)), (vP (gN 3)), (vP (gN 6))])))
  (sSet 11 (vIf (tVal (vP (gN 7))) (vCallD F4 [2, 1, 0] [(vP (gN 6)), (vP (gN 3)), (vP (gN 4))]) (vCall F4 [(vP (gN 4)), (vP (gN 3)), (vP (gN 6))]))))
  (sSeq (sIf (tOr' (tNo (tVal (vUn (pIsi "bool") (vP (gN 11))))) (tVal (vBin pNe (vP (gN 11)) (vBin pEq (vPrim pLen [(vBw 9)]) (vC (.int 0))))))
  (sRet (vC (.bl false)))
  sNx)
  (sSeq (sSet 10 (vIf (tVal (vP (gN 7))) (vCallD F2 [3, 2, 1, 0] [(vP (gN 8)), (vP (gN 6)), (vP (gN 3)), (vP (gN 4))]) (vCall F2 [(vP (gN 4)), (vP (gN 3)), (vP (gN 6)), (vP (gN 8))])))
  (sIf (tVal (vBin pEq (vPrim pLen [(vBw 9)]) (vC (.int 0))))
  (sIf (tVal (vBin pNotN (vP (gN 10)) (vC .non)))
  (sRet (vC (.bl false)))
  sNx)
  (sIf (tOr' (tNo (tVal (vUn (pIsi "tuple") (vP (gN 10))))) (tOr' (tVal (vBin pNe (vP (gN 10)) (vP (gIx (gN 9) (gC (.int 0)))))) (tOr' (tNo (tVal (vCall F10 [(vP (gIx (gN 10) (gC (.int 0))))]))) (tNo (tVal (vCall F10 [(vP (gIx (gN 10) (gC (.int 1))))]))))))
  (sRet (vC (.bl false)))
  sNx))))))
def L13_1 : SF :=
  (sIf (tVal (vBin pNotN (vP (gIx (gIx (gN 4) (gN 3)) (gN 6))) (vC .non)))
  (sSeq (sSet 7 (vBin pEq (vCall F7 [(vBw 1), (vC (.int 2))]) (vC (.int 0))))
  (sFor (itL (vFz (vLst [(vC (.str "always")), (vC (.str "sometimes"))]))) (bName 8)
  L13_0))
  sNx)
def L13_2 : SF :=
  (sFor (itR1 (vPrP pLen (gIx (gN 4) (gC (.int 0))))) (bName 6)
  L13_1)
def L13_3 : SF :=
  (sSeq (sAsg (vCall F12 [(vBw 1), (vCall F9 [(vBw 1), (vBin pEq (vCall F7 [(vBw 1), (vC (.int 2))]) (vC (.int 0)))])]) (bTup [(bName 4), (bName 5)]))
  (sFor (itR1 (vPrim pLen [(vP (gN 4))])) (bName 3)
  L13_2))
def B13 : SF :=
  (sSeq (sSet 1 (vCall F6 [(vP (gN 0))]))
  (sSeq (sFor (itR1 (vC (.int 2))) (bName 2)
  L13_3)
  (sRet (vC (.bl true)))))
def F13 : Fn := mkFn 1 12 [] B13
theorem ok_13 (Z : TX K mg fA fD) : FnOk Pg w K mg base CX0 4 (fA 13) (fD 13) p13 (spF K [] 1 F13) :=
  fnOk_c (k := 3) Z.F13 sc13 rfl fun X c => (show VSs X [] [] _ B13 from
  (vss_cons (c.set (i := 1) (by decide +kernel) (by decide) (c.call (ok_6 Z) (by omega) (by decide +kernel) Z.g6 Z.F6.kp Z.b6 (va_cons (ve_p (c.pn (i := 0) (by decide +kernel))) va_nil) rfl))
  (vss_cons (c.for (c.r1 (by decide +kernel) Z.z_range ve_int) (c.gn (i := 2) (by decide +kernel) (by decide))
  (vss_cons (c.asg (c.call (ok_12 Z) (by omega) (by decide +kernel) Z.g12 Z.F12.kp Z.b12 (va_cons (c.bw (i := 1) (by decide +kernel)) (va_cons (c.call (ok_9 Z) (by omega) (by decide +kernel) Z.g9 Z.F9.kp Z.b9 (va_cons (c.bw (i := 1) (by decide +kernel)) (va_cons (ve_cmp (od_eq c.hu) rfl (c.call (ok_7 Z) (by omega) (by decide +kernel) Z.g7 Z.F7.kp Z.b7 (va_cons (c.bw (i := 1) (by decide +kernel)) (va_cons ve_int va_nil)) rfl) ve_int) va_nil)) rfl) va_nil)) rfl) (c.gt (vgs_cons (c.gn (i := 4) (by decide +kernel) (by decide)) (vgs_cons (c.gn (i := 5) (by decide +kernel) (by decide)) vgs_nil))))
  (vss_one (c.for (c.r1 (by decide +kernel) Z.z_range (c.cb cd_len (by decide +kernel) Z.z_len (by decide +kernel) (va_cons (ve_p (c.pn (i := 4) (by decide +kernel))) va_nil))) (c.gn (i := 3) (by decide +kernel) (by decide))
  (vss_one (c.for (c.r1 (by decide +kernel) Z.z_range (c.cbp cd_len (by decide +kernel) Z.z_len (by decide +kernel) (vp_ix (c.pn (i := 4) (by decide +kernel)) vp_int (fun _ _ => rfl)))) (c.gn (i := 6) (by decide +kernel) (by decide))
  (vss_one (vs_if (vt_cmp od_notN rfl (ve_p (vp_ix (vp_ix (c.pn (i := 4) (by decide +kernel)) (c.pn (i := 3) (by decide +kernel)) (fun _ _ => rfl)) (c.pn (i := 6) (by decide +kernel)) (fun _ _ => rfl))) ve_non)
  (vss_cons (c.set (i := 7) (by decide +kernel) (by decide) (ve_cmp (od_eq c.hu) rfl (c.call (ok_7 Z) (by omega) (by decide +kernel) Z.g7 Z.F7.kp Z.b7 (va_cons (c.bw (i := 1) (by decide +kernel)) (va_cons ve_int va_nil)) rfl) ve_int))
  (vss_one (c.for (vi_list (ve_fz (ve_lst (va_cons ve_str (va_cons ve_str va_nil))))) (c.gn (i := 8) (by decide +kernel) (by decide))
  (vss_cons (c.set (i := 9) (by decide +kernel) (by decide) (c.call (ok_11 Z) (by omega) (by decide +kernel) Z.g11 Z.F11.kp Z.b11 (va_cons (ve_p (c.pn (i := 4) (by decide +kernel))) (va_cons (ve_p (c.pn (i := 3) (by decide +kernel))) (va_cons (ve_p (c.pn (i := 6) (by decide +kernel))) (va_cons (ve_p (c.pn (i := 8) (by decide +kernel))) va_nil)))) rfl))
  (vss_cons (vs_if (vt_cmp (od_eq c.hu) rfl (ve_p (c.pn (i := 8) (by decide +kernel))) ve_str)
  (vss_one (c.set (i := 11) (by decide +kernel) (by decide) (ve_if (vt_val (ve_p (c.pn (i := 7) (by decide +kernel)))) (c.callK0 (ks := ["j", "i", "table"]) (idx := [2, 1, 0]) (ok_3 Z) (by omega) (by decide +kernel) Z.g3 Z.F3.kp Z.k3_j_i_table (vk_cons (ve_p (c.pn (i := 6) (by decide +kernel))) (vk_cons (ve_p (c.pn (i := 3) (by decide +kernel))) (vk_cons (ve_p (c.pn (i := 4) (by decide +kernel))) vk_nil))) (fun l h => match l, h with | [v0, v1, v2], _ => rfl) rfl) (c.call (ok_3 Z) (by omega) (by decide +kernel) Z.g3 Z.F3.kp Z.b3 (va_cons (ve_p (c.pn (i := 4) (by decide +kernel))) (va_cons (ve_p (c.pn (i := 3) (by decide +kernel))) (va_cons (ve_p (c.pn (i := 6) (by decide +kernel))) va_nil))) rfl))))
  (vss_one (c.set (i := 11) (by decide +kernel) (by decide) (ve_if (vt_val (ve_p (c.pn (i := 7) (by decide +kernel)))) (c.callK0 (ks := ["j", "i", "table"]) (idx := [2, 1, 0]) (ok_4 Z) (by omega) (by decide +kernel) Z.g4 Z.F4.kp Z.k4_j_i_table (vk_cons (ve_p (c.pn (i := 6) (by decide +kernel))) (vk_cons (ve_p (c.pn (i := 3) (by decide +kernel))) (vk_cons (ve_p (c.pn (i := 4) (by decide +kernel))) vk_nil))) (fun l h => match l, h with | [v0, v1, v2], _ => rfl) rfl) (c.call (ok_4 Z) (by omega) (by decide +kernel) Z.g4 Z.F4.kp Z.b4 (va_cons (ve_p (c.pn (i := 4) (by decide +kernel))) (va_cons (ve_p (c.pn (i := 3) (by decide +kernel))) (va_cons (ve_p (c.pn (i := 6) (by decide +kernel))) va_nil))) rfl)))))
  (vss_cons (vs_if (vt_w (vw_or (vt_no (vt_val (c.isi (by decide +kernel) Z.z_isinstance (by decide +kernel) Z.z_bool (by decide +kernel) isi_bool (ve_p (c.pn (i := 11) (by decide +kernel)))))) (vw_or1 (vt_cmp (od_ne c.hu) rfl (ve_p (c.pn (i := 11) (by decide +kernel))) (ve_cmp (od_eq c.hu) rfl (c.cb cd_len (by decide +kernel) Z.z_len (by decide +kernel) (va_cons (c.bw (i := 9) (by decide +kernel)) va_nil)) ve_int)))))
  (vss_one (vs_ret ve_bl))
  vss_nil)
  (vss_cons (c.set (i := 10) (by decide +kernel) (by decide) (ve_if (vt_val (ve_p (c.pn (i := 7) (by decide +kernel)))) (c.callK0 (ks := ["word", "j", "i", "table"]) (idx := [3, 2, 1, 0]) (ok_2 Z) (by omega) (by decide +kernel) Z.g2 Z.F2.kp Z.k2_word_j_i_table (vk_cons (ve_p (c.pn (i := 8) (by decide +kernel))) (vk_cons (ve_p (c.pn (i := 6) (by decide +kernel))) (vk_cons (ve_p (c.pn (i := 3) (by decide +kernel))) (vk_cons (ve_p (c.pn (i := 4) (by decide +kernel))) vk_nil)))) (fun l h => match l, h with | [v0, v1, v2, v3], _ => rfl) rfl) (c.call (ok_2 Z) (by omega) (by decide +kernel) Z.g2 Z.F2.kp Z.b2 (va_cons (ve_p (c.pn (i := 4) (by decide +kernel))) (va_cons (ve_p (c.pn (i := 3) (by decide +kernel))) (va_cons (ve_p (c.pn (i := 6) (by decide +kernel))) (va_cons (ve_p (c.pn (i := 8) (by decide +kernel))) va_nil)))) rfl)))
  (vss_one (vs_if (vt_cmp (od_eq c.hu) rfl (c.cb cd_len (by decide +kernel) Z.z_len (by decide +kernel) (va_cons (c.bw (i := 9) (by decide +kernel)) va_nil)) ve_int)
  (vss_one (vs_if (vt_cmp od_notN rfl (ve_p (c.pn (i := 10) (by decide +kernel))) ve_non)
  (vss_one (vs_ret ve_bl))
  vss_nil))
  (vss_one (vs_if (vt_w (vw_or (vt_no (vt_val (c.isi (by decide +kernel) Z.z_isinstance (by decide +kernel) Z.z_tuple (by decide +kernel) isi_tuple (ve_p (c.pn (i := 10) (by decide +kernel)))))) (vw_or (vt_cmp (od_ne c.hu) rfl (ve_p (c.pn (i := 10) (by decide +kernel))) (ve_p (vp_ix (c.pn (i := 9) (by decide +kernel)) vp_int (fun _ _ => rfl)))) (vw_or (vt_no (vt_val (c.call (ok_10 Z) (by omega) (by decide +kernel) Z.g10 Z.F10.kp Z.b10 (va_cons (ve_p (vp_ix (c.pn (i := 10) (by decide +kernel)) vp_int (fun _ _ => rfl))) va_nil) rfl))) (vw_or1 (vt_no (vt_val (c.call (ok_10 Z) (by omega) (by decide +kernel) Z.g10 Z.F10.kp Z.b10 (va_cons (ve_p (vp_ix (c.pn (i := 10) (by decide +kernel)) vp_int (fun _ _ => rfl))) va_nil) rfl))))))))
  (vss_one (vs_ret ve_bl))
  vss_nil)))))))))))
  vss_nil))))))))
  (vss_one (vs_ret ve_bl)))))
end
end
end K32


set_option Elab.async false
set_option maxRecDepth 100000
set_option linter.all false
namespace K32
noncomputable section
open PySem PySem.Spec PyProof.Rows L2 VS
/-! the flow -/
structure Reel where
  a : Int
  b : Int
  p : Nat
  c : Int
  l : List Int
def Reel.o (r : Reel) : O := .own [.fz (.int r.a), .fz (.int r.b), .fz (.int r.p), .fz (.int r.c), .fz (.lst (r.l.map D.int))]
theorem mod_nat (a : Int) {m : Int} (h : 0 < m) : ∃ k : Nat, a % m = (k : Int) ∧ (k : Int) < m :=
  ⟨(a % m).toNat, by have := Int.emod_nonneg a (show m ≠ 0 by omega); omega, by have := Int.emod_nonneg a (show m ≠ 0 by omega); have := Int.emod_lt_of_pos a h; omega⟩
theorem next_ex (r : Reel) (m : Int) : 0 < m ∧ m < 2 ^ 62 → ∃ p : Int × Reel, 0 ≤ p.1 ∧ p.1 < m ∧ F7 [r.o, .fz (.int m)] = some (.fz (.int p.1), [some p.2.o, none]) := by
  intro ⟨hm, hm2⟩
  have hm3 : m < 4611686018427387904 := by omega
  obtain ⟨a, b, p, c, l⟩ := r
  have h1 : ∀ x : Int, 0 ≤ x % m := fun x => Int.emod_nonneg x (by omega)
  have h2 : ∀ x : Int, x % m < m := fun x => Int.emod_lt_of_pos x hm
  by_cases hb : 0 < b
  · have hb0 : ¬ b = 0 := by omega
    by_cases ha : 0 < a / m
    · refine ⟨(a % m, ⟨a / m, b - 1, p, c + 1, l⟩), h1 a, h2 a, ?_⟩
      simp [F7, B7, Reel.o, atI, ixN, hb, hb0, hm, hm3, ha]
      rfl
    · refine ⟨(a % m, ⟨a / m, 0, p, c + 1, l⟩), h1 a, h2 a, ?_⟩
      simp [F7, B7, Reel.o, atI, ixN, hb, hb0, hm, hm3, ha]
      rfl
  · have fin : ∀ cell : Int, ∃ v : Int, (((cell * 48271 + (c + 1) * 69621) % 2147483647 * ((cell * 48271 + (c + 1) * 69621) % 2147483647) + (c + 1) * 40692) % 2147483399 * (((cell * 48271 + (c + 1) * 69621) % 2147483647 * ((cell * 48271 + (c + 1) * 69621) % 2147483647) + (c + 1) * 40692) % 2147483399) + (cell * 48271 + (c + 1) * 69621) % 2147483647) % 2147483647 % m = v ∧ 0 ≤ v ∧ v < m := fun cell => ⟨_, rfl, h1 _, h2 _⟩
    have s1 : ∀ x : Int, s64 (x % 2147483647) = true := fun x => s64_of (by omega) (by omega)
    have s2 : ∀ x : Int, s64 (x % 2147483399) = true := fun x => s64_of (by omega) (by omega)
    by_cases ht : b = 0 ∧ ∃ h : p < l.length, 1000000000000000000 ≤ l[p]
    · obtain ⟨rfl, hp, hx⟩ := ht
      by_cases ha : 0 < l[p] / m
      · refine ⟨(l[p] % m, ⟨l[p] / m, 59, p + 1, c + 1, l⟩), h1 _, h2 _, ?_⟩
        simp [F7, B7, Reel.o, atI, ixN, hp, hx, hm, hm3, ha]
        rfl
      · refine ⟨(l[p] % m, ⟨l[p] / m, 0, p + 1, c + 1, l⟩), h1 _, h2 _, ?_⟩
        simp [F7, B7, Reel.o, atI, ixN, hp, hx, hm, hm3, ha]
        rfl
    · by_cases hl : 0 < l.length
      · obtain ⟨q, hq, hq2⟩ := mod_nat p (m := (l.length : Int)) (by omega)
        have hq3 : q < l.length := by omega
        obtain ⟨v, hv, v1, v2⟩ := fin l[q]
        refine ⟨(v, ⟨a, b, p + 1, c + 1, l⟩), v1, v2, ?_⟩
        by_cases hb0 : b = 0
        · by_cases hp : p < l.length
          · have hx : ¬ 1000000000000000000 ≤ l[p] := fun hx => ht ⟨hb0, hp, hx⟩
            simp [F7, B7, Reel.o, atI, ixN, hb0, hp, hx, hm, hm3, s1, s2, hl, hq, hq3]
            exact ⟨by simpa using hv, rfl⟩
          · simp [F7, B7, Reel.o, atI, ixN, hb0, hp, hm, hm3, s1, s2, hl, hq, hq3]
            exact ⟨by simpa using hv, rfl⟩
        · simp [F7, B7, Reel.o, atI, ixN, hb0, hb, hm, hm3, s1, s2, hl, hq, hq3]
          exact ⟨by simpa using hv, rfl⟩
      · obtain ⟨v, hv, v1, v2⟩ := fin 7
        have hp : ¬ p < l.length := by omega
        refine ⟨(v, ⟨a, b, p, c + 1, l⟩), v1, v2, ?_⟩
        by_cases hb0 : b = 0
        · simp [F7, B7, Reel.o, atI, ixN, hb0, hp, hm, hm3, s1, s2, hl]
          exact ⟨by simpa using hv, rfl⟩
        · simp [F7, B7, Reel.o, atI, ixN, hb0, hb, hm, hm3, s1, s2, hl]
          exact ⟨by simpa using hv, rfl⟩
noncomputable def nx (r : Reel) (m : Int) : Int × Reel := if h : 0 < m ∧ m < 2 ^ 62 then (next_ex r m h).choose else (0, r)
theorem nx_lo (r : Reel) (m : Int) : 0 ≤ (nx r m).1 := by
  rw [nx]; split
  · next h => exact (next_ex r m h).choose_spec.1
  · exact Int.le_refl 0
theorem nx_hi (r : Reel) {m : Int} (h : 0 < m) (h2 : m < 2 ^ 62) : (nx r m).1 < m := by
  rw [nx, dif_pos ⟨h, h2⟩]; exact (next_ex r m ⟨h, h2⟩).choose_spec.2.1
theorem nx_run (r : Reel) (m : Int) (h : 0 < m) (h2 : m < 2 ^ 62) : F7 [r.o, .fz (.int m)] = some (.fz (.int (nx r m).1), [some (nx r m).2.o, none]) := by
  rw [nx, dif_pos ⟨h, h2⟩]; exact (next_ex r m ⟨h, h2⟩).choose_spec.2.2
/-! what is drawn -/
theorem nx_nat (r : Reel) {m : Int} (h : 0 < m) (h2 : m < 2 ^ 62) : ∃ k : Nat, (nx r m).1 = (k : Int) ∧ (k : Int) < m := by
  have h1 := nx_lo r m
  have h3 := nx_hi r h h2
  exact ⟨(nx r m).1.toNat, by omega, by omega⟩
noncomputable def one (r : Reel) (ds : List D) : D × Reel := (ds.getD (nx r ds.length).1.toNat .non, (nx r ds.length).2)
theorem one_mem (r : Reel) (ds : List D) (h : 0 < ds.length) (h2 : ds.length ≤ 100000) : (one r ds).1 ∈ ds := by
  obtain ⟨k, h3, h4⟩ := nx_nat r (m := ds.length) (by omega) (by omega)
  have h5 : k < ds.length := by omega
  simp [one, h3, h5]
theorem one_run (r : Reel) (ds : List D) (h : 0 < ds.length) (h2 : ds.length ≤ 100000) : F8 [r.o, .fz (.lst ds)] = some (.fz (one r ds).1, [some (one r ds).2.o, none]) := by
  obtain ⟨k, h3, h4⟩ := nx_nat r (m := ds.length) (by omega) (by omega)
  have h5 : k < ds.length := by omega
  have h6 := nx_run r (ds.length : Int) (by omega) (by omega)
  simp [F8, B8, h6, h3, atI_ofNat, h5, one]
  rfl
theorem reel_ex (ns : List Int) (h : ns.length ≤ 63) : ∃ r : Reel, F6 [.fz (.scr ns)] = some (r.o, [none]) := by
  have h1 : lcRun [1] (bName 1) tYes' E6_0 (ns.map D.int) [some (.fz (.scr ns)), none] = some ((ns.map fun n => O.fz (.int (if n < 0 then -n else n))), [some (.fz (.scr ns)), none]) := by
    refine lc_all D.int _ fun n _ => ⟨_, rfl, by simp [E6_0], by simp⟩
  have h2 : room ns.length = true := room_of (by omega)
  have h3 : cutD ns none (some 63) = ns := by
    have := cut_to ns 63
    rw [List.take_of_length_le h] at this
    exact this
  refine ⟨⟨0, 0, 0, 0, ns.map fun n => if n < 0 then -n else n⟩, ?_⟩
  have h4 : (ns.map fun n => D.int (if n < 0 then -n else n)) = ns.map (D.int ∘ fun n => if n < 0 then -n else n) := rfl
  simp [F6, B6, h3, h2, h1, Reel.o, h4]
end
end K32


set_option Elab.async false
set_option maxRecDepth 100000
set_option linter.all false
namespace K32
noncomputable section
open PySem PySem.Spec PyProof.Rows L2 VS
/-- the way (k, l) bars (i, j) -/
def barsP (t : List (List (Option Int))) (i j k l : Nat) (al : Bool) : Bool := match tget t i l, tget t k j, tget t k l, tget t i j with
  | some a, some b, none, _ => true
  | some a, some b, some d, some c => decide (a + b - c - d < 0) || (decide (a + b - c - d = 0) && al)
  | _, _, _, _ => false
section
variable {m n : Nat} {t : List (List (Option Int))} {i j k l : Nat} {w : Str}
theorem bars1 (h : Tab m n t) (hi : i < m) (hj : j < n) (hk : k < m) (hl : l < n) {c : Int} (hc : tget t i j = some c) :
    F1 [.fz (tabD t), .fz (.tup [.int i, .int j]), .fz (.tup [.int k, .int l]), .fz (.str w)] = some (.fz (.bl (barsP t i j k l (decide (w = "always")))), [none, none, none, none]) := by
  have c1 : ∀ {ε : Env'} {a b c : Pl}, a ε = some (.fz (tabD t)) → b ε = some (.fz (.int i)) → c ε = some (.fz (.int j)) → gIx (gIx a b) c ε = some (.fz (cellD (tget t i j))) := fun ha hb hc => gIx_cell h hi hj ha hb hc
  have c2 : ∀ {ε : Env'} {a b c : Pl}, a ε = some (.fz (tabD t)) → b ε = some (.fz (.int i)) → c ε = some (.fz (.int l)) → gIx (gIx a b) c ε = some (.fz (cellD (tget t i l))) := fun ha hb hc => gIx_cell h hi hl ha hb hc
  have c3 : ∀ {ε : Env'} {a b c : Pl}, a ε = some (.fz (tabD t)) → b ε = some (.fz (.int k)) → c ε = some (.fz (.int j)) → gIx (gIx a b) c ε = some (.fz (cellD (tget t k j))) := fun ha hb hc => gIx_cell h hk hj ha hb hc
  have c4 : ∀ {ε : Env'} {a b c : Pl}, a ε = some (.fz (tabD t)) → b ε = some (.fz (.int k)) → c ε = some (.fz (.int l)) → gIx (gIx a b) c ε = some (.fz (cellD (tget t k l))) := fun ha hb hc => gIx_cell h hk hl ha hb hc
  unfold barsP
  cases e1 : tget t i l with
  | none => simp [-gIx, F1, B1, c1, c2, c3, c4, hc, e1]; rfl
  | some a => cases e2 : tget t k j with
    | none => simp [-gIx, F1, B1, c1, c2, c3, c4, hc, e1, e2]; rfl
    | some b => cases e3 : tget t k l with
      | none => simp [-gIx, F1, B1, c1, c2, c3, c4, hc, e1, e2, e3]; rfl
      | some d =>
        by_cases q1 : a + b - c - d < 0
        · simp [-gIx, F1, B1, c1, c2, c3, c4, hc, e1, e2, e3, q1]; rfl
        · by_cases q2 : a + b - c - d = 0
          · simp [-gIx, F1, B1, c1, c2, c3, c4, hc, e1, e2, e3, q1, q2]; rfl
          · simp [-gIx, F1, B1, c1, c2, c3, c4, hc, e1, e2, e3, q1, q2]; rfl
/-- what is found at (k, l) -/
def barO (t : List (List (Option Int))) (i j : Nat) (al : Bool) (k l : Nat) : Option O := if k ≠ i ∧ l ≠ j ∧ barsP t i j k l al = true then some (.fz (.tup [.int k, .int l])) else none
def fourO (t : List (List (Option Int))) (m n i j : Nat) (al : Bool) : Option O := (List.range m).findSome? fun k => (List.range n).findSome? (barO t i j al k)
def barsO (t : List (List (Option Int))) (m n i j : Nat) (al : Bool) : List O := (List.range m).flatMap fun k => (List.range n).filterMap (barO t i j al k)
theorem bars_head {al : Bool} : (barsO t m n i j al).head? = fourO t m n i j al := by
  simp only [barsO, fourO, List.head?_flatMap, List.head?_filterMap]
abbrev ev2 (t : List (List (Option Int))) (i j : Nat) (w : Str) (x4 x5 : Option O) : Env' := [some (.fz (tabD t)), some (.fz (.int i)), some (.fz (.int j)), some (.fz (.str w)), x4, x5]
theorem four_step (h : Tab m n t) (hi : i < m) (hj : j < n) (hk : k < m) (hl : l < n) {c : Int} (hc : tget t i j = some c) :
    L2_0 (ev2 t i j w (some (.fz (.int k))) (some (.fz (.int l)))) = some (flO (barO t i j (decide (w = "always")) k l) (ev2 t i j w (some (.fz (.int k))) (some (.fz (.int l))))) := by
  have hb := bars1 (w := w) h hi hj hk hl hc
  unfold barO
  by_cases h1 : k = i
  · simp [L2_0, h1]
  · have h1' : ¬(k : Int) = i := by omega
    by_cases h2 : l = j
    · simp [L2_0, h1, h1', h2]
    · cases h3 : barsP t i j k l (decide (w = "always")) with
      | false => rw [h3] at hb; have h2' : ¬(l : Int) = j := by omega
                 simp [L2_0, h1, h1', h2, h2', hb]
      | true => rw [h3] at hb; have h2' : ¬(l : Int) = j := by omega
                simp [L2_0, h1, h1', h2, h2', hb]
theorem four_in (h : Tab m n t) (hi : i < m) (hj : j < n) (hk : k < m) (hn : n ≤ 100) {c : Int} (hc : tget t i j = some c) (x5 : Option O) :
    ∃ y5, L2_1 (ev2 t i j w (some (.fz (.int k))) x5) = some (flO ((List.range n).findSome? (barO t i j (decide (w = "always")) k)) (ev2 t i j w (some (.fz (.int k))) y5)) := by
  obtain ⟨ε', h1, y5, rfl⟩ := for_find (b := bName 5) (body := L2_0) (fun l : Nat => D.int l) (fun ε => ∃ y5, ε = ev2 t i j w (some (.fz (.int k))) y5) (barO t i j (decide (w = "always")) k) (List.range n)
    (fun l hl ε hε => by
      obtain ⟨y5, rfl⟩ := hε
      exact ⟨_, _, rfl, four_step h hi hj hk (List.mem_range.1 hl) hc, _, rfl⟩) _ ⟨x5, rfl⟩
  have h2 : vPrP pLen (gIx (gN 0) (gC (.int 0))) (ev2 t i j w (some (.fz (.int k))) x5) = some (.o (.fz (.int n)), ev2 t i j w (some (.fz (.int k))) x5) := len_row h (by omega) rfl
  have h3 : small (n : Int) = true := small_of (by omega) (by omega)
  refine ⟨y5, ?_⟩
  rw [L2_1, sFor, itR1, h2]
  simp only [h3, if_true, Int.toNat_natCast, rng0, h1]
theorem four_ok (h : Tab m n t) (hm : m ≤ 100) (hn : n ≤ 100) (hi : i < m) (hj : j < n) {c : Int} (hc : tget t i j = some c) :
    F2 [.fz (tabD t), .fz (.int i), .fz (.int j), .fz (.str w)] = some ((fourO t m n i j (decide (w = "always"))).getD (.fz .non), [none, none, none, none]) := by
  obtain ⟨ε', h1, y4, y5, rfl⟩ := for_find (b := bName 4) (body := L2_1) (fun k : Nat => D.int k) (fun ε => ∃ y4 y5, ε = ev2 t i j w y4 y5) (fun k => (List.range n).findSome? (barO t i j (decide (w = "always")) k)) (List.range m)
    (fun k hk ε hε => by
      obtain ⟨y4, y5, rfl⟩ := hε
      obtain ⟨z5, h2⟩ := four_in (w := w) h hi hj (List.mem_range.1 hk) hn hc y5
      exact ⟨_, _, rfl, h2, _, _, rfl⟩) _ ⟨none, none, rfl⟩
  have h2 : vPrim pLen [vP (gN 0)] (ev2 t i j w none none) = some (.o (.fz (.int m)), ev2 t i j w none none) := by simp [-pLen, len_tab h]
  have h3 : small (m : Int) = true := small_of (by omega) (by omega)
  have h4 : sFor (itR1 (vPrim pLen [vP (gN 0)])) (bName 4) L2_1 (ev2 t i j w none none) = some (flO (fourO t m n i j (decide (w = "always"))) (ev2 t i j w y4 y5)) := by
    rw [sFor, itR1, h2]
    simp only [h3, if_true, Int.toNat_natCast, rng0, h1, fourO]
  cases h5 : fourO t m n i j (decide (w = "always")) with
  | none =>
    rw [h5] at h4
    simp only [ev2] at h4
    simp [-sFor, -itR1, F2, B2, h4]
    rfl
  | some o =>
    rw [h5] at h4
    simp only [ev2] at h4
    simp [-sFor, -itR1, F2, B2, h4]
    rfl
abbrev ev11 (t : List (List (Option Int))) (i j : Nat) (w : Str) (os : List O) (x5 x6 x7 : Option O) : Env' := [some (.fz (tabD t)), some (.fz (.int i)), some (.fz (.int j)), some (.fz (.str w)), some (.own os), x5, x6, x7]
theorem bar_step (h : Tab m n t) (hi : i < m) (hj : j < n) (hk : k < m) (hl : l < n) {c : Int} (hc : tget t i j = some c) {os : List O} (ho : os.length ≤ 10000) (x7 : Option O) :
    ∃ y7, L11_0 (ev11 t i j w os (some (.fz (.int k))) (some (.fz (.int l))) x7) = some (.nx, ev11 t i j w (os ++ (barO t i j (decide (w = "always")) k l).toList) (some (.fz (.int k))) (some (.fz (.int l))) y7) := by
  have c1 : ∀ {ε : Env'} {a b c : Pl}, a ε = some (.fz (tabD t)) → b ε = some (.fz (.int i)) → c ε = some (.fz (.int j)) → gIx (gIx a b) c ε = some (.fz (cellD (tget t i j))) := fun ha hb hc => gIx_cell h hi hj ha hb hc
  have c2 : ∀ {ε : Env'} {a b c : Pl}, a ε = some (.fz (tabD t)) → b ε = some (.fz (.int i)) → c ε = some (.fz (.int l)) → gIx (gIx a b) c ε = some (.fz (cellD (tget t i l))) := fun ha hb hc => gIx_cell h hi hl ha hb hc
  have c3 : ∀ {ε : Env'} {a b c : Pl}, a ε = some (.fz (tabD t)) → b ε = some (.fz (.int k)) → c ε = some (.fz (.int j)) → gIx (gIx a b) c ε = some (.fz (cellD (tget t k j))) := fun ha hb hc => gIx_cell h hk hj ha hb hc
  have c4 : ∀ {ε : Env'} {a b c : Pl}, a ε = some (.fz (tabD t)) → b ε = some (.fz (.int k)) → c ε = some (.fz (.int l)) → gIx (gIx a b) c ε = some (.fz (cellD (tget t k l))) := fun ha hb hc => gIx_cell h hk hl ha hb hc
  have hr : room os.length = true := room_of (by omega)
  unfold barO barsP
  by_cases h1 : k = i
  · exact ⟨x7, by simp [L11_0, h1]⟩
  · have h1' : ¬(k : Int) = i := by omega
    by_cases h2 : l = j
    · exact ⟨x7, by simp [L11_0, h1, h1', h2]⟩
    · have h2' : ¬(l : Int) = j := by omega
      cases e1 : tget t i l with
      | none => exact ⟨x7, by simp [-gIx, L11_0, h1, h1', h2, h2', c1, c2, c3, c4, e1, hc]⟩
      | some a => cases e2 : tget t k j with
        | none => exact ⟨x7, by simp [-gIx, L11_0, h1, h1', h2, h2', c1, c2, c3, c4, e1, e2, hc]⟩
        | some b => cases e3 : tget t k l with
          | none => exact ⟨x7, by simp [-gIx, L11_0, h1, h1', h2, h2', c1, c2, c3, c4, e1, e2, e3, hc, hr]⟩
          | some d =>
            refine ⟨some (.fz (.int (a + b - c - d))), ?_⟩
            by_cases q1 : a + b - c - d < 0
            · simp [-gIx, L11_0, h1, h1', h2, h2', c1, c2, c3, c4, e1, e2, e3, hc, hr, q1]
            · by_cases q2 : a + b - c - d = 0
              · by_cases q3 : w = "always"
                · simp [-gIx, L11_0, h1, h1', h2, h2', c1, c2, c3, c4, e1, e2, e3, hc, hr, q1, q2, q3]
                · simp [-gIx, L11_0, h1, h1', h2, h2', c1, c2, c3, c4, e1, e2, e3, hc, hr, q1, q2, q3]
              · simp [-gIx, L11_0, h1, h1', h2, h2', c1, c2, c3, c4, e1, e2, e3, hc, hr, q1, q2]
theorem bar_in (h : Tab m n t) (hi : i < m) (hj : j < n) (hk : k < m) (hn : n ≤ 100) {c : Int} (hc : tget t i j = some c) {os : List O} (ho : os.length ≤ 9000) (x6 x7 : Option O) :
    ∃ y6 y7, L11_1 (ev11 t i j w os (some (.fz (.int k))) x6 x7) = some (.nx, ev11 t i j w (os ++ (List.range n).filterMap (barO t i j (decide (w = "always")) k)) (some (.fz (.int k))) y6 y7) := by
  obtain ⟨ε', h1, os', y6, y7, h4, h5, rfl⟩ := for_list (b := bName 6) (body := L11_0) (fun l : Nat => D.int l) (fun ls ε => ∃ os' y6 y7, (∀ l ∈ ls, l < n) ∧ (os'.length + ls.length ≤ os.length + n ∧ os' ++ ls.filterMap (barO t i j (decide (w = "always")) k) = os ++ (List.range n).filterMap (barO t i j (decide (w = "always")) k)) ∧ ε = ev11 t i j w os' (some (.fz (.int k))) y6 y7)
    (fun l ls ε hε => by
      obtain ⟨os', y6, y7, h1, ⟨h2, h3⟩, rfl⟩ := hε
      simp only [List.length_cons] at h2
      obtain ⟨z7, h4⟩ := bar_step (w := w) h hi hj hk (h1 l (by simp)) hc (os := os') (by omega) y7
      refine ⟨_, _, rfl, .inl h4, _, _, _, fun x hx => h1 x (by simp [hx]), ⟨?_, ?_⟩, rfl⟩
      · cases barO t i j (decide (w = "always")) k l <;> simp <;> omega
      · rw [← h3, List.append_assoc]
        cases hb : barO t i j (decide (w = "always")) k l <;> simp [hb]) (List.range n) _ ⟨os, x6, x7, fun l hl => List.mem_range.1 hl, ⟨by simp, rfl⟩, rfl⟩
  have h2 : vPrP pLen (gIx (gN 0) (gC (.int 0))) (ev11 t i j w os (some (.fz (.int k))) x6 x7) = some (.o (.fz (.int n)), ev11 t i j w os (some (.fz (.int k))) x6 x7) := len_row h (by omega) rfl
  have h3 : small (n : Int) = true := small_of (by omega) (by omega)
  refine ⟨y6, y7, ?_⟩
  rw [L11_1, sFor, itR1, h2]
  have h6 := h5.2
  simp only [List.filterMap_nil, List.append_nil] at h6
  simp only [h3, if_true, Int.toNat_natCast, rng0, h1, h6]
theorem bars_ok (h : Tab m n t) (hm : m ≤ 60) (hn : n ≤ 60) (hi : i < m) (hj : j < n) {c : Int} (hc : tget t i j = some c) :
    F11 [.fz (tabD t), .fz (.int i), .fz (.int j), .fz (.str w)] = some (.own (barsO t m n i j (decide (w = "always"))), [none, none, none, none]) := by
  obtain ⟨ε', h1, os', y5, y6, y7, h4, h5, rfl⟩ := for_list (b := bName 5) (body := L11_1) (fun k : Nat => D.int k) (fun ks ε => ∃ os' y5 y6 y7, (∀ k ∈ ks, k < m) ∧ (os'.length + 100 * ks.length ≤ 100 * m ∧ os' ++ ks.flatMap (fun k => (List.range n).filterMap (barO t i j (decide (w = "always")) k)) = barsO t m n i j (decide (w = "always"))) ∧ ε = ev11 t i j w os' y5 y6 y7)
    (fun k ks ε hε => by
      obtain ⟨os', y5, y6, y7, h1, ⟨h2, h3⟩, rfl⟩ := hε
      simp only [List.length_cons] at h2
      obtain ⟨z6, z7, h4⟩ := bar_in (w := w) h hi hj (h1 k (by simp)) (by omega) hc (os := os') (by omega) y6 y7
      refine ⟨_, _, rfl, .inl h4, _, _, _, _, fun x hx => h1 x (by simp [hx]), ⟨?_, ?_⟩, rfl⟩
      · have : ((List.range n).filterMap (barO t i j (decide (w = "always")) k)).length ≤ n := by
          have := List.length_filterMap_le (barO t i j (decide (w = "always")) k) (List.range n)
          simpa using this
        simp only [List.length_append]
        omega
      · rw [← h3, List.append_assoc, List.flatMap_cons]) (List.range m) _ ⟨[], none, none, none, fun l hl => List.mem_range.1 hl, ⟨by simp, rfl⟩, rfl⟩
  have h2 : vPrim pLen [vP (gN 0)] (ev11 t i j w [] none none none) = some (.o (.fz (.int m)), ev11 t i j w [] none none none) := by simp [-pLen, len_tab h]
  have h3 : small (m : Int) = true := small_of (by omega) (by omega)
  have h6 := h5.2
  simp only [List.flatMap_nil, List.append_nil] at h6
  subst h6
  have h7 : sFor (itR1 (vPrim pLen [vP (gN 0)])) (bName 5) L11_1 (ev11 t i j w [] none none none) = some (.nx, ev11 t i j w (barsO t m n i j (decide (w = "always"))) y5 y6 y7) := by
    rw [sFor, itR1, h2]
    simp only [h3, if_true, Int.toNat_natCast, rng0, h1]
  simp only [ev11] at h7
  simp [-sFor, -itR1, F11, B11, h7]
  rfl
theorem barO_some {al : Bool} {o : O} (h : barO t i j al k l = some o) : o = .fz (.tup [.int k, .int l]) := by
  unfold barO at h
  split at h
  · cases h; rfl
  · cases h
theorem fourO_some {al : Bool} {o : O} (h : fourO t m n i j al = some o) : ∃ k l : Nat, o = .fz (.tup [.int k, .int l]) := by
  obtain ⟨k, _, h1⟩ := List.exists_of_findSome?_eq_some h
  obtain ⟨l, _, h2⟩ := List.exists_of_findSome?_eq_some h1
  exact ⟨k, l, barO_some h2⟩
theorem four3 (h : Tab m n t) (hm : m ≤ 60) (hn : n ≤ 60) (hi : i < m) (hj : j < n) {c : Int} (hc : tget t i j = some c) :
    F3 [.fz (tabD t), .fz (.int i), .fz (.int j)] = some (.fz (.bl (fourO t m n i j true).isNone), [none, none, none]) := by
  have h1 := four_ok (w := "always") h (by omega) (by omega) hi hj hc
  simp at h1
  cases h2 : fourO t m n i j true with
  | none => rw [h2] at h1; simp at h1; simp [F3, B3, h1]; rfl
  | some o =>
    obtain ⟨k, l, rfl⟩ := fourO_some h2
    rw [h2] at h1; simp at h1; simp [F3, B3, h1]; rfl
theorem four4 (h : Tab m n t) (hm : m ≤ 60) (hn : n ≤ 60) (hi : i < m) (hj : j < n) {c : Int} (hc : tget t i j = some c) :
    F4 [.fz (tabD t), .fz (.int i), .fz (.int j)] = some (.fz (.bl (fourO t m n i j false).isNone), [none, none, none]) := by
  have h1 := four_ok (w := "sometimes") h (by omega) (by omega) hi hj hc
  have h0 : decide (("sometimes" : Str) = "always") = false := by decide
  rw [h0] at h1
  cases h2 : fourO t m n i j false with
  | none => rw [h2] at h1; simp at h1; simp [F4, B4, h1]; rfl
  | some o =>
    obtain ⟨k, l, rfl⟩ := fourO_some h2
    rw [h2] at h1; simp at h1; simp [F4, B4, h1]; rfl
theorem whole_ok (i : Int) : F10 [.fz (.int i)] = some (.fz (.bl true), [none]) := by
  simp [F10, B10]
abbrev ev13 (s : Option O) (r : Reel) (tn : Option O) (i : Nat) (t : List (List (Option Int))) (way : Option O) (j : Nat) (nm : Bool) (w x9 x10 x11 : Option O) : Env' := [s, some r.o, tn, some (.fz (.int i)), some (.fz (tabD t)), way, some (.fz (.int j)), some (.fz (.bl nm)), w, x9, x10, x11]
theorem word_ok (h : Tab m n t) (hm : m ≤ 60) (hn : n ≤ 60) (hi : i < m) (hj : j < n) {c : Int} (hc : tget t i j = some c) (hw : w = "always" ∨ w = "sometimes") (s tn way x9 x10 x11 : Option O) (r : Reel) (nm : Bool) :
    ∃ y9 y10 y11, L13_0 (ev13 s r tn i t way j nm (some (.fz (.str w))) x9 x10 x11) = some (.nx, ev13 s r tn i t way j nm (some (.fz (.str w))) y9 y10 y11) := by
  have h1 := bars_ok (w := w) h hm hn hi hj hc
  have h2 := four_ok (w := w) h (by omega) (by omega) hi hj hc
  have h3 := four3 h hm hn hi hj hc
  have h4 := four4 h hm hn hi hj hc
  have h5 := bars_head (t := t) (m := m) (n := n) (i := i) (j := j) (al := decide (w = "always"))
  have h6 : ∃ al : Bool, decide (w = "always") = al ∧ ∀ (found : Option O), sIf (tVal (vBin pEq (vP (gN 8)) (vC (.str "always")))) (sSet 11 (vIf (tVal (vP (gN 7))) (vCallD F3 [2, 1, 0] [(vP (gN 6)), (vP (gN 3)), (vP (gN 4))]) (vCall F3 [(vP (gN 4)), (vP (gN 3)), (vP (gN 6))]))) (sSet 11 (vIf (tVal (vP (gN 7))) (vCallD F4 [2, 1, 0] [(vP (gN 6)), (vP (gN 3)), (vP (gN 4))]) (vCall F4 [(vP (gN 4)), (vP (gN 3)), (vP (gN 6))]))) (ev13 s r tn i t way j nm (some (.fz (.str w))) found x10 x11) = some (.nx, ev13 s r tn i t way j nm (some (.fz (.str w))) found x10 (some (.fz (.bl (fourO t m n i j al).isNone)))) := by
    rcases hw with rfl | rfl
    · refine ⟨true, rfl, fun found => ?_⟩
      cases nm <;> simp [h3]
    · have h0 : (("sometimes" : Str) = "always") = False := by simp only [eq_iff_iff, iff_false]; decide
      refine ⟨false, by decide, fun found => ?_⟩
      cases nm <;> simp [h0, h4]
  obtain ⟨al, ha, h6⟩ := h6
  rw [ha] at h1 h2 h5
  cases h7 : barsO t m n i j al with
  | nil =>
    rw [h7] at h1 h5
    simp only [List.head?_nil] at h5
    rw [← h5] at h2 h6
    have e1 : sSet 9 (vCall F11 [(vP (gN 4)), (vP (gN 3)), (vP (gN 6)), (vP (gN 8))]) (ev13 s r tn i t way j nm (some (.fz (.str w))) x9 x10 x11) = some (.nx, ev13 s r tn i t way j nm (some (.fz (.str w))) (some (.own [])) x10 x11) := by simp [h1]
    refine ⟨some (.own []), some (.fz .non), some (.fz (.bl true)), seq_nx e1 (seq_nx (h6 _) (seq_nx (if_no (ε1 := ev13 s r tn i t way j nm (some (.fz (.str w))) (some (.own [])) x10 (some (.fz (.bl true)))) ?_) (seq_nx (ε1 := ev13 s r tn i t way j nm (some (.fz (.str w))) (some (.own [])) (some (.fz .non)) (some (.fz (.bl true)))) ?_ ?_)))⟩
    · simp
    · cases nm <;> simp [h2]
    · simp
  | cons o os =>
    rw [h7] at h1 h5
    simp only [List.head?_cons] at h5
    obtain ⟨k, l, rfl⟩ := fourO_some h5.symm
    rw [← h5] at h2 h6
    have hos : ∃ ds : List D, os = ds.map O.fz := by
      have : ∀ o ∈ barsO t m n i j al, ∃ d, o = O.fz d := by
        intro o ho
        obtain ⟨k, _, ho⟩ := List.mem_flatMap.1 ho
        obtain ⟨l, _, ho⟩ := List.mem_filterMap.1 ho
        exact ⟨_, barO_some ho⟩
      rw [h7] at this
      clear h1 h5 h2 h6 h7
      induction os with
      | nil => exact ⟨[], rfl⟩
      | cons o os ih =>
        obtain ⟨d, rfl⟩ := this o (by simp)
        obtain ⟨ds, rfl⟩ := ih fun x hx => this x (by
          rcases List.mem_cons.1 hx with rfl | hx
          · simp
          · simp [hx])
        exact ⟨d :: ds, rfl⟩
    obtain ⟨ds, rfl⟩ := hos
    have e1 : sSet 9 (vCall F11 [(vP (gN 4)), (vP (gN 3)), (vP (gN 6)), (vP (gN 8))]) (ev13 s r tn i t way j nm (some (.fz (.str w))) x9 x10 x11) = some (.nx, ev13 s r tn i t way j nm (some (.fz (.str w))) (some (.own (.fz (.tup [.int k, .int l]) :: ds.map O.fz))) x10 x11) := by simp [h1]
    have hd : ((ds.length : Int) + 1 = 0) = False := by simp only [eq_iff_iff, iff_false]; omega
    have hd2 : (0 : Int) < (ds.length : Int) + 1 := by omega
    have hw1 := whole_ok k
    have hw2 := whole_ok l
    refine ⟨some (.own (.fz (.tup [.int k, .int l]) :: ds.map O.fz)), some (.fz (.tup [.int k, .int l])), some (.fz (.bl false)), seq_nx e1 (seq_nx (h6 _) (seq_nx (if_no (ε1 := ev13 s r tn i t way j nm (some (.fz (.str w))) (some (.own (.fz (.tup [.int k, .int l]) :: ds.map O.fz))) x10 (some (.fz (.bl false)))) ?_) (seq_nx (ε1 := ev13 s r tn i t way j nm (some (.fz (.str w))) (some (.own (.fz (.tup [.int k, .int l]) :: ds.map O.fz))) (some (.fz (.tup [.int k, .int l]))) (some (.fz (.bl false)))) ?_ ?_)))⟩
    · simp [hd]
    · cases nm <;> simp [h2]
    · simp [hd, hd2, atI, ixN, eq_pair, hw1, hw2]
/-! the table -/
abbrev ev9 (r : Reel) (fl : Option O) (kd : Int) (sh : Int) (rows : List O) (x5 : Option O) (m n : Nat) (row : Option O) (x9 x10 : Option O) : Env' := [some r.o, fl, some (.fz (.int kd)), some (.fz (.int sh)), some (.own rows), x5, some (.fz (.int m)), some (.fz (.int n)), row, x9, x10]
theorem price_ok (r : Reel) (fl x5 x9 x10 : Option O) (kd sh : Int) (rows : List O) (m n : Nat) (row : Option O) :
    ∃ v : Int, ∃ r' : Reel, sSet 10 (vIf (tVal (vBin pLt (vP (gN 2)) (vC (.int 3)))) (vCall F8 [(vBw 0), (vFz (vLst [(vCall F7 [(vBw 0), (vC (.int 5))]), (vCall F7 [(vBw 0), (vC (.int 5))]), (vBin pSub (vCall F7 [(vBw 0), (vC (.int 40))]) (vC (.int 9)))]))]) (vBin pSub (vCall F7 [(vBw 0), (vC (.int 2001))]) (vC (.int 1000)))) (ev9 r fl kd sh rows x5 m n row x9 x10) = some (.nx, ev9 r' fl kd sh rows x5 m n row x9 (some (.fz (.int v)))) := by
  have h1 := fun r : Reel => nx_run r 5 (by decide) (by decide)
  have h2 := fun r : Reel => nx_run r 40 (by decide) (by decide)
  have h3 := fun r : Reel => nx_run r 2001 (by decide) (by decide)
  by_cases hk : kd < 3
  · have h4 : ∀ (r : Reel) (a b c : Int), ∃ v : Int, ∃ r' : Reel, F8 [r.o, .fz (.lst [.int a, .int b, .int c])] = some (.fz (.int v), [some r'.o, none]) := by
      intro r a b c
      have h5 := one_run r [.int a, .int b, .int c] (by simp) (by simp)
      have h6 := one_mem r [.int a, .int b, .int c] (by simp) (by simp)
      simp only [List.mem_cons, List.not_mem_nil, or_false] at h6
      rcases h6 with h6 | h6 | h6 <;> rw [h6] at h5 <;> exact ⟨_, _, h5⟩
    obtain ⟨v, r', h7⟩ := h4 (nx (nx (nx r 5).2 5).2 40).2 (nx r 5).1 (nx (nx r 5).2 5).1 ((nx (nx (nx r 5).2 5).2 40).1 - 9)
    exact ⟨v, r', by simp [hk, h1, h2, h7]⟩
  · exact ⟨(nx r 2001).1 - 1000, (nx r 2001).2, by simp [hk, h3]⟩
theorem cell_ok (r : Reel) (fl x5 x9 x10 : Option O) (kd sh : Int) (hsh : sh < 2 ^ 62) (rows : List O) (m n : Nat) (row : List (Option Int)) (hr : row.length ≤ 1000) :
    ∃ v : Option Int, ∃ r' : Reel, ∃ y10, L9_0 (ev9 r fl kd sh rows x5 m n (some (.own (row.map fun c => .fz (cellD c)))) x9 x10) = some (.nx, ev9 r' fl kd sh rows x5 m n (some (.own ((row ++ [v]).map fun c => .fz (cellD c)))) x9 y10) := by
  obtain ⟨v, r1, h1⟩ := price_ok r fl x5 x9 x10 kd sh rows m n (some (.own (row.map fun c => .fz (cellD c))))
  have h2 : room row.length = true := room_of (by omega)
  by_cases h0 : 0 < sh
  · have h3 := nx_run r1 sh h0 hsh
    by_cases h4 : (nx r1 sh).1 = 0
    · exact ⟨none, (nx r1 sh).2, some (.fz (.int v)), seq_nx h1 (by simp [h0, h3, h4, h2])⟩
    · exact ⟨some v, (nx r1 sh).2, some (.fz (.int v)), seq_nx h1 (by simp [h0, h3, h4, h2])⟩
  · exact ⟨some v, r1, some (.fz (.int v)), seq_nx h1 (by simp [h0, h2])⟩
theorem row_ok (r : Reel) (fl x5 x8 x9 x10 : Option O) (kd sh : Int) (hsh : sh < 2 ^ 62) (rows : List (List (Option Int))) (hr : rows.length ≤ 1000) (m n : Nat) (hn : n ≤ 60) :
    ∃ l : List (Option Int), l.length = n ∧ ∃ r' : Reel, ∃ y8 y9 y10, L9_1 (ev9 r fl kd sh (rows.map fun l => .fz (.tup (l.map cellD))) x5 m n x8 x9 x10) = some (.nx, ev9 r' fl kd sh ((rows ++ [l]).map fun l => .fz (.tup (l.map cellD))) x5 m n y8 y9 y10) := by
  have e1 : sSet 8 (vLst []) (ev9 r fl kd sh (rows.map fun l => .fz (.tup (l.map cellD))) x5 m n x8 x9 x10) = some (.nx, ev9 r fl kd sh (rows.map fun l => .fz (.tup (l.map cellD))) x5 m n (some (.own [])) x9 x10) := by simp
  obtain ⟨ε', h1, l, r', y9, y10, h2, rfl⟩ := for_list (b := bName 9) (body := L9_0) (fun l : Nat => D.int l) (fun ks ε => ∃ (l : List (Option Int)) (r' : Reel) (y9 y10 : Option O), l.length + ks.length = n ∧ ε = ev9 r' fl kd sh (rows.map fun l => .fz (.tup (l.map cellD))) x5 m n (some (.own (l.map fun c => .fz (cellD c)))) y9 y10)
    (fun k ks ε hε => by
      obtain ⟨l, r', y9, y10, h2, rfl⟩ := hε
      simp only [List.length_cons] at h2
      obtain ⟨v, r2, z10, h3⟩ := cell_ok r' fl x5 (some (.fz (.int k))) y10 kd sh hsh (rows.map fun l => .fz (.tup (l.map cellD))) m n l (by omega)
      exact ⟨_, _, rfl, .inl h3, l ++ [v], r2, _, _, by simp; omega, rfl⟩) (List.range n) _ ⟨[], r, x9, x10, by simp, rfl⟩
  have h3 : small (n : Int) = true := small_of (by omega) (by omega)
  have h4 : room rows.length = true := room_of (by omega)
  refine ⟨l, by simpa using h2, r', some (.own (l.map fun c => .fz (cellD c))), y9, y10, seq_nx e1 (seq_nx (ε1 := ev9 r' fl kd sh (rows.map fun l => .fz (.tup (l.map cellD))) x5 m n (some (.own (l.map fun c => .fz (cellD c)))) y9 y10) ?_ ?_)⟩
  · simp only [List.map_nil] at h1
    rw [sFor, itR1]
    simp [h3, rng0, h1]
  · simp [h4]
theorem rows_ok (r : Reel) (fl x8 x9 x10 : Option O) (kd sh : Int) (hsh : sh < 2 ^ 62) (m n : Nat) (hm : m ≤ 60) (hn : n ≤ 60) :
    ∃ t : List (List (Option Int)), Tab m n t ∧ ∃ r' : Reel, ∃ y5 y8 y9 y10, sFor (itR1 (vP (gN 6))) (bName 5) L9_1 (ev9 r fl kd sh [] none m n x8 x9 x10) = some (.nx, ev9 r' fl kd sh (t.map fun l => .fz (.tup (l.map cellD))) y5 m n y8 y9 y10) := by
  obtain ⟨ε', h1, t, r', y5, y8, y9, y10, h2, h3, rfl⟩ := for_list (b := bName 5) (body := L9_1) (fun l : Nat => D.int l) (fun ks ε => ∃ (t : List (List (Option Int))) (r' : Reel) (y5 y8 y9 y10 : Option O), t.length + ks.length = m ∧ (∀ l ∈ t, l.length = n) ∧ ε = ev9 r' fl kd sh (t.map fun l => .fz (.tup (l.map cellD))) y5 m n y8 y9 y10)
    (fun k ks ε hε => by
      obtain ⟨t, r', y5, y8, y9, y10, h2, h3, rfl⟩ := hε
      simp only [List.length_cons] at h2
      obtain ⟨l, hl, r2, z8, z9, z10, h4⟩ := row_ok r' fl (some (.fz (.int k))) y8 y9 y10 kd sh hsh t (by omega) m n hn
      refine ⟨_, _, rfl, .inl h4, t ++ [l], r2, _, _, _, _, by simp; omega, fun x hx => ?_, rfl⟩
      rcases List.mem_append.1 hx with hx | hx
      · exact h3 x hx
      · simp at hx; subst hx; exact hl) (List.range m) _ ⟨[], r, none, x8, x9, x10, by simp, by simp, rfl⟩
  have h4 : small (m : Int) = true := small_of (by omega) (by omega)
  refine ⟨t, ⟨by simpa using h2, h3⟩, r', y5, y8, y9, y10, ?_⟩
  simp only [List.map_nil] at h1
  rw [sFor, itR1]
  simp [h4, rng0, h1]
theorem size1 (r : Reel) : ∃ (m n : Nat) (r' : Reel), 0 < m ∧ m ≤ 6 ∧ 0 < n ∧ n ≤ 6 ∧ F8 [r.o, .fz (.lst [.tup [.int 1, .int 1], .tup [.int 1, .int 6], .tup [.int 2, .int 2], .tup [.int 2, .int 3], .tup [.int 3, .int 2], .tup [.int 3, .int 3], .tup [.int 3, .int 3], .tup [.int 3, .int 3], .tup [.int 3, .int 4], .tup [.int 4, .int 3], .tup [.int 4, .int 4], .tup [.int 2, .int 6], .tup [.int 6, .int 2]])] = some (.fz (.tup [.int m, .int n]), [some r'.o, none]) := by
  have h1 := one_run r [.tup [.int 1, .int 1], .tup [.int 1, .int 6], .tup [.int 2, .int 2], .tup [.int 2, .int 3], .tup [.int 3, .int 2], .tup [.int 3, .int 3], .tup [.int 3, .int 3], .tup [.int 3, .int 3], .tup [.int 3, .int 4], .tup [.int 4, .int 3], .tup [.int 4, .int 4], .tup [.int 2, .int 6], .tup [.int 6, .int 2]] (by simp) (by simp)
  have h2 := one_mem r [.tup [.int 1, .int 1], .tup [.int 1, .int 6], .tup [.int 2, .int 2], .tup [.int 2, .int 3], .tup [.int 3, .int 2], .tup [.int 3, .int 3], .tup [.int 3, .int 3], .tup [.int 3, .int 3], .tup [.int 3, .int 4], .tup [.int 4, .int 3], .tup [.int 4, .int 4], .tup [.int 2, .int 6], .tup [.int 6, .int 2]] (by simp) (by simp)
  simp only [List.mem_cons, List.not_mem_nil, or_false] at h2
  rcases h2 with h | h | h | h | h | h | h | h | h | h | h | h | h <;> rw [h] at h1
  · exact ⟨1, 1, _, by decide, by decide, by decide, by decide, h1⟩
  · exact ⟨1, 6, _, by decide, by decide, by decide, by decide, h1⟩
  · exact ⟨2, 2, _, by decide, by decide, by decide, by decide, h1⟩
  · exact ⟨2, 3, _, by decide, by decide, by decide, by decide, h1⟩
  · exact ⟨3, 2, _, by decide, by decide, by decide, by decide, h1⟩
  · exact ⟨3, 3, _, by decide, by decide, by decide, by decide, h1⟩
  · exact ⟨3, 3, _, by decide, by decide, by decide, by decide, h1⟩
  · exact ⟨3, 3, _, by decide, by decide, by decide, by decide, h1⟩
  · exact ⟨3, 4, _, by decide, by decide, by decide, by decide, h1⟩
  · exact ⟨4, 3, _, by decide, by decide, by decide, by decide, h1⟩
  · exact ⟨4, 4, _, by decide, by decide, by decide, by decide, h1⟩
  · exact ⟨2, 6, _, by decide, by decide, by decide, by decide, h1⟩
  · exact ⟨6, 2, _, by decide, by decide, by decide, by decide, h1⟩
theorem size2 (r : Reel) : ∃ (m n : Nat) (r' : Reel), 0 < m ∧ m ≤ 6 ∧ 0 < n ∧ n ≤ 6 ∧ F8 [r.o, .fz (.lst [.tup [.int 5, .int 5], .tup [.int 4, .int 6], .tup [.int 6, .int 4], .tup [.int 3, .int 5], .tup [.int 5, .int 3], .tup [.int 2, .int 5], .tup [.int 5, .int 2], .tup [.int 6, .int 1], .tup [.int 1, .int 3], .tup [.int 4, .int 2]])] = some (.fz (.tup [.int m, .int n]), [some r'.o, none]) := by
  have h1 := one_run r [.tup [.int 5, .int 5], .tup [.int 4, .int 6], .tup [.int 6, .int 4], .tup [.int 3, .int 5], .tup [.int 5, .int 3], .tup [.int 2, .int 5], .tup [.int 5, .int 2], .tup [.int 6, .int 1], .tup [.int 1, .int 3], .tup [.int 4, .int 2]] (by simp) (by simp)
  have h2 := one_mem r [.tup [.int 5, .int 5], .tup [.int 4, .int 6], .tup [.int 6, .int 4], .tup [.int 3, .int 5], .tup [.int 5, .int 3], .tup [.int 2, .int 5], .tup [.int 5, .int 2], .tup [.int 6, .int 1], .tup [.int 1, .int 3], .tup [.int 4, .int 2]] (by simp) (by simp)
  simp only [List.mem_cons, List.not_mem_nil, or_false] at h2
  rcases h2 with h | h | h | h | h | h | h | h | h | h <;> rw [h] at h1
  · exact ⟨5, 5, _, by decide, by decide, by decide, by decide, h1⟩
  · exact ⟨4, 6, _, by decide, by decide, by decide, by decide, h1⟩
  · exact ⟨6, 4, _, by decide, by decide, by decide, by decide, h1⟩
  · exact ⟨3, 5, _, by decide, by decide, by decide, by decide, h1⟩
  · exact ⟨5, 3, _, by decide, by decide, by decide, by decide, h1⟩
  · exact ⟨2, 5, _, by decide, by decide, by decide, by decide, h1⟩
  · exact ⟨5, 2, _, by decide, by decide, by decide, by decide, h1⟩
  · exact ⟨6, 1, _, by decide, by decide, by decide, by decide, h1⟩
  · exact ⟨1, 3, _, by decide, by decide, by decide, by decide, h1⟩
  · exact ⟨4, 2, _, by decide, by decide, by decide, by decide, h1⟩
abbrev ev9a (r : Reel) (fl : Option O) (x2 x3 x4 : Option O) (m n : Nat) : Env' := [some r.o, fl, x2, x3, x4, none, some (.fz (.int m)), some (.fz (.int n)), none, none, none]
theorem table_ex (r : Reel) (full : Bool) : ∃ (m n : Nat) (t : List (List (Option Int))) (r' : Reel), 0 < m ∧ m ≤ 6 ∧ 0 < n ∧ n ≤ 6 ∧ Tab m n t ∧ F9 [r.o, .fz (.bl full)] = some (.fz (tabD t), [some r'.o, none]) := by
  obtain ⟨m1, n1, r1, a1, a2, a3, a4, h1⟩ := size1 r
  have h2 := nx_run r1 8 (by decide) (by decide)
  have h3 : ∃ (m n : Nat) (r3 : Reel), 0 < m ∧ m ≤ 6 ∧ 0 < n ∧ n ≤ 6 ∧ sIf (tVal (vBin pEq (vCall F7 [(vBw 0), (vC (.int 8))]) (vC (.int 0)))) (sAsg (vCall F8 [(vBw 0), (vFz (vLst [(vTup [(vC (.int 5)), (vC (.int 5))]), (vTup [(vC (.int 4)), (vC (.int 6))]), (vTup [(vC (.int 6)), (vC (.int 4))]), (vTup [(vC (.int 3)), (vC (.int 5))]), (vTup [(vC (.int 5)), (vC (.int 3))]), (vTup [(vC (.int 2)), (vC (.int 5))]), (vTup [(vC (.int 5)), (vC (.int 2))]), (vTup [(vC (.int 6)), (vC (.int 1))]), (vTup [(vC (.int 1)), (vC (.int 3))]), (vTup [(vC (.int 4)), (vC (.int 2))])]))]) (bTup [(bName 6), (bName 7)])) sNx
      (ev9a r1 (some (.fz (.bl full))) none none none m1 n1) = some (.nx, ev9a r3 (some (.fz (.bl full))) none none none m n) := by
    by_cases h0 : (nx r1 8).1 = 0
    · obtain ⟨m2, n2, r2, b1, b2, b3, b4, h4⟩ := size2 (nx r1 8).2
      refine ⟨m2, n2, r2, b1, b2, b3, b4, ?_⟩
      simp [h2, h0, h4]
    · exact ⟨m1, n1, (nx r1 8).2, a1, a2, a3, a4, by simp [h2, h0]⟩
  obtain ⟨m, n, r3, b1, b2, b3, b4, h3⟩ := h3
  have h4 := nx_run r3 4 (by decide) (by decide)
  have h5 : ∃ sh : Int, sh < 2 ^ 62 ∧ ∃ r5 : Reel, sSet 3 (vIf (tNo (tVal (vP (gN 1)))) (vBin pIx (vLst [(vC (.int 0)), (vC (.int 0)), (vC (.int 3)), (vC (.int 5))]) (vCall F7 [(vBw 0), (vC (.int 4))])) (vC (.int 0))) (ev9a (nx r3 4).2 (some (.fz (.bl full))) (some (.fz (.int (nx r3 4).1))) none none m n) = some (.nx, ev9a r5 (some (.fz (.bl full))) (some (.fz (.int (nx r3 4).1))) (some (.fz (.int sh))) none m n) := by
    cases full with
    | true => exact ⟨0, by decide, (nx r3 4).2, by simp⟩
    | false =>
      have h6 := nx_run (nx r3 4).2 4 (by decide) (by decide)
      obtain ⟨k, k1, k2⟩ := nx_nat (nx r3 4).2 (m := 4) (by decide) (by decide)
      have h7 : k = 0 ∨ k = 1 ∨ k = 2 ∨ k = 3 := by omega
      rcases h7 with rfl | rfl | rfl | rfl
      · exact ⟨0, by decide, (nx (nx r3 4).2 4).2, by simp [h6, k1, atI, ixN]⟩
      · exact ⟨0, by decide, (nx (nx r3 4).2 4).2, by simp [h6, k1, atI, ixN]⟩
      · exact ⟨3, by decide, (nx (nx r3 4).2 4).2, by simp [h6, k1, atI, ixN]⟩
      · exact ⟨5, by decide, (nx (nx r3 4).2 4).2, by simp [h6, k1, atI, ixN]⟩
  obtain ⟨sh, hsh, r5, h5⟩ := h5
  obtain ⟨t, ht, r6, y5, y8, y9, y10, h6⟩ := rows_ok r5 (some (.fz (.bl full))) none none none (nx r3 4).1 sh hsh m n (by omega) (by omega)
  refine ⟨m, n, t, r6, b1, b2, b3, b4, ht, ?_⟩
  have e : B9 [some r.o, some (.fz (.bl full)), none, none, none, none, none, none, none, none, none] = some (.rt (.fz (tabD t)), ev9 r6 (some (.fz (.bl full))) (nx r3 4).1 sh (t.map fun l => .fz (.tup (l.map cellD))) y5 m n y8 y9 y10) := by
    refine seq_nx (ε1 := ev9a r1 (some (.fz (.bl full))) none none none m1 n1) ?_ (seq_nx h3 (seq_nx (ε1 := ev9a (nx r3 4).2 (some (.fz (.bl full))) (some (.fz (.int (nx r3 4).1))) none none m n) ?_ (seq_nx h5 (seq_nx (ε1 := ev9 r5 (some (.fz (.bl full))) (nx r3 4).1 sh [] none m n none none none) ?_ (seq_nx h6 ?_)))))
    · simp [h1]
    · simp [h4]
    · simp
    · simp [tabD]
  simp [F9, e]
  rfl
/-! one price turned cheap -/
abbrev ev12 (r : Reel) (t : List (List (Option Int))) (x2 x3 x4 x5 x6 x7 x8 x9 : Option O) : Env' := [some r.o, some (.fz (tabD t)), x2, x3, x4, x5, x6, x7, x8, x9]
def IsWay (m n : Nat) (t : List (List (Option Int))) (p : Nat × Nat) : Prop := p.1 < m ∧ p.2 < n ∧ ∃ c, tget t p.1 p.2 = some c
theorem ways_step (h : Tab m n t) (hi : i < m) (hn : n ≤ 60) (r : Reel) (ws : List (Nat × Nat)) (hw : ∀ p ∈ ws, IsWay m n t p) (hl : ws.length ≤ 6000) (x4 x5 x6 x7 x9 : Option O) :
    ∃ ws' : List (Nat × Nat), (∀ p ∈ ws', IsWay m n t p) ∧ ws'.length ≤ ws.length + n ∧ L12_1 (ev12 r t (some (.own (ws.map fun p => .fz (wayD p)))) (some (.fz (.int i))) x4 x5 x6 x7 none x9) = some (.nx, ev12 r t (some (.own (ws'.map fun p => .fz (wayD p)))) (some (.fz (.int i))) x4 x5 x6 x7 none x9) := by
  have h1 : lcRun [8] (bName 8) (tVal (vBin pNotN (vP (gIx (gIx (gN 1) (gN 3)) (gN 8))) (vC .non))) E12_0 ((List.range n).map fun k : Nat => D.int k) (ev12 r t (some (.own (ws.map fun p => .fz (wayD p)))) (some (.fz (.int i))) x4 x5 x6 x7 none x9)
      = some (((List.range n).filter fun k => (tget t i k).isSome).map fun k => .fz (wayD (i, k)), ev12 r t (some (.own (ws.map fun p => .fz (wayD p)))) (some (.fz (.int i))) x4 x5 x6 x7 none x9) := by
    refine lc_some (fun k : Nat => D.int k) (fun k => (tget t i k).isSome) (fun k => .fz (wayD (i, k))) fun k hk => ⟨_, rfl, ?_, fun _ => by simp [E12_0, wayD], rfl⟩
    have hk := List.mem_range.1 hk
    have c1 : ∀ {ε : Env'} {a b c : Pl}, a ε = some (.fz (tabD t)) → b ε = some (.fz (.int i)) → c ε = some (.fz (.int k)) → gIx (gIx a b) c ε = some (.fz (cellD (tget t i k))) := fun ha hb hc => gIx_cell h hi hk ha hb hc
    cases e : tget t i k <;> simp [-gIx, c1, e]
  have h2 : vPrP pLen (gIx (gN 1) (gC (.int 0))) (ev12 r t (some (.own (ws.map fun p => .fz (wayD p)))) (some (.fz (.int i))) x4 x5 x6 x7 none x9) = some (.o (.fz (.int n)), ev12 r t (some (.own (ws.map fun p => .fz (wayD p)))) (some (.fz (.int i))) x4 x5 x6 x7 none x9) := len_row h (by omega) rfl
  have h3 : small (n : Int) = true := small_of (by omega) (by omega)
  have h4 : room n = true := room_of (by omega)
  have h5 : ((List.range n).filter fun k => (tget t i k).isSome).length ≤ n := by
    have := List.length_filter_le (fun k => (tget t i k).isSome) (List.range n)
    simpa using this
  have h6 : room (ws.length + ((List.range n).filter fun k => (tget t i k).isSome).length) = true := room_of (by omega)
  refine ⟨ws ++ ((List.range n).filter fun k => (tget t i k).isSome).map fun k => (i, k), ?_, by simp; omega, ?_⟩
  · intro p hp
    rcases List.mem_append.1 hp with hp | hp
    · exact hw p hp
    · obtain ⟨k, hk, rfl⟩ := List.mem_map.1 hp
      obtain ⟨hk1, hk2⟩ := List.mem_filter.1 hk
      obtain ⟨c, hc⟩ := Option.isSome_iff_exists.1 hk2
      exact ⟨hi, List.mem_range.1 hk1, c, hc⟩
  · have h7 : itR1 (vPrP pLen (gIx (gN 1) (gC (.int 0)))) (ev12 r t (some (.own (ws.map fun p => .fz (wayD p)))) (some (.fz (.int i))) x4 x5 x6 x7 none x9) = some ((List.range n).map fun k : Nat => D.int k, ev12 r t (some (.own (ws.map fun p => .fz (wayD p)))) (some (.fz (.int i))) x4 x5 x6 x7 none x9) := by
      rw [itR1, h2]
      simp only [h3, if_true, Int.toNat_natCast, rng0]
    simp [-itR1, L12_1, h7, h1, h4, h6]
    rfl
theorem limits_step (h : Tab m n t) (hi : i < m) (hj : j < n) (hk : k < m) (hn : n ≤ 60) (r : Reel) (ls : List Int) (hl : ls.length ≤ 6000) (x2 x6 x7 : Option O) :
    ∃ ls' : List Int, ls'.length ≤ ls.length + n ∧ L12_3 (ev12 r t x2 (some (.fz (.int i))) (some (.own (ls.map fun p => .fz (.int p)))) (some (.fz (.int k))) x6 x7 (some (.fz (.int j))) none) = some (.nx, ev12 r t x2 (some (.fz (.int i))) (some (.own (ls'.map fun p => .fz (.int p)))) (some (.fz (.int k))) x6 x7 (some (.fz (.int j))) none) := by
  have h1 : lcRun [9] (bName 9) (tAn (tVal (vBin pNe (vP (gN 5)) (vP (gN 3)))) (tAn (tVal (vBin pNe (vP (gN 9)) (vP (gN 8)))) (tVal (vBin pNotIn (vC .non) (vLst [(vP (gIx (gIx (gN 1) (gN 3)) (gN 9))), (vP (gIx (gIx (gN 1) (gN 5)) (gN 8))), (vP (gIx (gIx (gN 1) (gN 5)) (gN 9)))]))))) E12_2 ((List.range n).map fun k : Nat => D.int k) (ev12 r t x2 (some (.fz (.int i))) (some (.own (ls.map fun p => .fz (.int p)))) (some (.fz (.int k))) x6 x7 (some (.fz (.int j))) none)
      = some (((List.range n).filter fun l => decide (k ≠ i) && (decide (l ≠ j) && !((tget t i l).isNone || (tget t k j).isNone || (tget t k l).isNone))).map fun l => .fz (.int ((tget t i l).getD 0 + (tget t k j).getD 0 - (tget t k l).getD 0)), ev12 r t x2 (some (.fz (.int i))) (some (.own (ls.map fun p => .fz (.int p)))) (some (.fz (.int k))) x6 x7 (some (.fz (.int j))) none) := by
    refine lc_some (fun k : Nat => D.int k) _ _ fun l hl => ⟨_, rfl, ?_, ?_, rfl⟩
    · have hl := List.mem_range.1 hl
      have c2 : ∀ {ε : Env'} {a b c : Pl}, a ε = some (.fz (tabD t)) → b ε = some (.fz (.int i)) → c ε = some (.fz (.int l)) → gIx (gIx a b) c ε = some (.fz (cellD (tget t i l))) := fun ha hb hc => gIx_cell h hi hl ha hb hc
      have c3 : ∀ {ε : Env'} {a b c : Pl}, a ε = some (.fz (tabD t)) → b ε = some (.fz (.int k)) → c ε = some (.fz (.int j)) → gIx (gIx a b) c ε = some (.fz (cellD (tget t k j))) := fun ha hb hc => gIx_cell h hk hj ha hb hc
      have c4 : ∀ {ε : Env'} {a b c : Pl}, a ε = some (.fz (tabD t)) → b ε = some (.fz (.int k)) → c ε = some (.fz (.int l)) → gIx (gIx a b) c ε = some (.fz (cellD (tget t k l))) := fun ha hb hc => gIx_cell h hk hl ha hb hc
      by_cases h1 : k = i
      · simp [h1]
      · have h1' : ¬(k : Int) = i := by omega
        by_cases h2 : l = j
        · simp [h1, h1', h2]
        · have h2' : ¬(l : Int) = j := by omega
          simp [-gIx, h1, h1', h2, h2', c2, c3, c4, non_in3]
    · intro ht
      have hl := List.mem_range.1 hl
      have c2 : ∀ {ε : Env'} {a b c : Pl}, a ε = some (.fz (tabD t)) → b ε = some (.fz (.int i)) → c ε = some (.fz (.int l)) → gIx (gIx a b) c ε = some (.fz (cellD (tget t i l))) := fun ha hb hc => gIx_cell h hi hl ha hb hc
      have c3 : ∀ {ε : Env'} {a b c : Pl}, a ε = some (.fz (tabD t)) → b ε = some (.fz (.int k)) → c ε = some (.fz (.int j)) → gIx (gIx a b) c ε = some (.fz (cellD (tget t k j))) := fun ha hb hc => gIx_cell h hk hj ha hb hc
      have c4 : ∀ {ε : Env'} {a b c : Pl}, a ε = some (.fz (tabD t)) → b ε = some (.fz (.int k)) → c ε = some (.fz (.int l)) → gIx (gIx a b) c ε = some (.fz (cellD (tget t k l))) := fun ha hb hc => gIx_cell h hk hl ha hb hc
      cases e1 : tget t i l <;> cases e2 : tget t k j <;> cases e3 : tget t k l <;> simp [e1, e2, e3] at ht
      simp [-gIx, E12_2, c2, c3, c4, e1, e2, e3]
  have h4 : room n = true := room_of (by omega)
  have h5 : ((List.range n).filter fun l => decide (k ≠ i) && (decide (l ≠ j) && !((tget t i l).isNone || (tget t k j).isNone || (tget t k l).isNone))).length ≤ n := by
    have := List.length_filter_le (fun l => decide (k ≠ i) && (decide (l ≠ j) && !((tget t i l).isNone || (tget t k j).isNone || (tget t k l).isNone))) (List.range n)
    simpa using this
  generalize ((List.range n).filter fun l => decide (k ≠ i) && (decide (l ≠ j) && !((tget t i l).isNone || (tget t k j).isNone || (tget t k l).isNone))) = fs at h1 h5
  have h6 : room (ls.length + fs.length) = true := room_of (by omega)
  have h7 := it_row h (by omega : 0 < m) (by omega : n ≤ 100000) (a := gN 1) (ε := ev12 r t x2 (some (.fz (.int i))) (some (.own (ls.map fun p => .fz (.int p)))) (some (.fz (.int k))) x6 x7 (some (.fz (.int j))) none) rfl
  refine ⟨ls ++ fs.map fun l => (tget t i l).getD 0 + (tget t k j).getD 0 - (tget t k l).getD 0, by simp; omega, ?_⟩
  simp [-itR1, L12_3, h7, h1, h4, h6]
  rfl
theorem ways_ok (h : Tab m n t) (hm : m ≤ 60) (hn : n ≤ 60) (r : Reel) : ∃ ws : List (Nat × Nat), (∀ p ∈ ws, IsWay m n t p) ∧ ws.length ≤ 6000 ∧ ∃ y3, sFor (itR1 (vPrim pLen [vP (gN 1)])) (bName 3) L12_1 (ev12 r t (some (.own [])) none none none none none none none) = some (.nx, ev12 r t (some (.own (ws.map fun p => .fz (wayD p)))) y3 none none none none none none) := by
  obtain ⟨ε', h1, ws, y3, h2, h3, h4, rfl⟩ := for_list (b := bName 3) (body := L12_1) (fun k : Nat => D.int k) (fun ks ε => ∃ (ws : List (Nat × Nat)) (y3 : Option O), (∀ k ∈ ks, k < m) ∧ (∀ p ∈ ws, IsWay m n t p) ∧ ws.length + 60 * ks.length ≤ 60 * m ∧ ε = ev12 r t (some (.own (ws.map fun p => .fz (wayD p)))) y3 none none none none none none)
    (fun k ks ε hε => by
      obtain ⟨ws, y3, h1, h2, h3, rfl⟩ := hε
      simp only [List.length_cons] at h3
      obtain ⟨ws', h4, h5, h6⟩ := ways_step h (h1 k (by simp)) hn r ws h2 (by omega) none none none none none
      exact ⟨_, _, rfl, .inl h6, ws', _, fun x hx => h1 x (by simp [hx]), h4, by omega, rfl⟩) (List.range m) _ ⟨[], none, fun l hl => List.mem_range.1 hl, by simp, by simp, rfl⟩
  have h5 := it_tab h (by omega) (a := gN 1) (ε := ev12 r t (some (.own [])) none none none none none none none) rfl
  refine ⟨ws, h3, by simp at h4; omega, y3, ?_⟩
  rw [sFor, h5]
  exact h1
theorem limits_ok (h : Tab m n t) (hm : m ≤ 60) (hn : n ≤ 60) (hi : i < m) (hj : j < n) (r : Reel) (x2 : Option O) : ∃ ls : List Int, ∃ y5, sFor (itR1 (vPrim pLen [vP (gN 1)])) (bName 5) L12_3 (ev12 r t x2 (some (.fz (.int i))) (some (.own [])) none none none (some (.fz (.int j))) none) = some (.nx, ev12 r t x2 (some (.fz (.int i))) (some (.own (ls.map fun p => .fz (.int p)))) y5 none none (some (.fz (.int j))) none) := by
  obtain ⟨ε', h1, ls, y5, h2, h4, rfl⟩ := for_list (b := bName 5) (body := L12_3) (fun k : Nat => D.int k) (fun ks ε => ∃ (ls : List Int) (y5 : Option O), (∀ k ∈ ks, k < m) ∧ ls.length + 60 * ks.length ≤ 60 * m ∧ ε = ev12 r t x2 (some (.fz (.int i))) (some (.own (ls.map fun p => .fz (.int p)))) y5 none none (some (.fz (.int j))) none)
    (fun k ks ε hε => by
      obtain ⟨ls, y5, h1, h3, rfl⟩ := hε
      simp only [List.length_cons] at h3
      obtain ⟨ls', h5, h6⟩ := limits_step h hi hj (h1 k (by simp)) hn r ls (by omega) x2 none none
      exact ⟨_, _, rfl, .inl h6, ls', _, fun x hx => h1 x (by simp [hx]), by omega, rfl⟩) (List.range m) _ ⟨[], none, fun l hl => List.mem_range.1 hl, by simp, rfl⟩
  have h5 := it_tab h (by omega) (a := gN 1) (ε := ev12 r t x2 (some (.fz (.int i))) (some (.own [])) none none none (some (.fz (.int j))) none) rfl
  refine ⟨ls, y5, ?_⟩
  rw [sFor, h5]
  exact h1
theorem cheap_price (h : Tab m n t) (hi : i < m) (hj : j < n) {c : Int} (hc : tget t i j = some c) (r : Reel) (ls : List Int) (x2 x5 x9 : Option O) :
    ∃ v : Int, ∃ r' : Reel, sSet 6 (vIf (tVal (vBin pEq (vPrim pLen [(vBw 4)]) (vC (.int 0)))) (vP (gIx (gIx (gN 1) (gN 3)) (gN 8))) (vBin pAdd (vPrim pMinL [(vBw 4)]) (vBin pIx (vLst [(vC (.int 0)), (vC (.int 0)), (vUn pNeg (vC (.int 1))), (vC (.int 1))]) (vCall F7 [(vBw 0), (vC (.int 4))])))) (ev12 r t x2 (some (.fz (.int i))) (some (.own (ls.map fun p => .fz (.int p)))) x5 none none (some (.fz (.int j))) x9)
      = some (.nx, ev12 r' t x2 (some (.fz (.int i))) (some (.own (ls.map fun p => .fz (.int p)))) x5 (some (.fz (.int v))) none (some (.fz (.int j))) x9) := by
  have c1 : ∀ {ε : Env'} {a b c : Pl}, a ε = some (.fz (tabD t)) → b ε = some (.fz (.int i)) → c ε = some (.fz (.int j)) → gIx (gIx a b) c ε = some (.fz (cellD (tget t i j))) := fun ha hb hc => gIx_cell h hi hj ha hb hc
  by_cases h0 : ls = []
  · subst h0
    exact ⟨c, r, by simp [-gIx, c1, hc]⟩
  · have h1 : (ls.length : Int) = 0 ↔ False := by
      have := List.length_pos_iff.2 h0
      simp only [iff_false]; omega
    have h2 : ∃ q, ls.min? = some q := by
      cases hq : ls.min? with
      | none => exact absurd (List.min?_eq_none_iff.1 hq) h0
      | some q => exact ⟨q, rfl⟩
    obtain ⟨q, h2⟩ := h2
    have h6 := nx_run r 4 (by decide) (by decide)
    obtain ⟨k, k1, k2⟩ := nx_nat r (m := 4) (by decide) (by decide)
    have h7 : k = 0 ∨ k = 1 ∨ k = 2 ∨ k = 3 := by omega
    rcases h7 with rfl | rfl | rfl | rfl
    · exact ⟨q + 0, (nx r 4).2, by simp [h0, h1, intsOf_map, h2, h6, k1, atI, ixN]⟩
    · exact ⟨q + 0, (nx r 4).2, by simp [h0, h1, intsOf_map, h2, h6, k1, atI, ixN]⟩
    · exact ⟨q + -1, (nx r 4).2, by simp [h0, h1, intsOf_map, h2, h6, k1, atI, ixN]⟩
    · exact ⟨q + 1, (nx r 4).2, by simp [h0, h1, intsOf_map, h2, h6, k1, atI, ixN]⟩
theorem cheap_clamp (h : Tab m n t) (hi : i < m) (hj : j < n) {c : Int} (hc : tget t i j = some c) (r : Reel) (v : Int) (x2 x4 x5 x9 : Option O) :
    ∃ v' : Int, sIf (tOr' (tVal (vBin pLt (vP (gN 6)) (vUn pNeg (vC (.int 1000))))) (tVal (vBin pGt (vP (gN 6)) (vC (.int 1000))))) (sSet 6 (vP (gIx (gIx (gN 1) (gN 3)) (gN 8)))) sNx (ev12 r t x2 (some (.fz (.int i))) x4 x5 (some (.fz (.int v))) none (some (.fz (.int j))) x9)
      = some (.nx, ev12 r t x2 (some (.fz (.int i))) x4 x5 (some (.fz (.int v'))) none (some (.fz (.int j))) x9) := by
  have c1 : ∀ {ε : Env'} {a b c : Pl}, a ε = some (.fz (tabD t)) → b ε = some (.fz (.int i)) → c ε = some (.fz (.int j)) → gIx (gIx a b) c ε = some (.fz (cellD (tget t i j))) := fun ha hb hc => gIx_cell h hi hj ha hb hc
  by_cases h1 : v < -1000
  · exact ⟨c, by simp [-gIx, c1, hc, h1]⟩
  · by_cases h2 : 1000 < v
    · exact ⟨c, by simp [-gIx, c1, hc, h1, h2]⟩
    · exact ⟨v, by simp [h1, h2]⟩
theorem cheap_put (h : Tab m n t) (hm : m ≤ 60) (hn : n ≤ 60) (hi : i < m) (hj : j < n) (r : Reel) (v : Int) (x2 x4 x5 x9 : Option O) :
    sSeq (sSet 7 (vBin pAdd (vBin pAdd (vSl (vP (gIx (gN 1) (gN 3))) none (some (vP (gN 8)))) (vTup [(vP (gN 6))])) (vSl (vP (gIx (gN 1) (gN 3))) (some (vBin pAdd (vP (gN 8)) (vC (.int 1)))) none))) (sRet (vTup [(vBin pAdd (vBin pAdd (vSl (vP (gN 1)) none (some (vP (gN 3)))) (vTup [(vP (gN 7))])) (vSl (vP (gN 1)) (some (vBin pAdd (vP (gN 3)) (vC (.int 1)))) none)), (vTup [(vP (gN 3)), (vP (gN 8))])])) (ev12 r t x2 (some (.fz (.int i))) x4 x5 (some (.fz (.int v))) none (some (.fz (.int j))) x9)
      = some (.rt (.fz (.tup [tabD (tput t i j (some v)), wayD (i, j)])), ev12 r t x2 (some (.fz (.int i))) x4 x5 (some (.fz (.int v))) (some (.fz (.tup (((t.getD i []).set j (some v)).map cellD)))) (some (.fz (.int j))) x9) := by
  obtain ⟨row, h1, h2, h3⟩ := h.rowAt hi
  have g1 : ∀ {ε : Env'} {a b : Pl}, a ε = some (.fz (tabD t)) → b ε = some (.fz (.int i)) → gIx a b ε = some (.fz (.tup (row.map cellD))) := fun ha hb => by rw [gIx_row h hi ha hb, h3]
  obtain ⟨s1, s2⟩ := splice_row (r := row) (j := j) (x := some v) (by omega) (by omega)
  obtain ⟨s3, s4⟩ := splice_tab (t := t) (i := i) (r := row.set j (some v)) (by rw [h.len]; omega) (by rw [h.len]; omega)
  rw [cellD_some] at s1 s2
  unfold tput
  rw [h3]
  refine seq_nx (ε1 := ev12 r t x2 (some (.fz (.int i))) x4 x5 (some (.fz (.int v))) (some (.fz (.tup ((row.set j (some v)).map cellD)))) (some (.fz (.int j))) x9) ?_ ?_
  · simp [-gIx, -pAdd, -List.map_take, -List.map_drop, -List.map_set, g1, pAdd_int, cut_to, cut_from1, s1, s2]
  · have e : tabD t = .tup (t.map fun r => D.tup (r.map cellD)) := rfl
    simp [-gIx, -pAdd, -List.map_take, -List.map_drop, -List.map_set, e, pAdd_int, cut_to, cut_from1, s3, s4, wayD]
theorem cheap_ok (h : Tab m n t) (hm : m ≤ 60) (hn : n ≤ 60) (r : Reel) : ∃ (t' : List (List (Option Int))) (way : D) (r' : Reel), Tab m n t' ∧ F12 [r.o, .fz (tabD t)] = some (.fz (.tup [tabD t', way]), [some r'.o, none]) := by
  obtain ⟨ws, hw, hl, y3, e2⟩ := ways_ok h hm hn r
  have e1 : sSet 2 (vLst []) (ev12 r t none none none none none none none none) = some (.nx, ev12 r t (some (.own [])) none none none none none none none) := by simp
  by_cases h0 : ws = []
  · subst h0
    refine ⟨t, .non, r, h, ?_⟩
    have e : B12 (ev12 r t none none none none none none none none) = some (.rt (.fz (.tup [tabD t, .non])), ev12 r t (some (.own [])) y3 none none none none none none) := by
      refine seq_nx e1 (seq_nx e2 ?_)
      simp
    simp only [ev12] at e
    simp [F12, e]
    rfl
  · have hp := List.length_pos_iff.2 h0
    have q1 := one_mem r (ws.map wayD) (by simpa using hp) (by simp; omega)
    have q2 := one_run r (ws.map wayD) (by simpa using hp) (by simp; omega)
    generalize (one r (ws.map wayD)).2 = r1 at q2
    obtain ⟨⟨i, j⟩, hij, hd⟩ := List.mem_map.1 q1
    rw [← hd] at q2
    obtain ⟨hi, hj, c, hc⟩ := hw _ hij
    simp only at hi hj hc
    have n0 : ((ws.length : Int) = 0) = False := by simp only [eq_iff_iff, iff_false]; omega
    have fx : (fun x => O.fz (wayD x)) = O.fz ∘ wayD := rfl
    have e3 : sIf (tVal (vBin pEq (vPrim pLen [(vBw 2)]) (vC (.int 0)))) (sRet (vTup [(vP (gN 1)), (vC .non)])) sNx (ev12 r t (some (.own (ws.map fun p => .fz (wayD p)))) y3 none none none none none none) = some (.nx, ev12 r t (some (.own (ws.map fun p => .fz (wayD p)))) y3 none none none none none none) := by simp [n0, h0]
    have e4 : sAsg (vCall F8 [(vBw 0), (vRd 2)]) (bTup [(bName 3), (bName 8)]) (ev12 r t (some (.own (ws.map fun p => .fz (wayD p)))) y3 none none none none none none) = some (.nx, ev12 r1 t (some (.fz (.lst (ws.map wayD)))) (some (.fz (.int i))) none none none none (some (.fz (.int j))) none) := by
      simp [q2]
      simp [wayD]
    have e5 : sSet 4 (vLst []) (ev12 r1 t (some (.fz (.lst (ws.map wayD)))) (some (.fz (.int i))) none none none none (some (.fz (.int j))) none) = some (.nx, ev12 r1 t (some (.fz (.lst (ws.map wayD)))) (some (.fz (.int i))) (some (.own [])) none none none (some (.fz (.int j))) none) := by simp
    obtain ⟨ls, y5, e6⟩ := limits_ok h hm hn hi hj r1 (some (.fz (.lst (ws.map wayD))))
    obtain ⟨v, r2, e7⟩ := cheap_price h hi hj hc r1 ls (some (.fz (.lst (ws.map wayD)))) y5 none
    obtain ⟨v', e8⟩ := cheap_clamp h hi hj hc r2 v (some (.fz (.lst (ws.map wayD)))) (some (.own (ls.map fun p => .fz (.int p)))) y5 none
    have e9 := cheap_put h hm hn hi hj r2 v' (some (.fz (.lst (ws.map wayD)))) (some (.own (ls.map fun p => .fz (.int p)))) y5 none
    refine ⟨tput t i j (some v'), wayD (i, j), r2, h.put hi, ?_⟩
    have e : B12 (ev12 r t none none none none none none none none) = _ := seq_nx e1 (seq_nx e2 (seq_nx e3 (seq_nx e4 (seq_nx e5 (seq_nx e6 (seq_nx e7 (seq_nx e8 e9)))))))
    simp only [ev12] at e
    simp [F12, e]
    rfl
abbrev evL (s : Option O) (r : Reel) (tn x3 : Option O) (t : List (List (Option Int))) (way x6 x7 x8 x9 x10 x11 : Option O) : Env' := [s, some r.o, tn, x3, some (.fz (tabD t)), way, x6, x7, x8, x9, x10, x11]
theorem place_ok (h : Tab m n t) (hm : m ≤ 60) (hn : n ≤ 60) (hi : i < m) (hj : j < n) (s tn way x7 x8 x9 x10 x11 : Option O) (r : Reel) :
    ∃ r' y7 y8 y9 y10 y11, L13_1 (evL s r tn (some (.fz (.int i))) t way (some (.fz (.int j))) x7 x8 x9 x10 x11) = some (.nx, evL s r' tn (some (.fz (.int i))) t way (some (.fz (.int j))) y7 y8 y9 y10 y11) := by
  have c1 : ∀ {ε : Env'} {a b c : Pl}, a ε = some (.fz (tabD t)) → b ε = some (.fz (.int i)) → c ε = some (.fz (.int j)) → gIx (gIx a b) c ε = some (.fz (cellD (tget t i j))) := fun ha hb hc => gIx_cell h hi hj ha hb hc
  cases hc : tget t i j with
  | none => exact ⟨r, x7, x8, x9, x10, x11, by simp [-gIx, L13_1, c1, hc]⟩
  | some c =>
    have h1 := nx_run r 2 (by decide) (by decide)
    have e1 : sSet 7 (vBin pEq (vCall F7 [(vBw 1), (vC (.int 2))]) (vC (.int 0))) (evL s r tn (some (.fz (.int i))) t way (some (.fz (.int j))) x7 x8 x9 x10 x11) = some (.nx, evL s (nx r 2).2 tn (some (.fz (.int i))) t way (some (.fz (.int j))) (some (.fz (.bl (decide ((nx r 2).1 = 0))))) x8 x9 x10 x11) := by simp [h1]
    obtain ⟨a9, a10, a11, h2⟩ := word_ok (w := "always") h hm hn hi hj hc (.inl rfl) s tn way x9 x10 x11 (nx r 2).2 (decide ((nx r 2).1 = 0))
    obtain ⟨b9, b10, b11, h3⟩ := word_ok (w := "sometimes") h hm hn hi hj hc (.inr rfl) s tn way a9 a10 a11 (nx r 2).2 (decide ((nx r 2).1 = 0))
    have e2 : sFor (itL (vFz (vLst [(vC (.str "always")), (vC (.str "sometimes"))]))) (bName 8) L13_0 (evL s (nx r 2).2 tn (some (.fz (.int i))) t way (some (.fz (.int j))) (some (.fz (.bl (decide ((nx r 2).1 = 0))))) x8 x9 x10 x11) = some (.nx, ev13 s (nx r 2).2 tn i t way j (decide ((nx r 2).1 = 0)) (some (.fz (.str "sometimes"))) b9 b10 b11) := by
      simp only [ev13] at h2 h3
      simp [h2, h3]
    have e3 := seq_nx e1 e2
    have e4 : (tVal (vBin pNotN (vP (gIx (gIx (gN 4) (gN 3)) (gN 6))) (vC .non))) (evL s r tn (some (.fz (.int i))) t way (some (.fz (.int j))) x7 x8 x9 x10 x11) = some (true, evL s r tn (some (.fz (.int i))) t way (some (.fz (.int j))) x7 x8 x9 x10 x11) := by simp [-gIx, c1, hc]
    have e5 : L13_1 (evL s r tn (some (.fz (.int i))) t way (some (.fz (.int j))) x7 x8 x9 x10 x11) = some (.nx, ev13 s (nx r 2).2 tn i t way j (decide ((nx r 2).1 = 0)) (some (.fz (.str "sometimes"))) b9 b10 b11) := by
      rw [L13_1, sIf, e4]
      exact e3
    exact ⟨(nx r 2).2, some (.fz (.bl (decide ((nx r 2).1 = 0)))), some (.fz (.str "sometimes")), b9, b10, b11, e5⟩
theorem line_ok (h : Tab m n t) (hm : m ≤ 60) (hn : n ≤ 60) (hi : i < m) (s tn way x6 x7 x8 x9 x10 x11 : Option O) (r : Reel) :
    ∃ r' y6 y7 y8 y9 y10 y11, L13_2 (evL s r tn (some (.fz (.int i))) t way x6 x7 x8 x9 x10 x11) = some (.nx, evL s r' tn (some (.fz (.int i))) t way y6 y7 y8 y9 y10 y11) := by
  obtain ⟨ε', h1, r', y6, y7, y8, y9, y10, y11, h2, rfl⟩ := for_list (b := bName 6) (body := L13_1) (fun k : Nat => D.int k) (fun ks ε => ∃ r' y6 y7 y8 y9 y10 y11, (∀ k ∈ ks, k < n) ∧ ε = evL s r' tn (some (.fz (.int i))) t way y6 y7 y8 y9 y10 y11)
    (fun k ks ε hε => by
      obtain ⟨r', y6, y7, y8, y9, y10, y11, h2, rfl⟩ := hε
      obtain ⟨r2, z7, z8, z9, z10, z11, h3⟩ := place_ok h hm hn hi (h2 k (by simp)) s tn way y7 y8 y9 y10 y11 r'
      exact ⟨_, _, rfl, .inl h3, r2, _, _, _, _, _, _, fun x hx => h2 x (by simp [hx]), rfl⟩) (List.range n) _ ⟨r, x6, x7, x8, x9, x10, x11, fun l hl => List.mem_range.1 hl, rfl⟩
  have h5 := it_row h (by omega) (by omega) (a := gN 4) (ε := evL s r tn (some (.fz (.int i))) t way x6 x7 x8 x9 x10 x11) rfl
  refine ⟨r', y6, y7, y8, y9, y10, y11, ?_⟩
  rw [L13_2, sFor, h5]
  exact h1
theorem all_ok (h : Tab m n t) (hm : m ≤ 60) (hn : n ≤ 60) (s tn way x3 x6 x7 x8 x9 x10 x11 : Option O) (r : Reel) :
    ∃ r' y3 y6 y7 y8 y9 y10 y11, sFor (itR1 (vPrim pLen [(vP (gN 4))])) (bName 3) L13_2 (evL s r tn x3 t way x6 x7 x8 x9 x10 x11) = some (.nx, evL s r' tn y3 t way y6 y7 y8 y9 y10 y11) := by
  obtain ⟨ε', h1, r', y3, y6, y7, y8, y9, y10, y11, h2, rfl⟩ := for_list (b := bName 3) (body := L13_2) (fun k : Nat => D.int k) (fun ks ε => ∃ r' y3 y6 y7 y8 y9 y10 y11, (∀ k ∈ ks, k < m) ∧ ε = evL s r' tn y3 t way y6 y7 y8 y9 y10 y11)
    (fun k ks ε hε => by
      obtain ⟨r', y3, y6, y7, y8, y9, y10, y11, h2, rfl⟩ := hε
      obtain ⟨r2, z6, z7, z8, z9, z10, z11, h3⟩ := line_ok h hm hn (h2 k (by simp)) s tn way y6 y7 y8 y9 y10 y11 r'
      exact ⟨_, _, rfl, .inl h3, r2, _, _, _, _, _, _, _, fun x hx => h2 x (by simp [hx]), rfl⟩) (List.range m) _ ⟨r, x3, x6, x7, x8, x9, x10, x11, fun l hl => List.mem_range.1 hl, rfl⟩
  have h5 := it_tab h (by omega) (a := gN 4) (ε := evL s r tn x3 t way x6 x7 x8 x9 x10 x11) rfl
  refine ⟨r', y3, y6, y7, y8, y9, y10, y11, ?_⟩
  rw [sFor, h5]
  exact h1
theorem turn_ok (s tn x3 x4 x5 x6 x7 x8 x9 x10 x11 : Option O) (r : Reel) : ∃ r' y3 y4 y5 y6 y7 y8 y9 y10 y11, L13_3 [s, some r.o, tn, x3, x4, x5, x6, x7, x8, x9, x10, x11] = some (.nx, [s, some (Reel.o r'), tn, y3, y4, y5, y6, y7, y8, y9, y10, y11]) := by
  have h1 := nx_run r 2 (by decide) (by decide)
  obtain ⟨m, n, t, r1, a1, a2, a3, a4, ht, h2⟩ := table_ex (nx r 2).2 (decide ((nx r 2).1 = 0))
  obtain ⟨t', way, r2, ht', h3⟩ := cheap_ok ht (by omega) (by omega) r1
  obtain ⟨r', y3, y6, y7, y8, y9, y10, y11, h4⟩ := all_ok ht' (by omega) (by omega) s tn (some (.fz way)) x3 x6 x7 x8 x9 x10 x11 r2
  refine ⟨r', y3, some (.fz (tabD t')), some (.fz way), y6, y7, y8, y9, y10, y11, seq_nx (ε1 := evL s r2 tn x3 t' (some (.fz way)) x6 x7 x8 x9 x10 x11) ?_ h4⟩
  simp [h1, h2, h3]
theorem law_true (ns : List Int) (h : ns.length ≤ 63) : ∃ fin, F13 [.fz (.scr ns)] = some (.fz (.bl true), fin) := by
  obtain ⟨r, h1⟩ := reel_ex ns h
  obtain ⟨r1, y3, y4, y5, y6, y7, y8, y9, y10, y11, h2⟩ := turn_ok (some (.fz (.scr ns))) (some (.fz (.int 0))) none none none none none none none none none r
  obtain ⟨r2, z3, z4, z5, z6, z7, z8, z9, z10, z11, h3⟩ := turn_ok (some (.fz (.scr ns))) (some (.fz (.int 1))) y3 y4 y5 y6 y7 y8 y9 y10 y11 r1
  refine ⟨[none], ?_⟩
  have h5 : rng 0 2 = [.int 0, .int 1] := rfl
  simp [F13, B13, h1, h5, h2, h3]
end
end
end K32


set_option Elab.async false
set_option linter.all false
set_option maxRecDepth 100000
set_option maxHeartbeats 4000000
namespace K32
noncomputable section
open PySem PySem.Spec PyProof.Rows L2 VS
theorem all_mk {l : PySem.W.OpenLaw} {w : World} {K : PySem.W.Frag} {h : Heap} {mg : Str → Option Value} {fa : Addr} (X : K.In h) (G : h.Ns mainGlobals mg) (hfa : mg "law" = some (.ref fa))
    {f6 : Addr} {od6 an6 : Option Addr} {sl6 : Array (Option Value)} {oc6 kV6 dc6 pm6 cd6 ct6 : Value} {f7 : Addr} {od7 an7 : Option Addr} {sl7 : Array (Option Value)} {oc7 kV7 dc7 pm7 cd7 ct7 : Value} {f8 : Addr} {od8 an8 : Option Addr} {sl8 : Array (Option Value)} {oc8 kV8 dc8 pm8 cd8 ct8 : Value} {f12 : Addr} {od12 an12 : Option Addr} {sl12 : Array (Option Value)} {oc12 kV12 dc12 pm12 cd12 ct12 : Value} {f9 : Addr} {od9 an9 : Option Addr} {sl9 : Array (Option Value)} {oc9 kV9 dc9 pm9 cd9 ct9 : Value} {f11 : Addr} {od11 an11 : Option Addr} {sl11 : Array (Option Value)} {oc11 kV11 dc11 pm11 cd11 ct11 : Value} {f1 : Addr} {od1 an1 : Option Addr} {sl1 : Array (Option Value)} {oc1 kV1 dc1 pm1 cd1 ct1 : Value} {f2 : Addr} {od2 an2 : Option Addr} {sl2 : Array (Option Value)} {oc2 kV2 dc2 pm2 cd2 ct2 : Value} {f3 : Addr} {od3 an3 : Option Addr} {sl3 : Array (Option Value)} {oc3 kV3 dc3 pm3 cd3 ct3 : Value} {f4 : Addr} {od4 an4 : Option Addr} {sl4 : Array (Option Value)} {oc4 kV4 dc4 pm4 cd4 ct4 : Value} {f10 : Addr} {od10 an10 : Option Addr} {sl10 : Array (Option Value)} {oc10 kV10 dc10 pm10 cd10 ct10 : Value} {f13 : Addr} {od13 an13 : Option Addr} {sl13 : Array (Option Value)} {oc13 kV13 dc13 pm13 cd13 ct13 : Value}
    (a6 : PySem.W.nsIn K mainGlobals "_law_flow" = some (some (.ref f6))) (l6 : K.lookup f6 = some ⟨oc6, od6, .func (PySem.W.fnOf "_law_flow" "_law_flow" (defArgs s6) (defBody s6) (defScope s6) .none kV6 dc6 pm6 an6 cd6 ct6), sl6⟩) (c6 : PySem.W.codeIn K cd6 "_law_flow" = true) (k6 : PySem.W.keepIn K (.ref f6) = true)
    (a7 : PySem.W.nsIn K mainGlobals "_law_draw" = some (some (.ref f7))) (l7 : K.lookup f7 = some ⟨oc7, od7, .func (PySem.W.fnOf "_law_draw" "_law_draw" (defArgs s7) (defBody s7) (defScope s7) .none kV7 dc7 pm7 an7 cd7 ct7), sl7⟩) (c7 : PySem.W.codeIn K cd7 "_law_draw" = true) (k7 : PySem.W.keepIn K (.ref f7) = true)
    (a8 : PySem.W.nsIn K mainGlobals "_law_pick" = some (some (.ref f8))) (l8 : K.lookup f8 = some ⟨oc8, od8, .func (PySem.W.fnOf "_law_pick" "_law_pick" (defArgs s8) (defBody s8) (defScope s8) .none kV8 dc8 pm8 an8 cd8 ct8), sl8⟩) (c8 : PySem.W.codeIn K cd8 "_law_pick" = true) (k8 : PySem.W.keepIn K (.ref f8) = true)
    (a12 : PySem.W.nsIn K mainGlobals "_law_turned_cheap" = some (some (.ref f12))) (l12 : K.lookup f12 = some ⟨oc12, od12, .func (PySem.W.fnOf "_law_turned_cheap" "_law_turned_cheap" (defArgs s12) (defBody s12) (defScope s12) .none kV12 dc12 pm12 an12 cd12 ct12), sl12⟩) (c12 : PySem.W.codeIn K cd12 "_law_turned_cheap" = true) (k12 : PySem.W.keepIn K (.ref f12) = true)
    (a9 : PySem.W.nsIn K mainGlobals "_law_table" = some (some (.ref f9))) (l9 : K.lookup f9 = some ⟨oc9, od9, .func (PySem.W.fnOf "_law_table" "_law_table" (defArgs s9) (defBody s9) (defScope s9) .none kV9 dc9 pm9 an9 cd9 ct9), sl9⟩) (c9 : PySem.W.codeIn K cd9 "_law_table" = true) (k9 : PySem.W.keepIn K (.ref f9) = true)
    (a11 : PySem.W.nsIn K mainGlobals "_law_bars" = some (some (.ref f11))) (l11 : K.lookup f11 = some ⟨oc11, od11, .func (PySem.W.fnOf "_law_bars" "_law_bars" (defArgs s11) (defBody s11) (defScope s11) .none kV11 dc11 pm11 an11 cd11 ct11), sl11⟩) (c11 : PySem.W.codeIn K cd11 "_law_bars" = true) (k11 : PySem.W.keepIn K (.ref f11) = true)
    (a1 : PySem.W.nsIn K mainGlobals "_bars" = some (some (.ref f1))) (l1 : K.lookup f1 = some ⟨oc1, od1, .func (PySem.W.fnOf "_bars" "_bars" (defArgs s1) (defBody s1) (defScope s1) .none kV1 dc1 pm1 an1 cd1 ct1), sl1⟩) (c1 : PySem.W.codeIn K cd1 "_bars" = true) (k1 : PySem.W.keepIn K (.ref f1) = true)
    (a2 : PySem.W.nsIn K mainGlobals "full_four" = some (some (.ref f2))) (l2 : K.lookup f2 = some ⟨oc2, od2, .func (PySem.W.fnOf "full_four" "full_four" (defArgs s2) (defBody s2) (defScope s2) .none kV2 dc2 pm2 an2 cd2 ct2), sl2⟩) (c2 : PySem.W.codeIn K cd2 "full_four" = true) (k2 : PySem.W.keepIn K (.ref f2) = true)
    (a3 : PySem.W.nsIn K mainGlobals "always_full" = some (some (.ref f3))) (l3 : K.lookup f3 = some ⟨oc3, od3, .func (PySem.W.fnOf "always_full" "always_full" (defArgs s3) (defBody s3) (defScope s3) .none kV3 dc3 pm3 an3 cd3 ct3), sl3⟩) (c3 : PySem.W.codeIn K cd3 "always_full" = true) (k3 : PySem.W.keepIn K (.ref f3) = true)
    (a4 : PySem.W.nsIn K mainGlobals "sometimes_full" = some (some (.ref f4))) (l4 : K.lookup f4 = some ⟨oc4, od4, .func (PySem.W.fnOf "sometimes_full" "sometimes_full" (defArgs s4) (defBody s4) (defScope s4) .none kV4 dc4 pm4 an4 cd4 ct4), sl4⟩) (c4 : PySem.W.codeIn K cd4 "sometimes_full" = true) (k4 : PySem.W.keepIn K (.ref f4) = true)
    (a10 : PySem.W.nsIn K mainGlobals "_law_is_whole" = some (some (.ref f10))) (l10 : K.lookup f10 = some ⟨oc10, od10, .func (PySem.W.fnOf "_law_is_whole" "_law_is_whole" (defArgs s10) (defBody s10) (defScope s10) .none kV10 dc10 pm10 an10 cd10 ct10), sl10⟩) (c10 : PySem.W.codeIn K cd10 "_law_is_whole" = true) (k10 : PySem.W.keepIn K (.ref f10) = true)
    (a13 : PySem.W.nsIn K mainGlobals "law" = some (some (.ref f13))) (l13 : K.lookup f13 = some ⟨oc13, od13, .func (PySem.W.fnOf "law" "law" (defArgs s13) (defBody s13) (defScope s13) .none kV13 dc13 pm13 an13 cd13 ct13), sl13⟩) (c13 : PySem.W.codeIn K cd13 "law" = true) (k13 : PySem.W.keepIn K (.ref f13) = true)
    (z_abs : PySem.W.nsIn K mainGlobals "abs" = some none) (z_bool : PySem.W.nsIn K mainGlobals "bool" = some none) (z_int : PySem.W.nsIn K mainGlobals "int" = some none) (z_isinstance : PySem.W.nsIn K mainGlobals "isinstance" = some none) (z_len : PySem.W.nsIn K mainGlobals "len" = some none) (z_min : PySem.W.nsIn K mainGlobals "min" = some none) (z_range : PySem.W.nsIn K mainGlobals "range" = some none) (z_tuple : PySem.W.nsIn K mainGlobals "tuple" = some none) :
    ∃ fd : FuncData, (∀ (s : Shared) (v : Value), BindsTo s fd ⟨[v], []⟩ [("script", v)]) ∧ ∀ base : Heap, K.In base → base.Ns mainGlobals mg → FnOk l.prog w K mg base CX0 4 fa fd ["script"] (spF K [] 1 F13) := by
  have e := hfa.symm.trans (PySem.W.mg_of X G a13)
  cases e
  have Z : TX K mg (fun i => ([0, f1, f2, f3, f4, 0, f6, f7, f8, f9, f10, f11, f12, fa] : List Addr).getD i 0) (fun i => ([PySem.W.fnOf "_law_flow" "_law_flow" (defArgs s6) (defBody s6) (defScope s6) .none kV6 dc6 pm6 an6 cd6 ct6, PySem.W.fnOf "_bars" "_bars" (defArgs s1) (defBody s1) (defScope s1) .none kV1 dc1 pm1 an1 cd1 ct1, PySem.W.fnOf "full_four" "full_four" (defArgs s2) (defBody s2) (defScope s2) .none kV2 dc2 pm2 an2 cd2 ct2, PySem.W.fnOf "always_full" "always_full" (defArgs s3) (defBody s3) (defScope s3) .none kV3 dc3 pm3 an3 cd3 ct3, PySem.W.fnOf "sometimes_full" "sometimes_full" (defArgs s4) (defBody s4) (defScope s4) .none kV4 dc4 pm4 an4 cd4 ct4, PySem.W.fnOf "_law_flow" "_law_flow" (defArgs s6) (defBody s6) (defScope s6) .none kV6 dc6 pm6 an6 cd6 ct6, PySem.W.fnOf "_law_flow" "_law_flow" (defArgs s6) (defBody s6) (defScope s6) .none kV6 dc6 pm6 an6 cd6 ct6, PySem.W.fnOf "_law_draw" "_law_draw" (defArgs s7) (defBody s7) (defScope s7) .none kV7 dc7 pm7 an7 cd7 ct7, PySem.W.fnOf "_law_pick" "_law_pick" (defArgs s8) (defBody s8) (defScope s8) .none kV8 dc8 pm8 an8 cd8 ct8, PySem.W.fnOf "_law_table" "_law_table" (defArgs s9) (defBody s9) (defScope s9) .none kV9 dc9 pm9 an9 cd9 ct9, PySem.W.fnOf "_law_is_whole" "_law_is_whole" (defArgs s10) (defBody s10) (defScope s10) .none kV10 dc10 pm10 an10 cd10 ct10, PySem.W.fnOf "_law_bars" "_law_bars" (defArgs s11) (defBody s11) (defScope s11) .none kV11 dc11 pm11 an11 cd11 ct11, PySem.W.fnOf "_law_turned_cheap" "_law_turned_cheap" (defArgs s12) (defBody s12) (defScope s12) .none kV12 dc12 pm12 an12 cd12 ct12, PySem.W.fnOf "law" "law" (defArgs s13) (defBody s13) (defScope s13) .none kV13 dc13 pm13 an13 cd13 ct13] : List FuncData).getD i (PySem.W.fnOf "_law_flow" "_law_flow" (defArgs s6) (defBody s6) (defScope s6) .none kV6 dc6 pm6 an6 cd6 ct6)) :=
    { F6 := fun_mk l6 c6 k6
      b6 := (fun_mk (st := s6) l6 c6 k6).binds (ps := p6) fun _ _ _ _ _ _ us hl => match us, hl with | [_], _ => rfl
      g6 := PySem.W.mg_of X G a6
      F7 := fun_mk l7 c7 k7
      b7 := (fun_mk (st := s7) l7 c7 k7).binds (ps := p7) fun _ _ _ _ _ _ us hl => match us, hl with | [_, _], _ => rfl
      g7 := PySem.W.mg_of X G a7
      F8 := fun_mk l8 c8 k8
      b8 := (fun_mk (st := s8) l8 c8 k8).binds (ps := p8) fun _ _ _ _ _ _ us hl => match us, hl with | [_, _], _ => rfl
      g8 := PySem.W.mg_of X G a8
      F12 := fun_mk l12 c12 k12
      b12 := (fun_mk (st := s12) l12 c12 k12).binds (ps := p12) fun _ _ _ _ _ _ us hl => match us, hl with | [_, _], _ => rfl
      g12 := PySem.W.mg_of X G a12
      F9 := fun_mk l9 c9 k9
      b9 := (fun_mk (st := s9) l9 c9 k9).binds (ps := p9) fun _ _ _ _ _ _ us hl => match us, hl with | [_, _], _ => rfl
      g9 := PySem.W.mg_of X G a9
      F11 := fun_mk l11 c11 k11
      b11 := (fun_mk (st := s11) l11 c11 k11).binds (ps := p11) fun _ _ _ _ _ _ us hl => match us, hl with | [_, _, _, _], _ => rfl
      g11 := PySem.W.mg_of X G a11
      F1 := fun_mk l1 c1 k1
      b1 := (fun_mk (st := s1) l1 c1 k1).binds (ps := p1) fun _ _ _ _ _ _ us hl => match us, hl with | [_, _, _, _], _ => rfl
      g1 := PySem.W.mg_of X G a1
      F2 := fun_mk l2 c2 k2
      b2 := (fun_mk (st := s2) l2 c2 k2).binds (ps := p2) fun _ _ _ _ _ _ us hl => match us, hl with | [_, _, _, _], _ => rfl
      g2 := PySem.W.mg_of X G a2
      F3 := fun_mk l3 c3 k3
      b3 := (fun_mk (st := s3) l3 c3 k3).binds (ps := p3) fun _ _ _ _ _ _ us hl => match us, hl with | [_, _, _], _ => rfl
      g3 := PySem.W.mg_of X G a3
      F4 := fun_mk l4 c4 k4
      b4 := (fun_mk (st := s4) l4 c4 k4).binds (ps := p4) fun _ _ _ _ _ _ us hl => match us, hl with | [_, _, _], _ => rfl
      g4 := PySem.W.mg_of X G a4
      F10 := fun_mk l10 c10 k10
      b10 := (fun_mk (st := s10) l10 c10 k10).binds (ps := p10) fun _ _ _ _ _ _ us hl => match us, hl with | [_], _ => rfl
      g10 := PySem.W.mg_of X G a10
      F13 := fun_mk l13 c13 k13
      b13 := (fun_mk (st := s13) l13 c13 k13).binds (ps := p13) fun _ _ _ _ _ _ us hl => match us, hl with | [_], _ => rfl
      g13 := PySem.W.mg_of X G a13
      k2_word_j_i_table := ⟨fun s us ws _ h1 h2 => match us, ws, h1, h2 with | [], [_, _, _, _], _, _ => .of_eq rfl, fun r rz => vals_perm (Vals.append r rz) [3, 2, 1, 0]⟩
      k3_j_i_table := ⟨fun s us ws _ h1 h2 => match us, ws, h1, h2 with | [], [_, _, _], _, _ => .of_eq rfl, fun r rz => vals_perm (Vals.append r rz) [2, 1, 0]⟩
      k4_j_i_table := ⟨fun s us ws _ h1 h2 => match us, ws, h1, h2 with | [], [_, _, _], _, _ => .of_eq rfl, fun r rz => vals_perm (Vals.append r rz) [2, 1, 0]⟩
      z_abs := PySem.W.mg_none_of X G z_abs
      z_bool := PySem.W.mg_none_of X G z_bool
      z_int := PySem.W.mg_none_of X G z_int
      z_isinstance := PySem.W.mg_none_of X G z_isinstance
      z_len := PySem.W.mg_none_of X G z_len
      z_min := PySem.W.mg_none_of X G z_min
      z_range := PySem.W.mg_none_of X G z_range
      z_tuple := PySem.W.mg_none_of X G z_tuple }
  exact ⟨PySem.W.fnOf "law" "law" (defArgs s13) (defBody s13) (defScope s13) .none kV13 dc13 pm13 an13 cd13 ct13, fun s v => .of_eq rfl, fun base _ _ => ok_13 Z⟩
end
end K32
open PySem PySem.W PyProof.Rows
set_option maxHeartbeats 0 in
theorem PySem.Challenge.cw_anyamount_k32_full_ways_holds : PySem.Challenge.rw_anyamount_k32_full_ways.Holds := by
  w_on; o_law; k_head; (case hw => w_witness2)
  k_fill
  refine L2.walk_of (l := PySem.Challenge.rw_anyamount_k32_full_ways) (n := 63) (k := 4) (x := "script") (CX := fun _ => L2.CX0) (sp := fun w => VS.spF _ [] 1 K32.F13) rfl (by decide) rfl ⟨rfl, by decide, by decide⟩ (fun w h Y => PySem.W.kIn_of Y) ?F (fun w H a ns hl _ hS => (K32.law_true ns hl).elim fun fin h => VS.law_sp h hS) (fun _ _ _ _ _ h => h)
  case F =>
    intro w mg fa h KX G hmg
    refine' K32.all_mk KX G hmg ?a6 ?l6 ?c6 ?k6 ?a7 ?l7 ?c7 ?k7 ?a8 ?l8 ?c8 ?k8 ?a12 ?l12 ?c12 ?k12 ?a9 ?l9 ?c9 ?k9 ?a11 ?l11 ?c11 ?k11 ?a1 ?l1 ?c1 ?k1 ?a2 ?l2 ?c2 ?k2 ?a3 ?l3 ?c3 ?k3 ?a4 ?l4 ?c4 ?k4 ?a10 ?l10 ?c10 ?k10 ?a13 ?l13 ?c13 ?k13 ?z_abs ?z_bool ?z_int ?z_isinstance ?z_len ?z_min ?z_range ?z_tuple
    (case a6 => k_is); (case l6 => k_is); (case c6 => k_is); (case k6 => k_is); (case a7 => k_is); (case l7 => k_is); (case c7 => k_is); (case k7 => k_is); (case a8 => k_is); (case l8 => k_is); (case c8 => k_is); (case k8 => k_is); (case a12 => k_is); (case l12 => k_is); (case c12 => k_is); (case k12 => k_is); (case a9 => k_is); (case l9 => k_is); (case c9 => k_is); (case k9 => k_is); (case a11 => k_is); (case l11 => k_is); (case c11 => k_is); (case k11 => k_is); (case a1 => k_is); (case l1 => k_is); (case c1 => k_is); (case k1 => k_is); (case a2 => k_is); (case l2 => k_is); (case c2 => k_is); (case k2 => k_is); (case a3 => k_is); (case l3 => k_is); (case c3 => k_is); (case k3 => k_is); (case a4 => k_is); (case l4 => k_is); (case c4 => k_is); (case k4 => k_is); (case a10 => k_is); (case l10 => k_is); (case c10 => k_is); (case k10 => k_is); (case a13 => k_is); (case l13 => k_is); (case c13 => k_is); (case k13 => k_is); (case z_abs => k_is); (case z_bool => k_is); (case z_int => k_is); (case z_isinstance => k_is); (case z_len => k_is); (case z_min => k_is); (case z_range => k_is); (case z_tuple => k_is)

