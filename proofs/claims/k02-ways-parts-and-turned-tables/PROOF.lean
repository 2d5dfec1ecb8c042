import PyProof.Rows.All
import HandS.ForMost
import HandS.AnyAll
import HandS.Wide
import HandS.TupAny
import HandS.Conv
import HandS.IsInst
import HandS.Flow
import HandS.Defaults
import HandS.NoneIn
import HandS.Deep
import HandS.GenList
import HandS.Lambda
import PyProof.SumAny
import HandS.NamedTupSort
import HandS.Star
import HandS.Head0
import HandS.Head1
import HandS.Head2
import HandS.HeadEnd
import HandS.HeadHook1
import HandS.HeadHook2
import HandS.HeadHook3
import HandS.HeadHook4
import HandS.HeadWalk
import HandS.Iter
import HandS.Zip
import PyProof.EnumMake
import PyProof.Draws
import HandS.Flt
import KE.DataMinMax
import KE.KTupSum
import HandS.SetFor
import HandS.Strs
import HandS.TupMul
import PySem.Challenge.RW_anyamount_k02_ways_parts_and_turned_tabl
set_option Elab.async false
set_option linter.all false
/-! VS0: plain data D, data with owned lists O, how they lie in the abstract heap; states and their steps. -/
namespace VS
open PySem PySem.Spec PyProof.Rows L2

/-- plain data: what is never changed again -/
inductive D where
  | non | bl (b : Bool) | int (i : Int) | str (s : Str) | tup (l : List D) | lst (l : List D) | scr (ns : List Int)

/-- data, or a list that one place alone holds -/
inductive O where
  | fz (d : D) | own (l : List O)

mutual
@[simp] def O.val : O → D
  | .fz d => d
  | .own l => .lst (O.vals l)
@[simp] def O.vals : List O → List D
  | [] => []
  | o :: l => o.val :: O.vals l
end
theorem O.vals_map : ∀ l : List O, O.vals l = l.map O.val
  | [] => rfl
  | o :: l => by rw [O.vals, List.map_cons, O.vals_map l]

theorem D.ind {P : D → Prop} (h0 : P .non) (h1 : ∀ b, P (.bl b)) (h2 : ∀ i, P (.int i)) (h3 : ∀ s, P (.str s)) (h4 : ∀ l, (∀ d ∈ l, P d) → P (.tup l)) (h5 : ∀ l, (∀ d ∈ l, P d) → P (.lst l)) (h6 : ∀ ns, P (.scr ns)) : ∀ d, P d := by
  intro d
  refine D.rec (motive_1 := P) (motive_2 := fun l => ∀ d ∈ l, P d) h0 h1 h2 h3 h4 h5 h6 ?_ ?_ d
  · intro d hd; cases hd
  · intro x l hx hl d hd
    rcases List.mem_cons.mp hd with rfl | h
    · exact hx
    · exact hl d h
theorem O.ind {P : O → Prop} (h0 : ∀ d, P (.fz d)) (h1 : ∀ l, (∀ o ∈ l, P o) → P (.own l)) : ∀ o, P o := by
  intro o
  refine O.rec (motive_1 := P) (motive_2 := fun l => ∀ o ∈ l, P o) h0 h1 ?_ ?_ o
  · intro d hd; cases hd
  · intro x l hx hl d hd
    rcases List.mem_cons.mp hd with rfl | h
    · exact hx
    · exact hl d h

section
variable (K : PySem.W.Frag) (H : Hp) (A : List Addr)
/-- a list that was there (the script) -/
def ScrAt (a : Addr) (xs : List V) : Prop := (H a = some (.lst xs) ∧ a ∉ A) ∨ (∃ o, H a = some (.frz o (.lst xs))) ∨
    ∃ (o : Obj) (its : Array Value) (n : Nat), K.lookup a = some o ∧ o.cls = .type "list" ∧ o.dict = none ∧ o.data = .seq its n ∧ its.size ≤ sizeLine ∧ Vals xs its.toList
mutual
/-- v is the datum d; no list in it stands at A -/
def Rep : D → V → Prop
  | .non, v => v = .non
  | .bl b, v => v = .bl b
  | .int i, v => v = .int i
  | .str s, v => v = .str s
  | .tup l, v => ∃ a vs, v = .ref a ∧ SqT K H a vs ∧ Reps l vs
  | .lst l, v => ∃ a vs, v = .ref a ∧ H a = some (.lst vs) ∧ a ∉ A ∧ Reps l vs
  | .scr ns, v => ∃ a, v = .ref a ∧ ScrAt K H A a (ns.map V.int)
def Reps : List D → List V → Prop
  | [], vs => vs = []
  | d :: l, vs => ∃ v r, vs = v :: r ∧ Rep d v ∧ Reps l r
end
mutual
/-- v is o, its owned lists stand at F -/
def RepO : O → V → List Addr → Prop
  | .fz d, v, F => F = [] ∧ Rep K H A d v
  | .own l, v, F => ∃ a vs F', v = .ref a ∧ H a = some (.lst vs) ∧ F = a :: F' ∧ RepOs l vs F'
def RepOs : List O → List V → List Addr → Prop
  | [], vs, F => vs = [] ∧ F = []
  | o :: l, vs, F => ∃ v r F1 F2, vs = v :: r ∧ F = F1 ++ F2 ∧ RepO o v F1 ∧ RepOs l r F2
end
/-- the slots -/
def RepE : List (Option O) → List (Option V) → List Addr → Prop
  | [], σ, F => σ = [] ∧ F = []
  | none :: ε, σ, F => ∃ x r, σ = x :: r ∧ RepE ε r F
  | some o :: ε, σ, F => ∃ v r F1 F2, σ = some v :: r ∧ F = F1 ++ F2 ∧ RepO K H A o v F1 ∧ RepE ε r F2
end

/-- a code object that a run has made: the very object -/
def codO (o : Obj) : HO := .frz o (.own 0)
/-- its table -/
def tabO (o : Obj) : Addr := match o.data with
  | .fields vs => (match vs.getD 11 .none with
    | .ref P => P
    | _ => 0)
  | _ => 0
/-- what a code object looks like -/
def CodO (o : Obj) (c : Addr) : Prop := ∃ vs file tf flags tg inF text tt, o.cls = .type "code" ∧ o.data = .fields vs ∧ vs[11]? = some (.ref (tabO o)) ∧ vs.getD 11 .none = .ref (tabO o) ∧ vs.getD 18 .none = .str file tf ∧
    vs.getD 7 .none = .int flags tg ∧ vs.getD 9 .none = .bool inF ∧ vs.getD 10 .none = .int text tt ∧ c ≠ tabO o
/-- a code object known: where it stands, its table, whether a run has made it -/
structure TK where
  c : Addr
  P : Addr
  dyn : Bool
/-- no table -/
def NT (o : HO) : Prop := ∀ ps, o ≠ .tbl ps
/-- what stays when H becomes H' and the lists at M (and tables) may change -/
def Keep (T : List TK) (H : Hp) (M : List Addr) (H' : Hp) : Prop := ∀ b o, H b = some o → b ∉ M → NT o → H' b = some o
/-- the tables in S and what stands in them is known -/
def Cl (S : Addr → Prop) (H : Hp) : Prop := ∀ P, S P → ∃ ps, H P = some (.tbl ps) ∧ TriplesOk ps.toList ∧ ∀ pos cv, codeAmong pos ps.toList = some cv → ∃ c o, cv = .ref c ∧ H c = some (codO o) ∧ CodO o c ∧ S (tabO o)
def TabsS (S : Addr → Prop) : List TK → Hp → Prop
  | [], _ => True
  | t :: T, H => TabsS S T H ∧ S t.P ∧ (t.dyn = true → ∃ o t2 pos ps, H t.c = some (codO o) ∧ CodO o t.c ∧ t.P = tabO o ∧ t2 ∈ T ∧ H t2.P = some (.tbl ps) ∧ codeAmong pos ps.toList = some (.ref t.c))
def Tabs (T : List TK) (H : Hp) : Prop := ∃ S, Cl S H ∧ TabsS S T H

section
variable {K : PySem.W.Frag} {T : List TK} {H H' H'' : Hp} {A A' M M' R F : List Addr} {S S' : Addr → Prop}

theorem Tabs.nlst (t : Tabs T H) {a : Addr} {vs : List V} (h : H a = some (.lst vs)) : NT (.lst vs) := fun ps e => by cases e
theorem Tabs.ntup (t : Tabs T H) {a : Addr} {vs : List V} (h : H a = some (.tup vs)) : NT (.tup vs) := fun ps e => by cases e
theorem Tabs.nfrz (t : Tabs T H) {a : Addr} {ob : Obj} {u : HO} (h : H a = some (.frz ob u)) : NT (.frz ob u) := fun ps e => by cases e
theorem Cl.kept (c : Cl S H) (k1 : ∀ P ps, H P = some (.tbl ps) → H' P = some (.tbl ps)) (k2 : ∀ b o, H b = some (codO o) → H' b = some (codO o)) : Cl S H' := fun P hP => by
  obtain ⟨ps, h1, h2, h3⟩ := c P hP
  refine ⟨ps, k1 _ _ h1, h2, fun pos cv h => ?_⟩
  obtain ⟨c, o, e, g1, g2⟩ := h3 pos cv h
  exact ⟨c, o, e, k2 _ _ g1, g2⟩
theorem TabsS.kept (k1 : ∀ P ps, H P = some (.tbl ps) → H' P = some (.tbl ps)) (k2 : ∀ b o, H b = some (codO o) → H' b = some (codO o)) : ∀ {T : List TK}, TabsS S T H → TabsS S T H'
  | [], _ => trivial
  | t :: T, ⟨h1, h2, h3⟩ => ⟨TabsS.kept k1 k2 h1, h2, fun d => by
      obtain ⟨o, t2, pos, ps, g1, g2, g3, g4, g5, g6⟩ := h3 d
      exact ⟨o, t2, pos, ps, k2 _ _ g1, g2, g3, g4, k1 _ _ g5, g6⟩⟩
theorem Tabs.kept (t : Tabs T H) (k1 : ∀ P ps, H P = some (.tbl ps) → H' P = some (.tbl ps)) (k2 : ∀ b o, H b = some (codO o) → H' b = some (codO o)) : Tabs T H' :=
  let ⟨S, c, h⟩ := t; ⟨S, c.kept k1 k2, h.kept k1 k2⟩
theorem Tabs.tail {t : TK} (h : Tabs (t :: T) H) : Tabs T H := let ⟨S, c, z⟩ := h; ⟨S, c, z.1⟩
theorem TabsS.mem : ∀ {T : List TK} {t : TK}, TabsS S T H → t ∈ T → S t.P
  | u :: T, t, ⟨h1, h2, _⟩, h => by
    rcases List.mem_cons.mp h with rfl | h
    · exact h2
    · exact TabsS.mem h1 h
theorem TabsS.dyn : ∀ {T : List TK} {t : TK}, TabsS S T H → t ∈ T → t.dyn = true → ∃ o, H t.c = some (codO o) ∧ CodO o t.c ∧ t.P = tabO o
  | u :: T, t, ⟨h1, h2, h3⟩, h, d => by
    rcases List.mem_cons.mp h with rfl | h
    · obtain ⟨o, t2, pos, ps, g1, g2, g3, _⟩ := h3 d
      exact ⟨o, g1, g2, g3⟩
    · exact TabsS.dyn h1 h d
theorem codO_inj {o u : Obj} (h : codO o = codO u) : o = u := by
  unfold codO at h
  cases h
  rfl
theorem codeAmong_app {pos : Pos} {c : Value} (l m : List Value) (h : TriplesOk l) (hc : codeAmong pos l = some c) : codeAmong pos (l ++ m) = some c := by
  fun_induction TriplesOk l with
  | case1 => simp [codeAmong] at hc
  | case2 a t b u x rest ih =>
    simp only [List.cons_append, codeAmong] at hc ⊢
    split at hc
    · rename_i q; rw [if_pos q]; exact hc
    · rename_i q; rw [if_neg q]; exact ih h hc
  | case3 l h1 h2 => exact h.elim
/-- D: made by runs, over T: known again behind a step that knows T alone -/
theorem Tabs.lift : ∀ {D : List TK}, Tabs (D ++ T) H → Tabs T H' → (∀ P ps, H P = some (.tbl ps) → ∃ more, H' P = some (.tbl (ps ++ more))) → (∀ b o, H b = some (codO o) → H' b = some (codO o)) → (∀ t ∈ D, t.dyn = true) → Tabs (D ++ T) H'
  | [], _, h', _, _, _ => h'
  | t :: D, h, h', k1, k2, hd => by
    obtain ⟨S', c', z'⟩ := Tabs.lift (D := D) h.tail h' k1 k2 fun u hu => hd u (List.mem_cons_of_mem _ hu)
    obtain ⟨S, c, z1, z2, z3⟩ := h
    obtain ⟨o, t2, pos, ps, g1, g2, g3, g4, g5, g6⟩ := z3 (hd t List.mem_cons_self)
    obtain ⟨more, m1⟩ := k1 _ _ g5
    obtain ⟨ps2, p1, p2, _⟩ := c t2.P (z1.mem g4)
    rw [g5] at p1
    cases p1
    have q6 : codeAmong pos (ps ++ more).toList = some (.ref t.c) := by
      rw [Array.toList_append]
      exact codeAmong_app _ _ p2 g6
    obtain ⟨ps3, r1, r2, r3⟩ := c' t2.P (z'.mem g4)
    rw [m1] at r1
    cases r1
    obtain ⟨c2, o2, e, s1, s2, s3⟩ := r3 pos _ q6
    cases e
    have s1' := k2 _ _ g1
    rw [s1] at s1'
    have eo := codO_inj (Option.some.inj s1')
    subst eo
    exact ⟨S', c', z', by rw [g3]; exact s3, fun _ => ⟨o2, t2, pos, _, s1, g2, g3, g4, m1, q6⟩⟩

/-- all owned places hold lists -/
def Lists (H : Hp) (M : List Addr) : Prop := ∀ a ∈ M, ∃ vs, H a = some (.lst vs)
theorem Lists.ntup (l : Lists H M) {a : Addr} {vs : List V} (h : H a = some (.tup vs)) : a ∉ M := fun hm => by
  obtain ⟨ps, e⟩ := l a hm
  rw [h] at e; cases e
theorem Lists.nfrz (l : Lists H M) {a : Addr} {ob : Obj} {u : HO} (h : H a = some (.frz ob u)) : a ∉ M := fun hm => by
  obtain ⟨ps, e⟩ := l a hm
  rw [h] at e; cases e

theorem Keep.refl : Keep T H M H := fun _ _ h _ _ => h
theorem Keep.sqT (k : Keep T H M H') (t : Tabs T H) (l : Lists H M) {a : Addr} {vs : List V} (h : SqT K H a vs) : SqT K H' a vs := by
  rcases h with (h | ⟨o, h⟩) | h
  · exact .inl (.inl (k _ _ h (l.ntup h) (t.ntup h)))
  · exact .inl (.inr ⟨o, k _ _ h (l.nfrz h) (t.nfrz h)⟩)
  · exact .inr h
theorem ScrAt.sq {a : Addr} {xs : List V} (h : ScrAt K H A a xs) : SqL K H a xs := by
  rcases h with ⟨h, _⟩ | ⟨o, h⟩ | h
  · exact .inl (.inl h)
  · exact .inl (.inr ⟨o, h⟩)
  · exact .inr h
theorem ScrAt.of {a : Addr} {xs : List V} (h : SqL K H a xs) (n : a ∉ A) : ScrAt K H A a xs := by
  rcases h with (h | ⟨o, h⟩) | h
  · exact .inl ⟨h, n⟩
  · exact .inr (.inl ⟨o, h⟩)
  · exact .inr (.inr h)
theorem Keep.scrAt (k : Keep T H M H') (t : Tabs T H) (l : Lists H M) (hM : ∀ a ∈ M, a ∈ A) (hA : ∀ a ∈ A', a ∈ A ∨ H a = none) {a : Addr} {xs : List V} (h : ScrAt K H A a xs) : ScrAt K H' A' a xs := by
  rcases h with ⟨h, n⟩ | ⟨o, h⟩ | h
  · refine .inl ⟨k _ _ h (fun z => n (hM _ z)) (t.nlst h), fun z => ?_⟩
    rcases hA a z with z | z
    · exact n z
    · rw [h] at z; cases z
  · exact .inr (.inl ⟨o, k _ _ h (l.nfrz h) (t.nfrz h)⟩)
  · exact .inr (.inr h)
theorem ScrAt.anti {a : Addr} {xs : List V} (h : ScrAt K H A a xs) (hA : ∀ a ∈ A', a ∈ A) : ScrAt K H A' a xs := by
  rcases h with ⟨h, n⟩ | h
  · exact .inl ⟨h, fun z => n (hA _ z)⟩
  · exact .inr h

/-! ### lists of data -/
theorem Reps.length : ∀ {l : List D} {vs : List V}, Reps K H A l vs → vs.length = l.length
  | [], _, h => by rw [Reps] at h; subst h; rfl
  | d :: l, _, h => by
    rw [Reps] at h
    obtain ⟨v, r, rfl, _, h⟩ := h
    rw [List.length_cons, List.length_cons, Reps.length h]
theorem Reps.get : ∀ {l : List D} {vs : List V} {i : Nat} {v : V}, Reps K H A l vs → vs[i]? = some v → ∃ d, l[i]? = some d ∧ Rep K H A d v
  | [], _, i, v, h, e => by rw [Reps] at h; subst h; simp at e
  | d :: l, _, i, v, h, e => by
    rw [Reps] at h
    obtain ⟨w, r, rfl, hw, h⟩ := h
    cases i with
    | zero => simp at e; subst e; exact ⟨d, rfl, hw⟩
    | succ i =>
      obtain ⟨d', h1, h2⟩ := Reps.get h (by simpa using e)
      exact ⟨d', by simpa using h1, h2⟩
theorem Reps.get' : ∀ {l : List D} {vs : List V} {i : Nat} {d : D}, Reps K H A l vs → l[i]? = some d → ∃ v, vs[i]? = some v ∧ Rep K H A d v
  | [], _, i, v, h, e => by simp at e
  | d :: l, _, i, v, h, e => by
    rw [Reps] at h
    obtain ⟨w, r, rfl, hw, h⟩ := h
    cases i with
    | zero => simp at e; subst e; exact ⟨w, rfl, hw⟩
    | succ i =>
      obtain ⟨d', h1, h2⟩ := Reps.get' h (by simpa using e)
      exact ⟨d', by simpa using h1, h2⟩
theorem Reps.append : ∀ {l l' : List D} {vs vs' : List V}, Reps K H A l vs → Reps K H A l' vs' → Reps K H A (l ++ l') (vs ++ vs')
  | [], _, _, _, h, h' => by rw [Reps] at h; subst h; exact h'
  | d :: l, _, _, _, h, h' => by
    rw [Reps] at h
    obtain ⟨v, r, rfl, hv, h⟩ := h
    show Reps K H A (d :: (l ++ _)) _
    rw [Reps]
    exact ⟨v, _, rfl, hv, Reps.append h h'⟩
theorem Reps.take : ∀ {l : List D} {vs : List V} (n : Nat), Reps K H A l vs → Reps K H A (l.take n) (vs.take n)
  | _, _, 0, _ => by simp [Reps]
  | [], _, n + 1, h => by rw [Reps] at h; subst h; simp [Reps]
  | d :: l, _, n + 1, h => by
    rw [Reps] at h
    obtain ⟨v, r, rfl, hv, h⟩ := h
    rw [List.take_succ_cons, List.take_succ_cons, Reps]
    exact ⟨v, _, rfl, hv, Reps.take n h⟩
theorem Reps.drop : ∀ {l : List D} {vs : List V} (n : Nat), Reps K H A l vs → Reps K H A (l.drop n) (vs.drop n)
  | _, _, 0, h => h
  | [], _, n + 1, h => by rw [Reps] at h; subst h; simp [Reps]
  | d :: l, _, n + 1, h => by
    rw [Reps] at h
    obtain ⟨v, r, rfl, hv, h⟩ := h
    exact Reps.drop n h
theorem Reps.set : ∀ {l : List D} {vs : List V} {d : D} {v : V} (n : Nat), Reps K H A l vs → Rep K H A d v → Reps K H A (l.set n d) (vs.set n v)
  | [], _, _, _, n, h, _ => by rw [Reps] at h; subst h; simp [Reps]
  | d :: l, _, _, _, 0, h, hd => by
    rw [Reps] at h
    obtain ⟨v, r, rfl, hv, h⟩ := h
    rw [List.set_cons_zero, List.set_cons_zero, Reps]
    exact ⟨_, _, rfl, hd, h⟩
  | d :: l, _, _, _, n + 1, h, hd => by
    rw [Reps] at h
    obtain ⟨v, r, rfl, hv, h⟩ := h
    rw [List.set_cons_succ, List.set_cons_succ, Reps]
    exact ⟨_, _, rfl, hv, Reps.set n h hd⟩
theorem Reps.of : ∀ {l : List D} {vs : List V}, vs.length = l.length → (∀ (i : Nat) (d : D) (v : V), l[i]? = some d → vs[i]? = some v → Rep K H A d v) → Reps K H A l vs
  | [], vs, hl, _ => by rw [Reps]; exact List.length_eq_zero_iff.mp hl
  | d :: l, [], hl, _ => by simp at hl
  | d :: l, v :: vs, hl, h => by
    rw [Reps]
    exact ⟨v, vs, rfl, h 0 d v rfl rfl, Reps.of (by simpa using hl) fun i d' v' h1 h2 => h (i + 1) d' v' (by simpa using h1) (by simpa using h2)⟩
theorem Reps.mem {l : List D} {vs : List V} (h : Reps K H A l vs) {v : V} (hv : v ∈ vs) : ∃ d ∈ l, Rep K H A d v := by
  obtain ⟨i, hi, e⟩ := List.getElem_of_mem hv
  obtain ⟨d, h1, h2⟩ := h.get (i := i) (v := v) (by rw [List.getElem?_eq_getElem hi, e])
  exact ⟨d, List.mem_of_getElem? h1, h2⟩
theorem Reps.reverse {l : List D} {vs : List V} (h : Reps K H A l vs) : Reps K H A l.reverse vs.reverse := by
  refine Reps.of (by rw [List.length_reverse, List.length_reverse, h.length]) fun i d v h1 h2 => ?_
  have hl := h.length
  have hi : i < l.length := by
    obtain ⟨q, _⟩ := List.getElem?_eq_some_iff.mp h1
    simpa using q
  rw [List.getElem?_reverse hi] at h1
  rw [List.getElem?_reverse (by omega)] at h2
  obtain ⟨d', e1, e2⟩ := h.get (v := v) h2
  rw [hl] at e1
  rw [h1] at e1
  cases e1
  exact e2
theorem Reps.ints : ∀ {ns : List Int}, Reps K H A (ns.map D.int) (ns.map V.int)
  | [] => by simp [Reps]
  | n :: ns => by
    rw [List.map_cons, List.map_cons, Reps]
    exact ⟨_, _, rfl, by rw [Rep], Reps.ints⟩

/-! ### what stays -/
theorem Rep.mono (k : Keep T H M H') (t : Tabs T H) (l : Lists H M) (hM : ∀ a ∈ M, a ∈ A) (hA : ∀ a ∈ A', a ∈ A ∨ H a = none) : ∀ (d : D) (v : V), Rep K H A d v → Rep K H' A' d v := by
  have lists : ∀ (l : List D), (∀ d ∈ l, ∀ v, Rep K H A d v → Rep K H' A' d v) → ∀ vs, Reps K H A l vs → Reps K H' A' l vs := by
    intro l
    induction l with
    | nil => intro _ vs h; rw [Reps] at h ⊢; exact h
    | cons d l ih =>
      intro hl vs h
      rw [Reps] at h ⊢
      obtain ⟨v, r, e, h1, h2⟩ := h
      exact ⟨v, r, e, hl d List.mem_cons_self v h1, ih (fun d hd => hl d (List.mem_cons_of_mem _ hd)) r h2⟩
  intro d
  induction d using D.ind with
  | h0 => intro v h; rw [Rep] at h ⊢; exact h
  | h1 b => intro v h; rw [Rep] at h ⊢; exact h
  | h2 i => intro v h; rw [Rep] at h ⊢; exact h
  | h3 s => intro v h; rw [Rep] at h ⊢; exact h
  | h4 ds ih =>
    intro v h
    rw [Rep] at h ⊢
    obtain ⟨a, vs, e, h1, h2⟩ := h
    exact ⟨a, vs, e, k.sqT t l h1, lists ds ih vs h2⟩
  | h5 ds ih =>
    intro v h
    rw [Rep] at h ⊢
    obtain ⟨a, vs, e, h1, n, h2⟩ := h
    refine ⟨a, vs, e, k _ _ h1 (fun z => n (hM _ z)) (t.nlst h1), fun z => ?_, lists ds ih vs h2⟩
    rcases hA a z with z | z
    · exact n z
    · rw [h1] at z; cases z
  | h6 ns =>
    intro v h
    rw [Rep] at h ⊢
    obtain ⟨a, e, h1⟩ := h
    exact ⟨a, e, k.scrAt t l hM hA h1⟩
theorem Reps.mono (k : Keep T H M H') (t : Tabs T H) (l : Lists H M) (hM : ∀ a ∈ M, a ∈ A) (hA : ∀ a ∈ A', a ∈ A ∨ H a = none) : ∀ (ds : List D) (vs : List V), Reps K H A ds vs → Reps K H' A' ds vs
  | [], vs, h => by rw [Reps] at h ⊢; exact h
  | d :: ds, vs, h => by
    rw [Reps] at h ⊢
    obtain ⟨v, r, e, h1, h2⟩ := h
    exact ⟨v, r, e, h1.mono k t l hM hA, Reps.mono k t l hM hA ds r h2⟩
theorem Rep.anti (hA : ∀ a ∈ A', a ∈ A) : ∀ (d : D) (v : V), Rep K H A d v → Rep K H A' d v := by
  have lists : ∀ (l : List D), (∀ d ∈ l, ∀ v, Rep K H A d v → Rep K H A' d v) → ∀ vs, Reps K H A l vs → Reps K H A' l vs := by
    intro l
    induction l with
    | nil => intro _ vs h; rw [Reps] at h ⊢; exact h
    | cons d l ih =>
      intro hl vs h
      rw [Reps] at h ⊢
      obtain ⟨v, r, e, h1, h2⟩ := h
      exact ⟨v, r, e, hl d List.mem_cons_self v h1, ih (fun d hd => hl d (List.mem_cons_of_mem _ hd)) r h2⟩
  intro d
  induction d using D.ind with
  | h0 => intro v h; rw [Rep] at h ⊢; exact h
  | h1 b => intro v h; rw [Rep] at h ⊢; exact h
  | h2 i => intro v h; rw [Rep] at h ⊢; exact h
  | h3 s => intro v h; rw [Rep] at h ⊢; exact h
  | h4 ds ih =>
    intro v h
    rw [Rep] at h ⊢
    obtain ⟨a, vs, e, h1, h2⟩ := h
    exact ⟨a, vs, e, h1, lists ds ih vs h2⟩
  | h5 ds ih =>
    intro v h
    rw [Rep] at h ⊢
    obtain ⟨a, vs, e, h1, n, h2⟩ := h
    exact ⟨a, vs, e, h1, fun z => n (hA _ z), lists ds ih vs h2⟩
  | h6 ns =>
    intro v h
    rw [Rep] at h ⊢
    obtain ⟨a, e, h1⟩ := h
    exact ⟨a, e, h1.anti hA⟩
theorem Reps.anti (hA : ∀ a ∈ A', a ∈ A) : ∀ (ds : List D) (vs : List V), Reps K H A ds vs → Reps K H A' ds vs
  | [], vs, h => by rw [Reps] at h ⊢; exact h
  | d :: ds, vs, h => by
    rw [Reps] at h ⊢
    obtain ⟨v, r, e, h1, h2⟩ := h
    exact ⟨v, r, e, h1.anti hA, Reps.anti hA ds r h2⟩

/-! ### owned lists -/
theorem RepO.ls : ∀ (o : O) (v : V) (F : List Addr), RepO K H A o v F → Lists H F := by
  intro o
  induction o using O.ind with
  | h0 d =>
    intro v F h
    rw [RepO] at h
    rw [h.1]
    intro a ha; cases ha
  | h1 l ih =>
    have lists : ∀ (l : List O), (∀ o ∈ l, ∀ v F, RepO K H A o v F → Lists H F) → ∀ vs F, RepOs K H A l vs F → Lists H F := by
      intro l
      induction l with
      | nil =>
        intro _ vs F h
        rw [RepOs] at h
        rw [h.2]
        intro a ha; cases ha
      | cons o l ih =>
        intro hl vs F h
        rw [RepOs] at h
        obtain ⟨v, r, F1, F2, e, e2, h1, h2⟩ := h
        rw [e2]
        intro a ha
        rcases List.mem_append.mp ha with ha | ha
        · exact hl o List.mem_cons_self v F1 h1 a ha
        · exact ih (fun d hd => hl d (List.mem_cons_of_mem _ hd)) r F2 h2 a ha
    intro v F h
    rw [RepO] at h
    obtain ⟨a, vs, F', e, h1, e2, h2⟩ := h
    rw [e2]
    intro b hb
    rcases List.mem_cons.mp hb with rfl | hb
    · exact ⟨vs, h1⟩
    · exact lists l ih vs F' h2 b hb
theorem RepOs.ls : ∀ (l : List O) (vs : List V) (F : List Addr), RepOs K H A l vs F → Lists H F
  | [], vs, F, h => by
    rw [RepOs] at h
    rw [h.2]
    intro a ha; cases ha
  | o :: l, vs, F, h => by
    rw [RepOs] at h
    obtain ⟨v, r, F1, F2, e, e2, h1, h2⟩ := h
    rw [e2]
    intro a ha
    rcases List.mem_append.mp ha with ha | ha
    · exact h1.ls _ _ _ a ha
    · exact RepOs.ls l r F2 h2 a ha
theorem RepO.mono (k : Keep T H M H') (t : Tabs T H) (l : Lists H M) (hM : ∀ a ∈ M, a ∈ A) (hA : ∀ a ∈ A', a ∈ A ∨ H a = none) : ∀ (o : O) (v : V) (F : List Addr), RepO K H A o v F → (∀ a ∈ F, a ∉ M) → RepO K H' A' o v F := by
  intro o
  induction o using O.ind with
  | h0 d =>
    intro v F h _
    rw [RepO] at h ⊢
    exact ⟨h.1, h.2.mono k t l hM hA⟩
  | h1 os ih =>
    have lists : ∀ (os : List O), (∀ o ∈ os, ∀ v F, RepO K H A o v F → (∀ a ∈ F, a ∉ M) → RepO K H' A' o v F) → ∀ vs F, RepOs K H A os vs F → (∀ a ∈ F, a ∉ M) → RepOs K H' A' os vs F := by
      intro os
      induction os with
      | nil => intro _ vs F h _; rw [RepOs] at h ⊢; exact h
      | cons o os ih =>
        intro hl vs F h hF
        rw [RepOs] at h ⊢
        obtain ⟨v, r, F1, F2, e, e2, h1, h2⟩ := h
        rw [e2] at hF
        exact ⟨v, r, F1, F2, e, e2, hl o List.mem_cons_self v F1 h1 fun a ha => hF a (List.mem_append_left _ ha), ih (fun d hd => hl d (List.mem_cons_of_mem _ hd)) r F2 h2 fun a ha => hF a (List.mem_append_right _ ha)⟩
    intro v F h hF
    rw [RepO] at h ⊢
    obtain ⟨a, vs, F', e, h1, e2, h2⟩ := h
    rw [e2] at hF
    exact ⟨a, vs, F', e, k _ _ h1 (hF a List.mem_cons_self) (t.nlst h1), e2, lists os ih vs F' h2 fun b hb => hF b (List.mem_cons_of_mem _ hb)⟩
theorem RepOs.mono (k : Keep T H M H') (t : Tabs T H) (l : Lists H M) (hM : ∀ a ∈ M, a ∈ A) (hA : ∀ a ∈ A', a ∈ A ∨ H a = none) : ∀ (os : List O) (vs : List V) (F : List Addr), RepOs K H A os vs F → (∀ a ∈ F, a ∉ M) → RepOs K H' A' os vs F
  | [], vs, F, h, _ => by rw [RepOs] at h ⊢; exact h
  | o :: os, vs, F, h, hF => by
    rw [RepOs] at h ⊢
    obtain ⟨v, r, F1, F2, e, e2, h1, h2⟩ := h
    rw [e2] at hF
    exact ⟨v, r, F1, F2, e, e2, h1.mono k t l hM hA _ _ _ (fun a ha => hF a (List.mem_append_left _ ha)), RepOs.mono k t l hM hA os r F2 h2 fun a ha => hF a (List.mem_append_right _ ha)⟩
theorem RepO.anti (hA : ∀ a ∈ A', a ∈ A) : ∀ (o : O) (v : V) (F : List Addr), RepO K H A o v F → RepO K H A' o v F := by
  intro o
  induction o using O.ind with
  | h0 d =>
    intro v F h
    rw [RepO] at h ⊢
    exact ⟨h.1, h.2.anti hA⟩
  | h1 os ih =>
    have lists : ∀ (os : List O), (∀ o ∈ os, ∀ v F, RepO K H A o v F → RepO K H A' o v F) → ∀ vs F, RepOs K H A os vs F → RepOs K H A' os vs F := by
      intro os
      induction os with
      | nil => intro _ vs F h; rw [RepOs] at h ⊢; exact h
      | cons o os ih =>
        intro hl vs F h
        rw [RepOs] at h ⊢
        obtain ⟨v, r, F1, F2, e, e2, h1, h2⟩ := h
        exact ⟨v, r, F1, F2, e, e2, hl o List.mem_cons_self v F1 h1, ih (fun d hd => hl d (List.mem_cons_of_mem _ hd)) r F2 h2⟩
    intro v F h
    rw [RepO] at h ⊢
    obtain ⟨a, vs, F', e, h1, e2, h2⟩ := h
    exact ⟨a, vs, F', e, h1, e2, lists os ih vs F' h2⟩
theorem RepOs.anti (hA : ∀ a ∈ A', a ∈ A) : ∀ (os : List O) (vs : List V) (F : List Addr), RepOs K H A os vs F → RepOs K H A' os vs F
  | [], vs, F, h => by rw [RepOs] at h ⊢; exact h
  | o :: os, vs, F, h => by
    rw [RepOs] at h ⊢
    obtain ⟨v, r, F1, F2, e, e2, h1, h2⟩ := h
    exact ⟨v, r, F1, F2, e, e2, h1.anti hA, RepOs.anti hA os r F2 h2⟩
/-- owned lists given up: data -/
theorem RepO.freeze (hA : ∀ a ∈ A', a ∈ A) : ∀ (o : O) (v : V) (F : List Addr), RepO K H A o v F → (∀ a ∈ F, a ∉ A') → Rep K H A' o.val v := by
  intro o
  induction o using O.ind with
  | h0 d =>
    intro v F h _
    rw [RepO] at h
    rw [O.val]
    exact h.2.anti hA
  | h1 os ih =>
    have lists : ∀ (os : List O), (∀ o ∈ os, ∀ v F, RepO K H A o v F → (∀ a ∈ F, a ∉ A') → Rep K H A' o.val v) → ∀ vs F, RepOs K H A os vs F → (∀ a ∈ F, a ∉ A') → Reps K H A' (O.vals os) vs := by
      intro os
      induction os with
      | nil => intro _ vs F h _; rw [RepOs] at h; rw [O.vals, Reps]; exact h.1
      | cons o os ih =>
        intro hl vs F h hF
        rw [RepOs] at h
        obtain ⟨v, r, F1, F2, e, e2, h1, h2⟩ := h
        rw [e2] at hF
        rw [O.vals, Reps]
        exact ⟨v, r, e, hl o List.mem_cons_self v F1 h1 fun a ha => hF a (List.mem_append_left _ ha), ih (fun d hd => hl d (List.mem_cons_of_mem _ hd)) r F2 h2 fun a ha => hF a (List.mem_append_right _ ha)⟩
    intro v F h hF
    rw [RepO] at h
    obtain ⟨a, vs, F', e, h1, e2, h2⟩ := h
    rw [e2] at hF
    rw [O.val, Rep]
    exact ⟨a, vs, e, h1, hF a List.mem_cons_self, lists os ih vs F' h2 fun b hb => hF b (List.mem_cons_of_mem _ hb)⟩
theorem RepOs.freeze (hA : ∀ a ∈ A', a ∈ A) : ∀ (os : List O) (vs : List V) (F : List Addr), RepOs K H A os vs F → (∀ a ∈ F, a ∉ A') → Reps K H A' (O.vals os) vs
  | [], vs, F, h, _ => by rw [RepOs] at h; rw [O.vals, Reps]; exact h.1
  | o :: os, vs, F, h, hF => by
    rw [RepOs] at h
    obtain ⟨v, r, F1, F2, e, e2, h1, h2⟩ := h
    rw [e2] at hF
    rw [O.vals, Reps]
    exact ⟨v, r, e, h1.freeze hA _ _ _ (fun a ha => hF a (List.mem_append_left _ ha)), RepOs.freeze hA os r F2 h2 fun a ha => hF a (List.mem_append_right _ ha)⟩
theorem RepOs.length : ∀ {l : List O} {vs : List V} {F : List Addr}, RepOs K H A l vs F → vs.length = l.length
  | [], _, _, h => by rw [RepOs] at h; rw [h.1]; rfl
  | o :: l, _, _, h => by
    rw [RepOs] at h
    obtain ⟨v, r, F1, F2, rfl, e2, h1, h2⟩ := h
    rw [List.length_cons, List.length_cons, RepOs.length h2]
theorem RepOs.append : ∀ {l l' : List O} {vs vs' : List V} {F F' : List Addr}, RepOs K H A l vs F → RepOs K H A l' vs' F' → RepOs K H A (l ++ l') (vs ++ vs') (F ++ F')
  | [], _, _, _, _, _, h, h' => by rw [RepOs] at h; obtain ⟨rfl, rfl⟩ := h; exact h'
  | o :: l, _, _, _, _, _, h, h' => by
    rw [RepOs] at h
    obtain ⟨v, r, F1, F2, rfl, rfl, h1, h2⟩ := h
    show RepOs K H A (o :: (l ++ _)) _ _
    rw [RepOs]
    exact ⟨v, _, F1, _, rfl, by rw [List.append_assoc], h1, RepOs.append h2 h'⟩
theorem RepOs.data : ∀ {l : List D} {vs : List V}, Reps K H A l vs → RepOs K H A (l.map O.fz) vs []
  | [], _, h => by rw [Reps] at h; rw [List.map_nil, RepOs]; exact ⟨h, rfl⟩
  | d :: l, _, h => by
    rw [Reps] at h
    obtain ⟨v, r, rfl, h1, h2⟩ := h
    rw [List.map_cons, RepOs]
    exact ⟨v, r, [], [], rfl, rfl, by rw [RepO]; exact ⟨rfl, h1⟩, RepOs.data h2⟩

/-! ### the slots -/
theorem RepE.ls : ∀ {ε : List (Option O)} {σ : List (Option V)} {F : List Addr}, RepE K H A ε σ F → Lists H F
  | [], _, _, h => by rw [RepE] at h; rw [h.2]; intro a ha; cases ha
  | none :: ε, _, _, h => by
    rw [RepE] at h
    obtain ⟨x, r, _, h⟩ := h
    exact RepE.ls h
  | some o :: ε, _, _, h => by
    rw [RepE] at h
    obtain ⟨v, r, F1, F2, _, e2, h1, h2⟩ := h
    rw [e2]
    intro a ha
    rcases List.mem_append.mp ha with ha | ha
    · exact h1.ls _ _ _ a ha
    · exact RepE.ls h2 a ha
theorem RepE.mono (k : Keep T H M H') (t : Tabs T H) (l : Lists H M) (hM : ∀ a ∈ M, a ∈ A) (hA : ∀ a ∈ A', a ∈ A ∨ H a = none) : ∀ {ε : List (Option O)} {σ : List (Option V)} {F : List Addr}, RepE K H A ε σ F → (∀ a ∈ F, a ∉ M) → RepE K H' A' ε σ F
  | [], _, _, h, _ => by rw [RepE] at h ⊢; exact h
  | none :: ε, _, _, h, hF => by
    rw [RepE] at h ⊢
    obtain ⟨x, r, e, h⟩ := h
    exact ⟨x, r, e, RepE.mono k t l hM hA h hF⟩
  | some o :: ε, _, _, h, hF => by
    rw [RepE] at h ⊢
    obtain ⟨v, r, F1, F2, e, e2, h1, h2⟩ := h
    rw [e2] at hF
    exact ⟨v, r, F1, F2, e, e2, h1.mono k t l hM hA _ _ _ (fun a ha => hF a (List.mem_append_left _ ha)), RepE.mono k t l hM hA h2 fun a ha => hF a (List.mem_append_right _ ha)⟩
theorem RepE.anti (hA : ∀ a ∈ A', a ∈ A) : ∀ {ε : List (Option O)} {σ : List (Option V)} {F : List Addr}, RepE K H A ε σ F → RepE K H A' ε σ F
  | [], _, _, h => by rw [RepE] at h ⊢; exact h
  | none :: ε, _, _, h => by
    rw [RepE] at h ⊢
    obtain ⟨x, r, e, h⟩ := h
    exact ⟨x, r, e, RepE.anti hA h⟩
  | some o :: ε, _, _, h => by
    rw [RepE] at h ⊢
    obtain ⟨v, r, F1, F2, e, e2, h1, h2⟩ := h
    exact ⟨v, r, F1, F2, e, e2, h1.anti hA, RepE.anti hA h2⟩
theorem RepE.length : ∀ {ε : List (Option O)} {σ : List (Option V)} {F : List Addr}, RepE K H A ε σ F → σ.length = ε.length
  | [], _, _, h => by rw [RepE] at h; rw [h.1]; rfl
  | none :: ε, _, _, h => by
    rw [RepE] at h
    obtain ⟨x, r, rfl, h⟩ := h
    rw [List.length_cons, List.length_cons, RepE.length h]
  | some o :: ε, _, _, h => by
    rw [RepE] at h
    obtain ⟨v, r, F1, F2, rfl, e2, h1, h2⟩ := h
    rw [List.length_cons, List.length_cons, RepE.length h2]
/-- the slot i taken out -/
theorem RepE.take : ∀ {ε : List (Option O)} {σ : List (Option V)} {F : List Addr} {i : Nat} {o : O}, RepE K H A ε σ F → ε[i]? = some (some o) →
    ∃ v F2 G, σ[i]? = some (some v) ∧ F.Perm (F2 ++ G) ∧ RepO K H A o v F2 ∧ RepE K H A (ε.set i none) σ G
  | [], _, _, i, o, h, e => by simp at e
  | none :: ε, _, _, i, o, h, e => by
    rw [RepE] at h
    obtain ⟨x, r, rfl, h⟩ := h
    cases i with
    | zero => simp at e
    | succ i =>
      obtain ⟨v, F2, G, h1, h2, h3, h4⟩ := RepE.take h (i := i) (o := o) (by simpa using e)
      exact ⟨v, F2, G, by simpa using h1, h2, h3, by rw [List.set_cons_succ, RepE]; exact ⟨x, r, rfl, h4⟩⟩
  | some p :: ε, _, _, i, o, h, e => by
    rw [RepE] at h
    obtain ⟨w, r, G1, G2, rfl, rfl, hp, h⟩ := h
    cases i with
    | zero =>
      simp at e
      subst e
      exact ⟨w, G1, G2, rfl, List.Perm.refl _, hp, by rw [List.set_cons_zero, RepE]; exact ⟨_, _, rfl, h⟩⟩
    | succ i =>
      obtain ⟨v, F2, G, h1, h2, h3, h4⟩ := RepE.take h (i := i) (o := o) (by simpa using e)
      refine ⟨v, F2, G1 ++ G, by simpa using h1, ?_, h3, ?_⟩
      · refine (List.Perm.append_left G1 h2).trans ?_
        rw [← List.append_assoc, ← List.append_assoc]
        exact List.Perm.append_right G List.perm_append_comm
      · rw [List.set_cons_succ, RepE]
        exact ⟨w, r, G1, G, rfl, rfl, hp, h4⟩
/-- the slot i dropped -/
theorem RepE.drop : ∀ {ε : List (Option O)} {σ : List (Option V)} {F : List Addr} (i : Nat), RepE K H A ε σ F → ∃ G, G.Sublist F ∧ RepE K H A (ε.set i none) σ G
  | [], _, F, i, h => ⟨F, List.Sublist.refl _, h⟩
  | none :: ε, _, F, 0, h => ⟨F, List.Sublist.refl _, h⟩
  | some o :: ε, _, _, 0, h => by
    rw [RepE] at h
    obtain ⟨v, r, F1, F2, rfl, rfl, h1, h2⟩ := h
    exact ⟨F2, List.sublist_append_right _ _, by rw [List.set_cons_zero, RepE]; exact ⟨_, _, rfl, h2⟩⟩
  | none :: ε, _, _, i + 1, h => by
    rw [RepE] at h
    obtain ⟨x, r, rfl, h⟩ := h
    obtain ⟨G, h1, h2⟩ := RepE.drop i h
    exact ⟨G, h1, by rw [List.set_cons_succ, RepE]; exact ⟨_, _, rfl, h2⟩⟩
  | some o :: ε, _, _, i + 1, h => by
    rw [RepE] at h
    obtain ⟨v, r, F1, F2, rfl, rfl, h1, h2⟩ := h
    obtain ⟨G, h3, h4⟩ := RepE.drop i h2
    exact ⟨F1 ++ G, List.Sublist.append (List.Sublist.refl _) h3, by rw [List.set_cons_succ, RepE]; exact ⟨_, _, _, _, rfl, rfl, h1, h4⟩⟩
/-- something put at the slot i -/
theorem RepE.put : ∀ {ε : List (Option O)} {σ : List (Option V)} {G F : List Addr} {i : Nat} {o : O} {v : V}, RepE K H A (ε.set i none) σ G → RepO K H A o v F → i < ε.length →
    ∃ M, M.Perm (F ++ G) ∧ RepE K H A (ε.set i (some o)) (σ.set i (some v)) M
  | [], _, _, _, i, _, _, _, _, hi => by simp at hi
  | x :: ε, _, G, F, 0, o, v, h, ho, hi => by
    rw [List.set_cons_zero, RepE] at h
    obtain ⟨y, r, rfl, h⟩ := h
    exact ⟨F ++ G, List.Perm.refl _, by rw [List.set_cons_zero, List.set_cons_zero, RepE]; exact ⟨v, r, F, G, rfl, rfl, ho, h⟩⟩
  | none :: ε, _, G, F, i + 1, o, v, h, ho, hi => by
    rw [List.set_cons_succ, RepE] at h
    obtain ⟨y, r, rfl, h⟩ := h
    obtain ⟨M, h1, h2⟩ := RepE.put h ho (by simpa using hi)
    exact ⟨M, h1, by rw [List.set_cons_succ, List.set_cons_succ, RepE]; exact ⟨_, _, rfl, h2⟩⟩
  | some p :: ε, _, _, F, i + 1, o, v, h, ho, hi => by
    rw [List.set_cons_succ, RepE] at h
    obtain ⟨w, r, G1, G2, rfl, rfl, hp, h⟩ := h
    obtain ⟨M, h1, h2⟩ := RepE.put h ho (by simpa using hi)
    refine ⟨G1 ++ M, ?_, by rw [List.set_cons_succ, List.set_cons_succ, RepE]; exact ⟨w, _, G1, M, rfl, rfl, hp, h2⟩⟩
    refine (List.Perm.append_left G1 h1).trans ?_
    rw [← List.append_assoc, ← List.append_assoc]
    exact List.Perm.append_right G2 List.perm_append_comm
/-- the same value: the slots as they are -/
theorem RepE.put' {ε : List (Option O)} {σ : List (Option V)} {G F : List Addr} {i : Nat} {o : O} {v : V} (h : RepE K H A (ε.set i none) σ G) (ho : RepO K H A o v F) (hi : σ[i]? = some (some v)) (hl : σ.length = ε.length) :
    ∃ M, M.Perm (F ++ G) ∧ RepE K H A (ε.set i (some o)) σ M := by
  obtain ⟨hi', e⟩ := List.getElem?_eq_some_iff.mp hi
  obtain ⟨M, h1, h2⟩ := h.put ho (by omega)
  have e2 : σ.set i (some v) = σ := by
    rw [← e, List.set_getElem_self]
  rw [e2] at h2
  exact ⟨M, h1, h2⟩
/-- a slot without a claim may hold anything -/
theorem RepE.any : ∀ {ε : List (Option O)} {σ : List (Option V)} {G : List Addr} {i : Nat} (x : Option V), RepE K H A (ε.set i none) σ G → RepE K H A (ε.set i none) (σ.set i x) G
  | [], _, _, i, x, h => by rw [List.set_nil, RepE] at h ⊢; rw [h.1, List.set_nil]; exact ⟨rfl, h.2⟩
  | y :: ε, _, G, 0, x, h => by
    rw [List.set_cons_zero, RepE] at h ⊢
    obtain ⟨z, r, rfl, h⟩ := h
    exact ⟨x, r, rfl, h⟩
  | none :: ε, _, G, i + 1, x, h => by
    rw [List.set_cons_succ, RepE] at h ⊢
    obtain ⟨z, r, rfl, h⟩ := h
    exact ⟨z, _, rfl, RepE.any x h⟩
  | some p :: ε, _, _, i + 1, x, h => by
    rw [List.set_cons_succ, RepE] at h ⊢
    obtain ⟨w, r, G1, G2, rfl, rfl, hp, h⟩ := h
    exact ⟨w, _, G1, G2, rfl, rfl, hp, RepE.any x h⟩
theorem RepE.get {ε : List (Option O)} {σ : List (Option V)} {F : List Addr} {i : Nat} {o : O} (h : RepE K H A ε σ F) (e : ε[i]? = some (some o)) : ∃ v F2, σ[i]? = some (some v) ∧ RepO K H A o v F2 ∧ ∀ a ∈ F2, a ∈ F := by
  obtain ⟨v, F2, G, h1, h2, h3, h4⟩ := h.take e
  exact ⟨v, F2, h1, h3, fun a ha => h2.mem_iff.mpr (List.mem_append_left _ ha)⟩
end
end VS


set_option Elab.async false
set_option linter.all false
/-! VS1: states, steps, what an expression gives; names, constants, operators. -/
namespace VS
open PySem PySem.Spec PyProof.Rows L2

abbrev Env' := List (Option O)
/-- what an expression gives: a thing, or what slot i holds (looked at late) -/
inductive Ro where
  | o (x : O) | b (i : Nat)
abbrev VF := Env' → Option (Ro × Env')
abbrev TF := Env' → Option (Bool × Env')

structure Ok (K : PySem.W.Frag) (T : List TK) (H : Hp) (M R : List Addr) (ε : Env') (σ : L2.St) : Prop where
  rep : RepE K H (M ++ R) ε σ M
  nd : (M ++ R).Nodup
  ls : Lists H (M ++ R)
  tab : Tabs T H
/-- from one state to a later one -/
structure Stp (T : List TK) (H : Hp) (M : List Addr) (H' : Hp) (M' : List Addr) : Prop where
  keep : Keep T H M H'
  live : ∀ b o, H b = some o → ∃ o', H' b = some o'
  sub : ∀ a ∈ M', a ∈ M ∨ H a = none
  grow : ∀ P ps, H P = some (.tbl ps) → ∃ more, H' P = some (.tbl (ps ++ more))

section
variable {K : PySem.W.Frag} {T : List TK} {H H' H'' : Hp} {M M' M'' R R' F F' A A' : List Addr} {ε ε' : Env'} {σ : L2.St}

theorem Stp.refl : Stp T H M H M := ⟨.refl, fun _ o h => ⟨o, h⟩, fun a h => .inl h, fun P ps h => ⟨#[], by simpa using h⟩⟩
theorem Stp.back (x : Stp T H M H' M') {a : Addr} (h : H' a = none) : H a = none := by
  cases e : H a with
  | none => rfl
  | some o =>
    obtain ⟨o', z⟩ := x.live a o e
    rw [h] at z; cases z
theorem Stp.trans (x : Stp T H M H' M') (y : Stp T H' M' H'' M'') : Stp T H M H'' M'' where
  keep := fun b o h hm ht => y.keep b o (x.keep b o h hm ht) (fun z => (x.sub b z).elim hm fun z => by rw [h] at z; cases z) ht
  live := fun b o h => let ⟨o', h'⟩ := x.live b o h; y.live b o' h'
  sub := fun a ha => (y.sub a ha).elim (x.sub a) fun z => .inr (x.back z)
  grow := fun P ps h => by
    obtain ⟨m1, h1⟩ := x.grow P ps h
    obtain ⟨m2, h2⟩ := y.grow P _ h1
    exact ⟨m1 ++ m2, by rw [h2, Array.append_assoc]⟩
theorem grow2 (f : ∀ P ps, H P = some (.tbl ps) → ∃ more, H' P = some (.tbl (ps ++ more))) (g : ∀ P ps, H' P = some (.tbl ps) → ∃ more, H'' P = some (.tbl (ps ++ more))) : ∀ P ps, H P = some (.tbl ps) → ∃ more, H'' P = some (.tbl (ps ++ more)) := fun P ps h => by
  obtain ⟨m1, h1⟩ := f P ps h
  obtain ⟨m2, h2⟩ := g P _ h1
  exact ⟨m1 ++ m2, by rw [h2, Array.append_assoc]⟩
theorem growS (h : Same H H') : ∀ P ps, H P = some (.tbl ps) → ∃ more, H' P = some (.tbl (ps ++ more)) := fun P ps e => ⟨#[], by rw [h _ _ e]; simp⟩
theorem Stp.ofSame (h : Same H H') : Stp T H M H' M := ⟨fun b o e _ _ => h b o e, fun b o e => ⟨o, h b o e⟩, fun a h => .inl h, fun P ps e => ⟨#[], by rw [h _ _ e]; simp⟩⟩
theorem Stp.less (x : Stp T H M H' M') (h : ∀ a ∈ M'', a ∈ M') : Stp T H M H' M'' := ⟨x.keep, x.live, fun a ha => x.sub a (h a ha), x.grow⟩
theorem Stp.more (s : Stp T H M H' M') (L : List Addr) : Stp T H (M ++ L) H' (M' ++ L) := ⟨fun b o e hm ht => s.keep b o e (fun z => hm (List.mem_append_left _ z)) ht, s.live, fun a ha => (List.mem_append.mp ha).elim (fun z => (s.sub a z).elim (fun z => .inl (List.mem_append_left _ z)) .inr) fun z => .inl (List.mem_append_right _ z), s.grow⟩
theorem Keep.ofSame (h : Same H H') : Keep T H M H' := fun b o e _ _ => h b o e
theorem Lists.same (l : Lists H M) (h : Same H H') : Lists H' M := fun a ha => let ⟨vs, e⟩ := l a ha; ⟨vs, h _ _ e⟩
theorem Lists.sub (l : Lists H M) (h : ∀ a ∈ M', a ∈ M) : Lists H M' := fun a ha => l a (h a ha)
theorem Lists.nil : Lists H [] := fun a ha => by cases ha
theorem Lists.app (l : Lists H M) (l' : Lists H M') : Lists H (M ++ M') := fun a ha => (List.mem_append.mp ha).elim (l a) (l' a)
theorem Tabs.same (t : Tabs T H) (h : Same H H') : Tabs T H' := t.kept (fun _ _ e => h _ _ e) fun _ _ e => h _ _ e
theorem Tabs.upd {a : Addr} {vs ws : List V} (t : Tabs T H) (h : H a = some (.lst vs)) : Tabs T (L2.upd H a (.lst ws)) :=
  t.kept (fun b ps e => by rw [upd_ne (ne_of e h (by intro z; cases z))]; exact e) fun b o e => by rw [upd_ne (ne_of e h (by intro z; cases z))]; exact e
theorem Stp.codes (x : Stp T H M H' M') (l : Lists H M) : ∀ b o, H b = some (codO o) → H' b = some (codO o) := fun b o h => x.keep b _ h (l.nfrz h) fun ps z => by cases z
/-- behind a step that knows T alone, D ++ T is known again -/
theorem Stp.lift {D : List TK} (x : Stp T H M H' M') (l : Lists H M) (h : Tabs (D ++ T) H) (h' : Tabs T H') (hd : ∀ t ∈ D, t.dyn = true) : Tabs (D ++ T) H' := h.lift h' x.grow (x.codes l) hd

theorem Ok.ls1 (k : Ok K T H M R ε σ) : Lists H M := k.ls.sub fun a h => List.mem_append_left _ h
theorem Ok.ls2 (k : Ok K T H M R ε σ) : Lists H R := k.ls.sub fun a h => List.mem_append_right _ h
theorem Ok.apart (k : Ok K T H M R ε σ) {a : Addr} (h : a ∈ R) : a ∉ M := fun z => (List.nodup_append.mp k.nd).2.2 a z a h rfl
theorem Ok.apart' (k : Ok K T H M R ε σ) {a : Addr} (h : a ∈ M) : a ∉ R := fun z => k.apart z h
theorem Ok.len (k : Ok K T H M R ε σ) : σ.length = ε.length := k.rep.length
/-- other owners, fewer or in another order -/
theorem Ok.other (k : Ok K T H M R ε σ) (hs : ∀ a ∈ R', a ∈ R) (hn : R'.Nodup) : Ok K T H M R' ε σ where
  rep := k.rep.anti fun a h => (List.mem_append.mp h).elim (fun z => List.mem_append_left _ z) fun z => List.mem_append_right _ (hs a z)
  nd := by
    refine List.nodup_append.mpr ⟨(List.nodup_append.mp k.nd).1, hn, fun a ha b hb e => ?_⟩
    subst e
    exact k.apart (hs a hb) ha
  ls := k.ls1.app (k.ls2.sub hs)
  tab := k.tab
theorem Ok.drop (k : Ok K T H M (F ++ R) ε σ) : Ok K T H M R ε σ :=
  k.other (fun a h => List.mem_append_right _ h) (List.nodup_append.mp (List.nodup_append.mp k.nd).2.1).2.1
theorem Ok.swap (k : Ok K T H M (F ++ (F' ++ R)) ε σ) : Ok K T H M ((F' ++ F) ++ R) ε σ :=
  have p : ((F' ++ F) ++ R).Perm (F ++ (F' ++ R)) := by
    rw [← List.append_assoc]
    exact List.Perm.append_right R List.perm_append_comm
  k.other (fun a h => p.mem_iff.mp h) (p.nodup_iff.mpr (List.nodup_append.mp k.nd).2.1)
theorem Ok.join (k : Ok K T H M (F ++ (F' ++ R)) ε σ) : Ok K T H M ((F ++ F') ++ R) ε σ := by
  rw [List.append_assoc]
  exact k
/-- all objects kept -/
theorem Ok.same (k : Ok K T H M R ε σ) (h : Same H H') : Ok K T H' M R ε σ where
  rep := k.rep.mono (M := []) (Keep.ofSame h) k.tab .nil (fun a ha => by cases ha) (fun a ha => .inl ha) fun a _ z => by cases z
  nd := k.nd
  ls := k.ls.same h
  tab := k.tab.same h
/-- new owned lists -/
theorem Ok.new (k : Ok K T H M R ε σ) (h : Same H H') (hF : ∀ a ∈ F, H a = none) (nF : F.Nodup) (lF : Lists H' F) : Ok K T H' M (F ++ R) ε σ where
  rep := k.rep.mono (M := []) (Keep.ofSame h) k.tab .nil (fun a ha => by cases ha) (fun a ha => by
    rcases List.mem_append.mp ha with z | z
    · exact .inl (List.mem_append_left _ z)
    · rcases List.mem_append.mp z with z | z
      · exact .inr (hF a z)
      · exact .inl (List.mem_append_right _ z)) fun a _ z => by cases z
  nd := by
    have no : ∀ a ∈ F, a ∉ M ++ R := fun a ha z => by
      obtain ⟨vs, e⟩ := k.ls a z
      rw [hF a ha] at e; cases e
    have p : (M ++ (F ++ R)).Perm (F ++ (M ++ R)) := by
      rw [← List.append_assoc, ← List.append_assoc]
      exact List.Perm.append_right R List.perm_append_comm
    refine p.nodup_iff.mpr (List.nodup_append.mpr ⟨nF, k.nd, fun a ha b hb e => ?_⟩)
    subst e
    exact no a ha hb
  ls := (k.ls1.same h).app (lF.app (k.ls2.same h))
  tab := k.tab.same h

/-- what stands behind an expression that gave v for o -/
structure Post (K : PySem.W.Frag) (T : List TK) (H : Hp) (M R : List Addr) (ε' : Env') (σ : L2.St) (o : O) (v : V) (H' : Hp) (M' F : List Addr) : Prop where
  ok : Ok K T H' M' (F ++ R) ε' σ
  stp : Stp T H M H' (M' ++ F)
  rep : RepO K H' (M' ++ (F ++ R)) o v F
def PostR (K : PySem.W.Frag) (T : List TK) (H : Hp) (M R : List Addr) (ε' : Env') (σ : L2.St) (r : Ro) (v : V) (H' : Hp) (M' F : List Addr) : Prop := match r with
  | .o o => Post K T H M R ε' σ o v H' M' F
  | .b i => F = [] ∧ Ok K T H' M' R ε' σ ∧ Stp T H M H' M' ∧ σ[i]? = some (some v)
def tV (K : PySem.W.Frag) (T : List TK) (f : VF) : TE := fun σ H Q => ∃ M R ε r ε', Ok K T H M R ε σ ∧ f ε = some (r, ε') ∧ ∀ v H' M' F, PostR K T H M R ε' σ r v H' M' F → Q v H'
def tT (K : PySem.W.Frag) (T : List TK) (f : TF) : TT := fun σ H Q => ∃ M R ε b ε', Ok K T H M R ε σ ∧ f ε = some (b, ε') ∧ ∀ H' M', Ok K T H' M' R ε' σ → Stp T H M H' M' → Q b H'
structure VE (X : Cx) (T : List TK) (e : Expr) (f : VF) : Prop where
  pe : PE X e (tV X.K T f)
structure VT (X : Cx) (T : List TK) (e : Expr) (f : TF) : Prop where
  pt : PT X e (tT X.K T f)
structure VW (X : Cx) (T : List TK) (e : Expr) (f : TF) : Prop where
  pw : PW X e (tT X.K T f)
theorem PE.imp {X : Cx} {e : Expr} {t t' : TE} (h : PE X e t) (i : ∀ σ H Q, t' σ H Q → t σ H Q) : PE X e t' := ⟨fun pins s σ H Q I q => h.run pins s σ H Q I (i σ H Q q)⟩
theorem PT.imp {X : Cx} {e : Expr} {t t' : TT} (h : PT X e t) (i : ∀ σ H Q, t' σ H Q → t σ H Q) : PT X e t' := ⟨fun pins s σ H Q I q => h.run pins s σ H Q I (i σ H Q q)⟩
theorem PW.imp {X : Cx} {e : Expr} {t t' : TT} (h : PW X e t) (i : ∀ σ H Q, t' σ H Q → t σ H Q) : PW X e t' := ⟨fun w pins s σ H Q I q => h.run w pins s σ H Q I (i σ H Q q)⟩
theorem PS.imp {X : Cx} {e : Stmt} {t t' : TS} (h : PS X e t) (i : ∀ D σ H, t' D σ H → t D σ H) : PS X e t' := ⟨fun pins s σ H Q I q => h.run pins s σ H Q I (i Q σ H q)⟩
theorem PSs.imp {X : Cx} {e : List Stmt} {t t' : TS} (h : PSs X e t) (i : ∀ D σ H, t' D σ H → t D σ H) : PSs X e t' := ⟨fun pins s σ H Q I q => h.run pins s σ H Q I (i Q σ H q)⟩
theorem PA.imp {X : Cx} {e : List Expr} {t t' : TA} (h : PA X e t) (i : ∀ σ H Q, t' σ H Q → t σ H Q) : PA X e t' := ⟨fun p pins s σ H Q I q => h.run p pins s σ H Q I (i σ H Q q)⟩

theorem Post.data {o : O} {v : V} (p : Post K T H M R ε' σ o v H' M' F) : Rep K H' (M' ++ R) o.val v :=
  p.rep.freeze (fun a h => (List.mem_append.mp h).elim (fun z => List.mem_append_left _ z) fun z => List.mem_append_right _ (List.mem_append_right _ z)) _ _ _ fun a ha z => by
    have n := p.ok.nd
    rcases List.mem_append.mp z with z | z
    · exact p.ok.apart (List.mem_append_left _ ha) z
    · exact (List.nodup_append.mp (List.nodup_append.mp n).2.1).2.2 a ha a z rfl
theorem Post.ok' {o : O} {v : V} (p : Post K T H M R ε' σ o v H' M' F) : Ok K T H' M' R ε' σ := p.ok.drop
theorem Post.stp' {o : O} {v : V} (p : Post K T H M R ε' σ o v H' M' F) : Stp T H M H' M' := p.stp.less fun a h => List.mem_append_left _ h
/-- a datum -/
theorem Post.fz {d : D} {v : V} (ok : Ok K T H' M' R ε' σ) (s : Stp T H M H' M') (h : Rep K H' (M' ++ R) d v) : Post K T H M R ε' σ (.fz d) v H' M' [] :=
  ⟨ok, s.less fun a h => by simpa using h, by rw [RepO]; exact ⟨rfl, h⟩⟩
/-- what was given stays -/
theorem RepO.later {o : O} {v : V} {H1 H2 : Hp} {M1 M2 F1 F2 : List Addr} (ok : Ok K T H1 M1 (F1 ++ R) ε σ) (s : Stp T H1 M1 H2 (M2 ++ F2)) (h : RepO K H1 (M1 ++ (F1 ++ R)) o v F1) : RepO K H2 (M2 ++ (F2 ++ (F1 ++ R))) o v F1 :=
  h.mono s.keep ok.tab ok.ls1 (fun a h => List.mem_append_left _ h) (fun a h => by
    rcases List.mem_append.mp h with z | z
    · rcases s.sub a (List.mem_append_left _ z) with z | z
      · exact .inl (List.mem_append_left _ z)
      · exact .inr z
    · rcases List.mem_append.mp z with z | z
      · rcases s.sub a (List.mem_append_right _ z) with z | z
        · exact .inl (List.mem_append_left _ z)
        · exact .inr z
      · exact .inl (List.mem_append_right _ z)) _ _ _ fun a ha => ok.apart (List.mem_append_left _ ha)

/-- v is d, if d is a list it may be an owned one -/
def Rep0 (K : PySem.W.Frag) (H : Hp) (A : List Addr) : D → V → Prop
  | .lst l, v => ∃ a vs, v = .ref a ∧ H a = some (.lst vs) ∧ Reps K H A l vs
  | d, v => Rep K H A d v
theorem Rep.rep0 : ∀ {d : D} {v : V}, Rep K H A d v → Rep0 K H A d v
  | .lst l, v, h => by rw [Rep] at h; obtain ⟨a, vs, e, h1, _, h2⟩ := h; exact ⟨a, vs, e, h1, h2⟩
  | .non, _, h => h
  | .bl _, _, h => h
  | .int _, _, h => h
  | .str _, _, h => h
  | .tup _, _, h => h
  | .scr _, _, h => h
theorem Rep0.anti (hA : ∀ a ∈ A', a ∈ A) : ∀ {d : D} {v : V}, Rep0 K H A d v → Rep0 K H A' d v
  | .lst l, v, h => let ⟨a, vs, e, h1, h2⟩ := h; ⟨a, vs, e, h1, h2.anti hA⟩
  | .non, _, h => Rep.anti hA _ _ h
  | .bl _, _, h => Rep.anti hA _ _ h
  | .int _, _, h => Rep.anti hA _ _ h
  | .str _, _, h => Rep.anti hA _ _ h
  | .tup _, _, h => Rep.anti hA _ _ h
  | .scr _, _, h => Rep.anti hA _ _ h

/-- the data of a flat list -/
@[simp] def flatD : List O → Option (List D)
  | [] => some []
  | .fz d :: l => (flatD l).map (d :: ·)
  | .own _ :: _ => none
theorem flatD_fz : ∀ l : List D, flatD (l.map O.fz) = some l
  | [] => rfl
  | d :: l => by rw [List.map_cons, flatD, flatD_fz l]; rfl
theorem RepOs.flat : ∀ {l : List O} {vs : List V} {F : List Addr} {ds : List D}, RepOs K H A l vs F → flatD l = some ds → Reps K H A ds vs
  | [], _, _, ds, h, e => by rw [RepOs] at h; rw [flatD] at e; cases e; rw [Reps]; exact h.1
  | .fz d :: l, _, _, ds, h, e => by
    rw [RepOs] at h
    obtain ⟨v, r, F1, F2, e1, e2, h1, h2⟩ := h
    rw [flatD] at e
    cases q : flatD l with
    | none => rw [q] at e; cases e
    | some l' =>
      rw [q] at e
      cases e
      rw [RepO] at h1
      rw [Reps]
      exact ⟨v, r, e1, h1.2, RepOs.flat h2 q⟩
  | .own _ :: _, _, _, ds, h, e => by rw [flatD] at e; cases e
/-- what is read late -/
@[simp] def peek : Option (Option O) → Option D
  | some (some (.fz d)) => some d
  | some (some (.own l)) => (flatD l).map D.lst
  | _ => none
@[simp] def look (r : Ro) (ε : Env') : Option D := match r with
  | .o x => some x.val
  | .b i => peek ε[i]?
theorem look_slot {i : Nat} {d : D} {v : V} (ok : Ok K T H M R ε σ) (e : look (.b i) ε = some d) (h : σ[i]? = some (some v)) : Rep0 K H (M ++ R) d v := by
  replace e : peek ε[i]? = some d := e
  cases q : ε[i]? with
  | none => rw [q] at e; cases e
  | some x =>
    cases x with
    | none => rw [q] at e; cases e
    | some o =>
      obtain ⟨v', F2, g1, g2, g3⟩ := ok.rep.get q
      rw [h] at g1
      cases g1
      cases o with
      | fz d' =>
        rw [q] at e
        cases e
        rw [RepO] at g2
        exact g2.2.rep0
      | own l =>
        rw [q, peek] at e
        cases q2 : flatD l with
        | none => rw [q2] at e; cases e
        | some ds =>
          rw [q2] at e
          cases e
          rw [RepO] at g2
          obtain ⟨a, vs, F', e1, h1, _, h2⟩ := g2
          exact ⟨a, vs, e1, h1, h2.flat q2⟩
/-- a result of new objects and what was there -/
structure New (K : PySem.W.Frag) (H : Hp) (A : List Addr) (o : O) (v : V) (H' : Hp) (F : List Addr) : Prop where
  same : Same H H'
  new : ∀ a ∈ F, H a = none
  nd : F.Nodup
  rep : RepO K H' (F ++ A) o v F
theorem New.post {o : O} {v : V} (ok : Ok K T H M R ε σ) (n : New K H (M ++ R) o v H' F) : Post K T H M R ε σ o v H' M F where
  ok := ok.new n.same n.new n.nd (n.rep.ls _ _ _)
  stp := ⟨.ofSame n.same, fun b o e => ⟨o, n.same b o e⟩, fun a ha => (List.mem_append.mp ha).elim .inl fun z => .inr (n.new a z), (Stp.ofSame (T := T) (M := M) n.same).grow⟩
  rep := n.rep.anti (fun a ha => by
    rcases List.mem_append.mp ha with z | z
    · exact List.mem_append_right _ (List.mem_append_left _ z)
    · rcases List.mem_append.mp z with z | z
      · exact List.mem_append_left _ z
      · exact List.mem_append_right _ (List.mem_append_right _ z)) _ _ _
theorem Post.before {o : O} {v : V} {H1 : Hp} {M1 : List Addr} (s : Stp T H M H1 M1) (p : Post K T H1 M1 R ε' σ o v H' M' F) : Post K T H M R ε' σ o v H' M' F := ⟨p.ok, s.trans p.stp, p.rep⟩
/-- a datum without anything new -/
theorem New.fz {d : D} {v : V} (h : Rep K H A d v) : New K H A (.fz d) v H [] where
  same := Same.refl _
  new := fun a h => by cases h
  nd := List.nodup_nil
  rep := by
    rw [RepO]
    exact ⟨rfl, h⟩
/-- a new tuple -/
theorem New.tup {l : List D} {vs : List V} {p : Addr} (h : Reps K H A l vs) (lA : Lists H A) (tA : Tabs T H) (hp : H p = none) : New K H A (.fz (.tup l)) (.ref p) (upd H p (.tup vs)) [] where
  same := fun b o e => by rw [upd_ne (ne_of_none e hp)]; exact e
  new := fun a h => by cases h
  nd := List.nodup_nil
  rep := by
    rw [RepO, Rep]
    refine ⟨rfl, p, vs, rfl, SqT.of upd_same, ?_⟩
    exact h.mono (T := T) (M := []) (fun b o e _ _ => by rw [upd_ne (ne_of_none e hp)]; exact e) tA .nil (fun a h => by cases h) (fun a h => .inl h)
/-- a new list of data -/
theorem New.lst {l : List D} {vs : List V} {p : Addr} (h : Reps K H A l vs) (lA : Lists H A) (tA : Tabs T H) (hp : H p = none) : New K H A (.own (l.map O.fz)) (.ref p) (upd H p (.lst vs)) [p] where
  same := fun b o e => by rw [upd_ne (ne_of_none e hp)]; exact e
  new := fun a h => by
    have e : a = p := by simpa using h
    rw [e]; exact hp
  nd := by simp
  rep := by
    rw [RepO]
    refine ⟨p, vs, [], rfl, upd_same, rfl, RepOs.data ?_⟩
    exact h.mono (T := T) (M := []) (fun b o e _ _ => by rw [upd_ne (ne_of_none e hp)]; exact e) tA .nil (fun a h => by cases h) (fun a h => by
      rcases List.mem_append.mp h with z | z
      · have e : a = p := by simpa using z
        rw [e]; exact .inr hp
      · exact .inl z)

/-! ### names, constants -/
/-- slot i, from now on data -/
@[simp] def vRd (i : Nat) : VF := fun ε => match ε[i]? with
  | some (some o) => some (.o (.fz o.val), ε.set i (some (.fz o.val)))
  | _ => none
/-- slot i, moved out -/
@[simp] def vMv (i : Nat) : VF := fun ε => match ε[i]? with
  | some (some o) => some (.o o, ε.set i none)
  | _ => none
/-- slot i, looked at late -/
@[simp] def vBw (i : Nat) : VF := fun ε => match ε[i]? with
  | some (some _) => some (.b i, ε)
  | _ => none
@[simp] def vC (d : D) : VF := fun ε => some (.o (.fz d), ε)

theorem Ok.take {i : Nat} {o : O} (k : Ok K T H M R ε σ) (e : ε[i]? = some (some o)) : ∃ v F M', σ[i]? = some (some v) ∧ M.Perm (F ++ M') ∧ RepO K H (M ++ R) o v F ∧ Ok K T H M' (F ++ R) (ε.set i none) σ := by
  obtain ⟨v, F2, G, h1, h2, h3, h4⟩ := k.rep.take e
  refine ⟨v, F2, G, h1, h2, h3, ?_, ?_, ?_, k.tab⟩
  · refine h4.anti fun a ha => ?_
    rcases List.mem_append.mp ha with z | z
    · exact List.mem_append_left _ (h2.mem_iff.mpr (List.mem_append_right _ z))
    · rcases List.mem_append.mp z with z | z
      · exact List.mem_append_left _ (h2.mem_iff.mpr (List.mem_append_left _ z))
      · exact List.mem_append_right _ z
  · have p : (G ++ (F2 ++ R)).Perm (M ++ R) := by
      rw [← List.append_assoc]
      exact List.Perm.append_right R (List.perm_append_comm.trans h2.symm)
    exact p.nodup_iff.mpr k.nd
  · refine k.ls.sub fun a ha => ?_
    rcases List.mem_append.mp ha with z | z
    · exact List.mem_append_left _ (h2.mem_iff.mpr (List.mem_append_right _ z))
    · rcases List.mem_append.mp z with z | z
      · exact List.mem_append_left _ (h2.mem_iff.mpr (List.mem_append_left _ z))
      · exact List.mem_append_right _ z
/-- the other way: what is held goes to slot i (σ' has it there) -/
theorem Ok.put {i : Nat} {o : O} {v : V} (k : Ok K T H M (F ++ R) (ε.set i none) σ) (h : RepO K H (M ++ (F ++ R)) o v F) (hi : i < ε.length) : ∃ M', M'.Perm (F ++ M) ∧ Ok K T H M' R (ε.set i (some o)) (σ.set i (some v)) := by
  obtain ⟨M', h1, h2⟩ := k.rep.put h hi
  have mem : ∀ a, a ∈ M' ++ R ↔ a ∈ M ++ (F ++ R) := fun a => by
    simp only [List.mem_append, h1.mem_iff]
    constructor
    · rintro ((z | z) | z)
      · exact .inr (.inl z)
      · exact .inl z
      · exact .inr (.inr z)
    · rintro (z | z | z)
      · exact .inl (.inr z)
      · exact .inl (.inl z)
      · exact .inr z
  refine ⟨M', h1, h2.anti fun a ha => (mem a).mp ha, ?_, k.ls.sub fun a ha => (mem a).mp ha, k.tab⟩
  have p : (M' ++ R).Perm (M ++ (F ++ R)) := by
    refine (List.Perm.append_right R (h1.trans List.perm_append_comm)).trans ?_
    rw [List.append_assoc]
  exact p.nodup_iff.mpr k.nd
theorem Ok.put' {i : Nat} {o : O} {v : V} (k : Ok K T H M (F ++ R) (ε.set i none) σ) (h : RepO K H (M ++ (F ++ R)) o v F) (hi : σ[i]? = some (some v)) : ∃ M', M'.Perm (F ++ M) ∧ Ok K T H M' R (ε.set i (some o)) σ := by
  obtain ⟨hi', e⟩ := List.getElem?_eq_some_iff.mp hi
  have hl := k.len
  rw [List.length_set] at hl
  obtain ⟨M', h1, h2⟩ := k.put h (i := i) (by omega)
  have e2 : σ.set i (some v) = σ := by
    rw [← e, List.set_getElem_self]
  rw [e2] at h2
  exact ⟨M', h1, h2⟩

/-- slot i given up: data -/
theorem Ok.frozen {i : Nat} {o : O} (k : Ok K T H M R ε σ) (e : ε[i]? = some (some o)) : ∃ v M', σ[i]? = some (some v) ∧ (∀ a ∈ M', a ∈ M) ∧ Ok K T H M' R (ε.set i (some (.fz o.val))) σ ∧ Rep K H (M' ++ R) o.val v := by
  obtain ⟨v, F, M1, h1, h2, h3, h4⟩ := k.take e
  have sub : ∀ a ∈ M1, a ∈ M := fun a ha => h2.mem_iff.mpr (List.mem_append_right _ ha)
  have fr : Rep K H (M1 ++ R) o.val v := h3.freeze (fun a ha => (List.mem_append.mp ha).elim (fun z => List.mem_append_left _ (sub a z)) fun z => List.mem_append_right _ z) _ _ _ fun a ha z => by
    rcases List.mem_append.mp z with z | z
    · exact h4.apart (List.mem_append_left _ ha) z
    · exact (List.nodup_append.mp (List.nodup_append.mp h4.nd).2.1).2.2 a ha a z rfl
  have h5 : Ok K T H M1 ([] ++ R) (ε.set i none) σ := h4.drop
  obtain ⟨M2, p, h6⟩ := h5.put' (o := .fz o.val) (v := v) (by rw [RepO]; exact ⟨rfl, fr⟩) h1
  have m : ∀ a, a ∈ M2 ↔ a ∈ M1 := fun a => by simpa using p.mem_iff (a := a)
  exact ⟨v, M2, h1, fun a ha => sub a ((m a).mp ha), h6, fr.anti (fun a ha => (List.mem_append.mp ha).elim (fun z => List.mem_append_left _ ((m a).mp z)) fun z => List.mem_append_right _ z)⟩

variable {X : Cx}
theorem ve_rd {i : Nat} {x : Str} {pos : Pos} (hN : X.N[i]? = some x) (hv : Vis X.env.scope x) (hd : (x == ("__debug__" : Str)) = false) (hcd : (x == ("__classdict__" : Str)) = false) : VE X T (.Name x pos) (vRd i) := by
  refine ⟨PE.imp (pe_var hN hv hd hcd) fun σ H Q h => ?_⟩
  obtain ⟨M, R, ε, r, ε', ok, hf, post⟩ := h
  unfold vRd at hf
  split at hf
  · rename_i o e
    obtain ⟨v, M', h1, h2, h3, h4⟩ := ok.frozen e
    cases hf
    exact ⟨v, h1, post v H M' [] (Post.fz h3 ⟨.refl, fun b o e => ⟨o, e⟩, fun a ha => .inl (h2 a ha), Stp.refl.grow (T := T) (M := M)⟩ h4)⟩
  · cases hf
theorem ve_mv {i : Nat} {x : Str} {pos : Pos} (hN : X.N[i]? = some x) (hv : Vis X.env.scope x) (hd : (x == ("__debug__" : Str)) = false) (hcd : (x == ("__classdict__" : Str)) = false) : VE X T (.Name x pos) (vMv i) := by
  refine ⟨PE.imp (pe_var hN hv hd hcd) fun σ H Q h => ?_⟩
  obtain ⟨M, R, ε, r, ε', ok, hf, post⟩ := h
  unfold vMv at hf
  split at hf
  · rename_i o e
    obtain ⟨v, F, M', h1, h2, h3, h4⟩ := ok.take e
    cases hf
    have mem : ∀ a, a ∈ M' ++ (F ++ R) → a ∈ M ++ R := fun a ha => by
      rcases List.mem_append.mp ha with z | z
      · exact List.mem_append_left _ (h2.mem_iff.mpr (List.mem_append_right _ z))
      · rcases List.mem_append.mp z with z | z
        · exact List.mem_append_left _ (h2.mem_iff.mpr (List.mem_append_left _ z))
        · exact List.mem_append_right _ z
    refine ⟨v, h1, post v H M' F ⟨h4, ⟨.refl, fun b o e => ⟨o, e⟩, fun a ha => .inl (h2.mem_iff.mpr ?_), Stp.refl.grow (T := T) (M := M)⟩, h3.anti mem _ _ _⟩⟩
    exact (List.perm_append_comm.mem_iff).mp ha
  · cases hf
theorem ve_bw {i : Nat} {x : Str} {pos : Pos} (hN : X.N[i]? = some x) (hv : Vis X.env.scope x) (hd : (x == ("__debug__" : Str)) = false) (hcd : (x == ("__classdict__" : Str)) = false) : VE X T (.Name x pos) (vBw i) := by
  refine ⟨PE.imp (pe_var hN hv hd hcd) fun σ H Q h => ?_⟩
  obtain ⟨M, R, ε, r, ε', ok, hf, post⟩ := h
  unfold vBw at hf
  split at hf
  · rename_i o e
    obtain ⟨v, F2, g1, _, _⟩ := ok.rep.get e
    cases hf
    exact ⟨v, g1, post v H M [] ⟨rfl, ok, .refl, g1⟩⟩
  · cases hf
theorem ve_c {d : D} {v : V} {e : Expr} (h : PE X e (tC v)) (hr : ∀ K H A, Rep K H A d v) : VE X T e (vC d) := by
  refine ⟨PE.imp h fun σ H Q h => ?_⟩
  obtain ⟨M, R, ε, r, ε', ok, hf, post⟩ := h
  cases hf
  exact post v H M [] (Post.fz ok .refl (hr _ _ _))
theorem ve_int {i j pos} : VE X T (.Constant (.int i) j pos) (vC (.int i)) := ve_c pe_int fun _ _ _ => by rw [Rep]
theorem ve_bl {b j pos} : VE X T (.Constant (.bool b) j pos) (vC (.bl b)) := ve_c pe_bl fun _ _ _ => by rw [Rep]
theorem ve_non {j pos} : VE X T (.Constant .none j pos) (vC .non) := ve_c pe_non fun _ _ _ => by rw [Rep]
theorem ve_str {x j pos} : VE X T (.Constant (.str x) j pos) (vC (.str x)) := ve_c pe_str fun _ _ _ => by rw [Rep]

/-! ### values one after another -/
@[simp] def evs : List VF → Env' → Option (List Ro × Env')
  | [], ε => some ([], ε)
  | f :: fs, ε => match f ε with
    | some (r, ε1) => match evs fs ε1 with
      | some (rs, ε2) => some (r :: rs, ε2)
      | none => none
    | none => none
section
variable (K : PySem.W.Frag) (H : Hp) (A : List Addr) (σ : L2.St)
def Held : List Ro → List V → List Addr → Prop
  | [], vs, F => vs = [] ∧ F = []
  | .o o :: rs, vs, F => ∃ v r F1 F2, vs = v :: r ∧ F = F1 ++ F2 ∧ RepO K H A o v F1 ∧ Held rs r F2
  | .b i :: rs, vs, F => ∃ v r, vs = v :: r ∧ σ[i]? = some (some v) ∧ Held rs r F
end
theorem Held.mono (k : Keep T H M H') (t : Tabs T H) (l : Lists H M) (hM : ∀ a ∈ M, a ∈ A) (hA : ∀ a ∈ A', a ∈ A ∨ H a = none) : ∀ {rs : List Ro} {vs : List V} {F : List Addr}, Held K H A σ rs vs F → (∀ a ∈ F, a ∉ M) → Held K H' A' σ rs vs F
  | [], _, _, h, _ => h
  | .o o :: rs, _, _, ⟨v, r, F1, F2, e, e2, h1, h2⟩, hF => by
    subst e2
    exact ⟨v, r, F1, F2, e, rfl, h1.mono k t l hM hA _ _ _ (fun a ha => hF a (List.mem_append_left _ ha)), Held.mono k t l hM hA h2 fun a ha => hF a (List.mem_append_right _ ha)⟩
  | .b i :: rs, _, _, ⟨v, r, e, e2, h⟩, hF => ⟨v, r, e, e2, Held.mono k t l hM hA h hF⟩
theorem Held.anti (hA : ∀ a ∈ A', a ∈ A) : ∀ {rs : List Ro} {vs : List V} {F : List Addr}, Held K H A σ rs vs F → Held K H A' σ rs vs F
  | [], _, _, h => h
  | .o o :: rs, _, _, ⟨v, r, F1, F2, e, e2, h1, h2⟩ => ⟨v, r, F1, F2, e, e2, h1.anti hA, Held.anti hA h2⟩
  | .b i :: rs, _, _, ⟨v, r, e, e2, h⟩ => ⟨v, r, e, e2, Held.anti hA h⟩
structure PostL (K : PySem.W.Frag) (T : List TK) (H : Hp) (M R : List Addr) (ε' : Env') (σ : L2.St) (rs : List Ro) (vs : List V) (H' : Hp) (M' F : List Addr) : Prop where
  ok : Ok K T H' M' (F ++ R) ε' σ
  stp : Stp T H M H' (M' ++ F)
  rep : Held K H' (M' ++ (F ++ R)) σ rs vs F
theorem Stp.two {H1 H2 : Hp} {M1 F1 M2 F2 : List Addr} (p : Stp T H M H1 (M1 ++ F1)) (q : Stp T H1 M1 H2 (M2 ++ F2)) : Stp T H M H2 (M2 ++ (F1 ++ F2)) where
  keep := fun b o h hm ht => q.keep b o (p.keep b o h hm ht) (fun z => (p.sub b (List.mem_append_left _ z)).elim hm fun z => by rw [h] at z; cases z) ht
  live := fun b o h => let ⟨o', h'⟩ := p.live b o h; q.live b o' h'
  grow := fun P ps h => by
    obtain ⟨m1, h1⟩ := p.grow P ps h
    obtain ⟨m2, h2⟩ := q.grow P _ h1
    exact ⟨m1 ++ m2, by rw [h2, Array.append_assoc]⟩
  sub := fun a ha => by
    have go : a ∈ M2 ++ F2 → a ∈ M ∨ H a = none := fun z => (q.sub a z).elim (fun z => p.sub a (List.mem_append_left _ z)) fun z => .inr (p.back z)
    rcases List.mem_append.mp ha with z | z
    · exact go (List.mem_append_left _ z)
    · rcases List.mem_append.mp z with z | z
      · exact p.sub a (List.mem_append_right _ z)
      · exact go (List.mem_append_right _ z)
theorem PostR.cons {r : Ro} {rs : List Ro} {x : V} {vs : List V} {H1 H2 : Hp} {M1 F1 M2 F2 : List Addr} {ε1 ε2 : Env'} (p : PostR K T H M R ε1 σ r x H1 M1 F1) (q : PostL K T H1 M1 (F1 ++ R) ε2 σ rs vs H2 M2 F2) :
    PostL K T H M R ε2 σ (r :: rs) (x :: vs) H2 M2 (F1 ++ F2) := by
  cases r with
  | o o =>
    obtain ⟨ok, stp, rep⟩ := p
    refine ⟨q.ok.swap, stp.two q.stp, x, vs, F1, F2, rfl, rfl, ?_, q.rep.anti fun a ha => ?_⟩
    · refine (RepO.later ok q.stp rep).anti (fun a ha => ?_) _ _ _
      simp only [List.mem_append] at ha ⊢
      rcases ha with z | (z | z) | z
      · exact .inl z
      · exact .inr (.inr (.inl z))
      · exact .inr (.inl z)
      · exact .inr (.inr (.inr z))
    · simp only [List.mem_append] at ha ⊢
      rcases ha with z | (z | z) | z
      · exact .inl z
      · exact .inr (.inr (.inl z))
      · exact .inr (.inl z)
      · exact .inr (.inr (.inr z))
  | b i =>
    obtain ⟨rfl, ok, stp, e⟩ := p
    refine ⟨q.ok, ?_, x, vs, rfl, e, q.rep⟩
    exact Stp.two (F1 := []) (by rw [List.append_nil]; exact stp) q.stp
/-- one value after another, then k -/
def chain (K : PySem.W.Frag) (T : List TK) : List VF → L2.St → Hp → (List V → Hp → Prop) → Prop
  | [], _, H, k => k [] H
  | f :: fs, σ, H, k => tV K T f σ H fun v H1 => chain K T fs σ H1 fun vs H2 => k (v :: vs) H2
theorem chain_of : ∀ {fs : List VF} {H : Hp} {k : List V → Hp → Prop} {M R : List Addr} {ε ε' : Env'} {rs : List Ro}, Ok K T H M R ε σ → evs fs ε = some (rs, ε') → (∀ vs H' M' F, PostL K T H M R ε' σ rs vs H' M' F → k vs H') → chain K T fs σ H k
  | [], H, k, M, R, ε, ε', rs, ok, he, h => by
    cases he
    exact h [] H M [] ⟨ok, Stp.refl.less fun a ha => by simpa using ha, rfl, rfl⟩
  | f :: fs, H, k, M, R, ε, ε', rs, ok, he, h => by
    rw [evs] at he
    split at he
    · rename_i r ε1 h1
      split at he
      · rename_i rs' ε2 h2
        cases he
        refine ⟨M, R, ε, r, ε1, ok, h1, fun v H1 M1 F1 P1 => ?_⟩
        have ok1 : Ok K T H1 M1 (F1 ++ R) ε1 σ := by
          cases r with
          | o o => exact P1.ok
          | b i => obtain ⟨rfl, ok, _, _⟩ := P1; exact ok
        exact chain_of ok1 h2 fun vs H' M' F P2 => h (v :: vs) H' M' _ (P1.cons P2)
      · cases he
    · cases he

@[simp] def looks : List Ro → Env' → Option (List D)
  | [], _ => some []
  | r :: rs, ε => match look r ε, looks rs ε with
    | some d, some ds => some (d :: ds)
    | _, _ => none
def Rep0s (K : PySem.W.Frag) (H : Hp) (A : List Addr) : List D → List V → Prop
  | [], vs => vs = []
  | d :: l, vs => ∃ v r, vs = v :: r ∧ Rep0 K H A d v ∧ Rep0s K H A l r
theorem Held.look (ok : Ok K T H M R ε σ) (hA : ∀ a ∈ M ++ R, a ∈ A) : ∀ {rs : List Ro} {vs : List V} {F : List Addr} {ds : List D}, Held K H A σ rs vs F → (∀ a ∈ F, a ∉ M ++ R) → looks rs ε = some ds → Rep0s K H (M ++ R) ds vs
  | [], _, _, ds, h, _, e => by cases e; exact h.1
  | r :: rs, vs, F, ds, h, hF, e => by
    rw [looks] at e
    split at e
    · rename_i d ds' h1 h2
      cases e
      cases r with
      | o o =>
        obtain ⟨v, r, F1, F2, e, rfl, g1, g2⟩ := h
        cases h1
        exact ⟨v, r, e, (g1.freeze hA _ _ _ fun a ha => hF a (List.mem_append_left _ ha)).rep0, Held.look ok hA g2 (fun a ha => hF a (List.mem_append_right _ ha)) h2⟩
      | b i =>
        obtain ⟨v, r, e, g1, g2⟩ := h
        exact ⟨v, r, e, look_slot ok h1 g1, Held.look ok hA g2 hF h2⟩
    · cases e
theorem PostL.look {rs : List Ro} {vs : List V} {ds : List D} (p : PostL K T H M R ε' σ rs vs H' M' F) (e : looks rs ε' = some ds) : Rep0s K H' (M' ++ R) ds vs :=
  p.rep.look p.ok.drop (fun a h => (List.mem_append.mp h).elim (fun z => List.mem_append_left _ z) fun z => List.mem_append_right _ (List.mem_append_right _ z)) (fun a ha z => by
    have n := p.ok.nd
    rcases List.mem_append.mp z with z | z
    · exact p.ok.apart (List.mem_append_left _ ha) z
    · exact (List.nodup_append.mp (List.nodup_append.mp n).2.1).2.2 a ha a z rfl) e
/-- the end: something made of the data -/
theorem PostL.made {rs : List Ro} {vs : List V} {o : O} {v : V} {H2 : Hp} {F2 : List Addr} (p : PostL K T H M R ε' σ rs vs H' M' F) (n : New K H' (M' ++ R) o v H2 F2) : Post K T H M R ε' σ o v H2 M' F2 :=
  (n.post p.ok.drop).before (p.stp.less fun a h => List.mem_append_left _ h)

/-! ### operators and calls by data -/
/-- a reading by data: of arguments -/
def rP (K : PySem.W.Frag) (T : List TK) (p : List D → Option O) : List V → Hp → VK → Prop := fun vs H Q => ∃ A ds o, Lists H A ∧ Tabs T H ∧ Rep0s K H A ds vs ∧ p ds = some o ∧ ∀ v H' F, New K H A o v H' F → Q v H'
def rP2 (K : PySem.W.Frag) (T : List TK) (p : D → D → Option O) : R2 := fun x y H Q => ∃ A d e o, Lists H A ∧ Tabs T H ∧ Rep0 K H A d x ∧ Rep0 K H A e y ∧ p d e = some o ∧ ∀ v H' F, New K H A o v H' F → Q v H'
def rP1 (K : PySem.W.Frag) (T : List TK) (p : D → Option O) : V → Hp → VK → Prop := fun x H Q => ∃ A d o, Lists H A ∧ Tabs T H ∧ Rep0 K H A d x ∧ p d = some o ∧ ∀ v H' F, New K H A o v H' F → Q v H'
theorem OpR.imp {X : Cx} {f : Value → Value → Sem Value} {r r' : R2} (h : OpR X f r) (i : ∀ x y H Q, r' x y H Q → r x y H Q) : OpR X f r' := fun pins s σ H x y v u Q I rx ry q => h pins s σ H x y v u Q I rx ry (i x y H Q q)
theorem UnR.imp {X : Cx} {f : Value → Sem Value} {r r' : V → Hp → VK → Prop} (h : UnR X f r) (i : ∀ x H Q, r' x H Q → r x H Q) : UnR X f r' := fun pins s σ H x v Q I rx q => h pins s σ H x v Q I rx (i x H Q q)
theorem CallR.imp {X : Cx} {f : Value} {r r' : List V → Hp → VK → Prop} (h : CallR X f r) (i : ∀ xs H Q, r' xs H Q → r xs H Q) : CallR X f r' := fun pins s σ H xs us Q I rx q => h pins s σ H xs us Q I rx (i xs H Q q)
theorem IxR.imp {X : Cx} {r r' : R2} (h : IxR X r) (i : ∀ x y H Q, r' x y H Q → r x y H Q) : IxR X r' := fun a b pins s σ H x y v u Q I rx ry q => h a b pins s σ H x y v u Q I rx ry (i x y H Q q)
theorem MtR.imp {X : Cx} {id : String} {r r' : V → List V → Hp → VK → Prop} (h : MtR X id r) (i : ∀ x xs H Q, r' x xs H Q → r x xs H Q) : MtR X id r' := fun pins s σ H x xs v us Q I rx rs q => h pins s σ H x xs v us Q I rx rs (i x xs H Q q)

@[simp] def vBin (p : D → D → Option O) (f g : VF) : VF := fun ε => match f ε with
  | some (r1, ε1) => match g ε1 with
    | some (r2, ε2) => match look r1 ε2, look r2 ε2 with
      | some d, some e => match p d e with
        | some o => some (.o o, ε2)
        | none => none
      | _, _ => none
    | none => none
  | none => none
@[simp] def vUn (p : D → Option O) (f : VF) : VF := fun ε => match f ε with
  | some (r1, ε1) => match look r1 ε1 with
      | some d => match p d with
        | some o => some (.o o, ε1)
        | none => none
      | none => none
  | none => none
@[simp] def vPrim (p : List D → Option O) (fs : List VF) : VF := fun ε => match evs fs ε with
  | some (rs, ε1) => match looks rs ε1 with
      | some ds => match p ds with
        | some o => some (.o o, ε1)
        | none => none
      | none => none
  | none => none
theorem tOp_of {p : D → D → Option O} {f g : VF} {H : Hp} {Q : VK} (h : tV K T (vBin p f g) σ H Q) : tOp (rP2 K T p) (tV K T f) (tV K T g) σ H Q := by
  obtain ⟨M, R, ε, r, ε', ok, hf, post⟩ := h
  unfold vBin at hf
  split at hf
  · rename_i r1 ε1 h1
    split at hf
    · rename_i r2 ε2 h2
      split at hf
      · rename_i d e g1 g2
        split at hf
        · rename_i o ho
          cases hf
          have he : evs [f, g] ε = some ([r1, r2], ε') := by simp only [evs, h1, h2]
          refine chain_of (fs := [f, g]) (k := fun vs H2 => match vs with | [x, y] => rP2 K T p x y H2 Q | _ => False) ok he fun vs H' M' F P => ?_
          have hl : looks [r1, r2] ε' = some [d, e] := by simp only [looks, g1, g2]
          have hd := P.look hl
          obtain ⟨x, r, rfl, hx, y, r', rfl, hy, rfl⟩ := hd
          exact ⟨M' ++ R, d, e, o, P.ok.drop.ls, P.ok.tab, hx, hy, ho, fun v H2 F2 n => post v H2 M' F2 (P.made n)⟩
        · cases hf
      · cases hf
    · cases hf
  · cases hf
theorem tUn_of {p : D → Option O} {f : VF} {H : Hp} {Q : VK} (h : tV K T (vUn p f) σ H Q) : tUn (rP1 K T p) (tV K T f) σ H Q := by
  obtain ⟨M, R, ε, r, ε', ok, hf, post⟩ := h
  unfold vUn at hf
  split at hf
  · rename_i r1 ε1 h1
    split at hf
    · rename_i d g1
      split at hf
      · rename_i o ho
        cases hf
        have he : evs [f] ε = some ([r1], ε') := by simp only [evs, h1]
        refine chain_of (fs := [f]) (k := fun vs H2 => match vs with | [x] => rP1 K T p x H2 Q | _ => False) ok he fun vs H' M' F P => ?_
        have hl : looks [r1] ε' = some [d] := by simp only [looks, g1]
        have hd := P.look hl
        obtain ⟨x, r, rfl, hx, rfl⟩ := hd
        exact ⟨M' ++ R, d, o, P.ok.drop.ls, P.ok.tab, hx, ho, fun v H2 F2 n => post v H2 M' F2 (P.made n)⟩
      · cases hf
    · cases hf
  · cases hf
theorem tPrim_of {p : List D → Option O} {fs : List VF} {H : Hp} {Q : VK} (h : tV K T (vPrim p fs) σ H Q) : chain K T fs σ H fun vs H2 => rP K T p vs H2 Q := by
  obtain ⟨M, R, ε, r, ε', ok, hf, post⟩ := h
  unfold vPrim at hf
  split at hf
  · rename_i rs ε1 h1
    split at hf
    · rename_i ds g1
      split at hf
      · rename_i o ho
        cases hf
        exact chain_of ok h1 fun vs H' M' F P => ⟨M' ++ R, ds, o, P.ok.drop.ls, P.ok.tab, P.look g1, ho, fun v H2 F2 n => post v H2 M' F2 (P.made n)⟩
      · cases hf
    · cases hf
  · cases hf

variable {a b : Expr} {f g : VF} {pos : Pos}
theorem ve_bin {op : Operator} {p : D → D → Option O} (ho : OpR X (binaryOp op) (rP2 X.K T p)) (ha : VE X T a f) (hb : VE X T b g) : VE X T (.BinOp a op b pos) (vBin p f g) :=
  ⟨PE.imp (pe_op ho ha.pe hb.pe) fun _ _ _ h => tOp_of h⟩
theorem ve_cmp {op : CmpOp} {p : D → D → Option O} (ho : OpR X (compareOp op) (rP2 X.K T p)) (hm : behindInMarks op b = false) (ha : VE X T a f) (hb : VE X T b g) : VE X T (.Compare a [op] [b] pos) (vBin p f g) :=
  ⟨PE.imp (pe_cmpR ho ha.pe hb.pe hm) fun _ _ _ h => tOp_of h⟩
theorem ve_un {op : UnaryOp} {p : D → Option O} (ho : UnR X (unaryOp op) (rP1 X.K T p)) (ha : VE X T a f) (hp : op ≠ .Not) : VE X T (.UnaryOp op a pos) (vUn p f) :=
  ⟨PE.imp (pe_un ho ha.pe) fun _ _ _ h => tUn_of h⟩
theorem ve_ix {p : D → D → Option O} (ho : IxR X (rP2 X.K T p)) (hs : PlainIx b) (ha : VE X T a f) (hb : VE X T b g) : VE X T (.Subscript a b pos) (vBin p f g) :=
  ⟨PE.imp (pe_ix ho ha.pe hb.pe hs) fun _ _ _ h => tOp_of h⟩
structure VA (X : Cx) (T : List TK) (es : List Expr) (fs : List VF) : Prop where
  pa : PA X es (fun σ H Q => chain X.K T fs σ H Q)
theorem va_nil : VA X T [] [] := ⟨PA.imp pa_nil fun _ _ _ h => h⟩
theorem va_cons {e : Expr} {es : List Expr} {fs : List VF} (ha : VE X T e f) (hr : VA X T es fs) (hs : starEach (e :: es) X.env = (false, eval e X.env) :: starEach es X.env := by rfl) : VA X T (e :: es) (f :: fs) :=
  ⟨PA.imp (pa_cons ha.pe hr.pa hs) fun _ _ _ h => h⟩
theorem ve_callB {x : Str} {id : String} {p : List D → Option O} {e : Expr} {es : List Expr} {fs : List VF} {pn : Pos} (hc : CallR X (.builtin id) (rP X.K T p)) (hg : Gl X x) (hm : X.mg x = none) (hv : bootBuiltins x = some (.builtin id)) (ha : VA X T (e :: es) fs)
    (hn : x ≠ "__name__") (hdb : (x == ("__debug__" : Str)) = false) (he : starEach (e :: es) X.env = (false, eval e X.env) :: starEach es X.env := by rfl) (hpl : (backTo pos (starEach es X.env)).any (·.1) = false := by rfl) : VE X T (.Call (.Name x pn) (e :: es) [] pos) (vPrim p fs) :=
  ⟨PE.imp (pe_callB hc hg hm hv ha.pa hn hdb he hpl) fun _ _ _ h => tPrim_of h⟩
theorem ve_callTy {x : Str} {ty : String} {p : List D → Option O} {e : Expr} {es : List Expr} {fs : List VF} {pn : Pos} (hc : CallR X (.type ty) (rP X.K T p)) (hg : Gl X x) (hm : X.mg x = none) (hv : bootBuiltins x = some (.type ty)) (ha : VA X T (e :: es) fs)
    (hn : x ≠ "__name__") (hdb : (x == ("__debug__" : Str)) = false) (he : starEach (e :: es) X.env = (false, eval e X.env) :: starEach es X.env := by rfl) (hpl : (backTo pos (starEach es X.env)).any (·.1) = false := by rfl) : VE X T (.Call (.Name x pn) (e :: es) [] pos) (vPrim p fs) :=
  ⟨PE.imp (pe_callTy hc hg hm hv ha.pa hn hdb he hpl) fun _ _ _ h => tPrim_of h⟩
end
end VS


set_option Elab.async false
set_option linter.all false
/-! VS2: tests, statements, loops. -/
namespace VS
open PySem PySem.Spec PyProof.Rows L2

inductive Fl where
  | nx | rt (o : O) | bk | ct
abbrev SF := Env' → Option (Fl × Env')
abbrev BF := D → Env' → Option Env'

section
variable {K : PySem.W.Frag} {T : List TK} {P : List Nat} {H H' H'' : Hp} {M M' M'' R R' F F' A A' : List Addr} {ε ε' : Env'} {σ σ' σ'' : L2.St} {X : Cx}

/-! ### tests -/
@[simp] def tVal (f : VF) : TF := fun ε => match f ε with
  | some (.o (.fz (.bl b)), ε1) => some (b, ε1)
  | _ => none
@[simp] def tNo (f : TF) : TF := fun ε => match f ε with
  | some (b, ε1) => some (!b, ε1)
  | none => none
@[simp] def tAn (f g : TF) : TF := fun ε => match f ε with
  | some (true, ε1) => g ε1
  | some (false, ε1) => some (false, ε1)
  | none => none
@[simp] def tOr' (f g : TF) : TF := fun ε => match f ε with
  | some (true, ε1) => some (true, ε1)
  | some (false, ε1) => g ε1
  | none => none
/-- a test as a value -/
@[simp] def vT (f : TF) : VF := fun ε => match f ε with
  | some (b, ε1) => some (.o (.fz (.bl b)), ε1)
  | none => none
@[simp] def vAn (f g : VF) : VF := fun ε => match f ε with
  | some (.o (.fz (.bl true)), ε1) => g ε1
  | some (.o (.fz (.bl false)), ε1) => some (.o (.fz (.bl false)), ε1)
  | _ => none
@[simp] def vOr (f g : VF) : VF := fun ε => match f ε with
  | some (.o (.fz (.bl true)), ε1) => some (.o (.fz (.bl true)), ε1)
  | some (.o (.fz (.bl false)), ε1) => g ε1
  | _ => none
@[simp] def vNo (f : VF) : VF := fun ε => match f ε with
  | some (.o (.fz (.bl b)), ε1) => some (.o (.fz (.bl (!b))), ε1)
  | _ => none
@[simp] def vIf (c : TF) (f g : VF) : VF := fun ε => match c ε with
  | some (true, ε1) => f ε1
  | some (false, ε1) => g ε1
  | none => none

theorem PostR.before {r : Ro} {v : V} {H1 : Hp} {M1 : List Addr} (s : Stp T H M H1 M1) (p : PostR K T H1 M1 R ε' σ r v H' M' F) : PostR K T H M R ε' σ r v H' M' F := by
  cases r with
  | o o => exact Post.before s p
  | b i =>
    obtain ⟨e, ok, st, h⟩ := p
    exact ⟨e, ok, s.trans st, h⟩
theorem Post.bool {b : Bool} {v : V} (p : Post K T H M R ε' σ (.fz (.bl b)) v H' M' F) : v = .bl b ∧ F = [] ∧ Ok K T H' M' R ε' σ ∧ Stp T H M H' M' := by
  have h := p.rep
  rw [RepO, Rep] at h
  obtain ⟨rfl, h⟩ := h
  exact ⟨h, rfl, p.ok, p.stp'⟩

theorem vt_val {e : Expr} {f : VF} (h : VE X T e f) (he : ∀ whole, isTrue e X.env whole = (do let v ← whole; standAt e.pos; holding [v] (truthy v)) := by intro _; rfl) : VT X T e (tVal f) := by
  refine ⟨PT.imp (pt_val h.pe he) fun σ H Q h => ?_⟩
  obtain ⟨M, R, ε, b, ε', ok, hf, post⟩ := h
  unfold tVal at hf
  split at hf
  · rename_i b' ε1 h1
    cases hf
    refine ⟨M, R, ε, _, _, ok, h1, fun v H' M' F p => ?_⟩
    obtain ⟨rfl, rfl, ok', st⟩ := Post.bool p
    exact ⟨b, rfl, post H' M' ok' st⟩
  · cases hf
theorem vt_no {e : Expr} {f : TF} {pos : Pos} (h : VT X T e f) : VT X T (.UnaryOp .Not e pos) (tNo f) := by
  refine ⟨PT.imp (pt_not h.pt) fun σ H Q h => ?_⟩
  obtain ⟨M, R, ε, b, ε', ok, hf, post⟩ := h
  unfold tNo at hf
  split at hf
  · rename_i b' ε1 h1
    cases hf
    exact ⟨M, R, ε, _, _, ok, h1, fun H' M' ok' st => post H' M' ok' st⟩
  · cases hf
theorem vw_an1 {e : Expr} {f : TF} {pos : Pos} (h : VT X T e f) : VW X T (.BoolOp .And [e] pos) f := ⟨pw_and1 h.pt⟩
theorem vw_or1 {e : Expr} {f : TF} {pos : Pos} (h : VT X T e f) : VW X T (.BoolOp .Or [e] pos) f := ⟨pw_or1 h.pt⟩
theorem vw_an {a b : Expr} {rest : List Expr} {f g : TF} {pos : Pos} (ha : VT X T a f) (hb : VW X T (.BoolOp .And (b :: rest) pos) g) : VW X T (.BoolOp .And (a :: b :: rest) pos) (tAn f g) := by
  refine ⟨PW.imp (pw_and ha.pt hb.pw) fun σ H Q h => ?_⟩
  obtain ⟨M, R, ε, b, ε', ok, hf, post⟩ := h
  unfold tAn at hf
  split at hf
  · rename_i ε1 h1
    refine ⟨M, R, ε, _, _, ok, h1, fun H' M' ok' st => ?_⟩
    try dsimp only
    rw [if_pos rfl]
    exact ⟨M', R, ε1, b, ε', ok', hf, fun H2 M2 ok2 st2 => post H2 M2 ok2 (st.trans st2)⟩
  · rename_i ε1 h1
    cases hf
    refine ⟨M, R, ε, _, _, ok, h1, fun H' M' ok' st => ?_⟩
    try dsimp only
    rw [if_neg Bool.false_ne_true]
    exact post H' M' ok' st
  · cases hf
theorem vw_or {a b : Expr} {rest : List Expr} {f g : TF} {pos : Pos} (ha : VT X T a f) (hb : VW X T (.BoolOp .Or (b :: rest) pos) g) : VW X T (.BoolOp .Or (a :: b :: rest) pos) (tOr' f g) := by
  refine ⟨PW.imp (pw_or ha.pt hb.pw) fun σ H Q h => ?_⟩
  obtain ⟨M, R, ε, b, ε', ok, hf, post⟩ := h
  unfold tOr' at hf
  split at hf
  · rename_i ε1 h1
    cases hf
    refine ⟨M, R, ε, _, _, ok, h1, fun H' M' ok' st => ?_⟩
    try dsimp only
    rw [if_pos rfl]
    exact post H' M' ok' st
  · rename_i ε1 h1
    refine ⟨M, R, ε, _, _, ok, h1, fun H' M' ok' st => ?_⟩
    try dsimp only
    rw [if_neg Bool.false_ne_true]
    exact ⟨M', R, ε1, b, ε', ok', hf, fun H2 M2 ok2 st2 => post H2 M2 ok2 (st.trans st2)⟩
  · cases hf
theorem vt_w {e : Expr} {f : TF} (h : VW X T e f) : VT X T e f := ⟨h.pw.pt⟩
theorem ve_an {a b : Expr} {rest : List Expr} {f g : VF} {pos : Pos} (ha : VE X T a f) (hb : VE X T (.BoolOp .And (b :: rest) pos) g) : VE X T (.BoolOp .And (a :: b :: rest) pos) (vAn f g) := by
  refine ⟨PE.imp (pe_and ha.pe hb.pe) fun σ H Q h => ?_⟩
  obtain ⟨M, R, ε, r, ε', ok, hf, post⟩ := h
  unfold vAn at hf
  split at hf
  · rename_i ε1 h1
    refine ⟨M, R, ε, _, _, ok, h1, fun v H' M' F p => ?_⟩
    obtain ⟨rfl, rfl, ok', st⟩ := Post.bool p
    refine ⟨true, rfl, ?_⟩
    try dsimp only
    rw [if_pos rfl]
    exact ⟨M', R, ε1, r, ε', ok', hf, fun v H2 M2 F2 p2 => post v H2 M2 F2 (p2.before st)⟩
  · rename_i ε1 h1
    cases hf
    refine ⟨M, R, ε, _, _, ok, h1, fun v H' M' F p => ?_⟩
    obtain ⟨rfl, rfl, ok', st⟩ := Post.bool p
    refine ⟨false, rfl, ?_⟩
    try dsimp only
    rw [if_neg Bool.false_ne_true]
    exact post _ H' M' [] p
  · cases hf
theorem ve_or {a b : Expr} {rest : List Expr} {f g : VF} {pos : Pos} (ha : VE X T a f) (hb : VE X T (.BoolOp .Or (b :: rest) pos) g) : VE X T (.BoolOp .Or (a :: b :: rest) pos) (vOr f g) := by
  refine ⟨PE.imp (pe_or ha.pe hb.pe) fun σ H Q h => ?_⟩
  obtain ⟨M, R, ε, r, ε', ok, hf, post⟩ := h
  unfold vOr at hf
  split at hf
  · rename_i ε1 h1
    cases hf
    refine ⟨M, R, ε, _, _, ok, h1, fun v H' M' F p => ?_⟩
    obtain ⟨rfl, rfl, ok', st⟩ := Post.bool p
    refine ⟨true, rfl, ?_⟩
    try dsimp only
    rw [if_pos rfl]
    exact post _ H' M' [] p
  · rename_i ε1 h1
    refine ⟨M, R, ε, _, _, ok, h1, fun v H' M' F p => ?_⟩
    obtain ⟨rfl, rfl, ok', st⟩ := Post.bool p
    refine ⟨false, rfl, ?_⟩
    try dsimp only
    rw [if_neg Bool.false_ne_true]
    exact ⟨M', R, ε1, r, ε', ok', hf, fun v H2 M2 F2 p2 => post v H2 M2 F2 (p2.before st)⟩
  · cases hf
theorem ve_one {a : Expr} {op : BoolOp} {f : VF} {pos : Pos} (ha : VE X T a f) : VE X T (.BoolOp op [a] pos) f := ⟨pe_one ha.pe⟩
theorem ve_no {a : Expr} {f : VF} {pos : Pos} (ha : VE X T a f) : VE X T (.UnaryOp .Not a pos) (vNo f) := by
  refine ⟨PE.imp (pe_not ha.pe) fun σ H Q h => ?_⟩
  obtain ⟨M, R, ε, r, ε', ok, hf, post⟩ := h
  unfold vNo at hf
  split at hf
  · rename_i b ε1 h1
    cases hf
    refine ⟨M, R, ε, _, _, ok, h1, fun v H' M' F p => ?_⟩
    obtain ⟨rfl, rfl, ok', st⟩ := Post.bool p
    exact ⟨b, rfl, post _ H' M' [] (Post.fz ok' st (by rw [Rep]))⟩
  · cases hf
theorem ve_if {c a b : Expr} {t : TF} {f g : VF} {pos : Pos} (hc : VT X T c t) (ha : VE X T a f) (hb : VE X T b g) : VE X T (.IfExp c a b pos) (vIf t f g) := by
  refine ⟨PE.imp (pe_ifExp hc.pt ha.pe hb.pe) fun σ H Q h => ?_⟩
  obtain ⟨M, R, ε, r, ε', ok, hf, post⟩ := h
  unfold vIf at hf
  split at hf
  · rename_i ε1 h1
    refine ⟨M, R, ε, _, _, ok, h1, fun H' M' ok' st => ?_⟩
    try dsimp only
    rw [if_pos rfl]
    exact ⟨M', R, ε1, r, ε', ok', hf, fun v H2 M2 F2 p2 => post v H2 M2 F2 (p2.before st)⟩
  · rename_i ε1 h1
    refine ⟨M, R, ε, _, _, ok, h1, fun H' M' ok' st => ?_⟩
    try dsimp only
    rw [if_neg Bool.false_ne_true]
    exact ⟨M', R, ε1, r, ε', ok', hf, fun v H2 M2 F2 p2 => post v H2 M2 F2 (p2.before st)⟩
  · cases hf

/-! ### statements -/
/-- the protected slots are as they were -/
def Same' (P : List Nat) (σ σ' : L2.St) : Prop := σ'.length = σ.length ∧ ∀ i ∈ P, σ'[i]? = σ[i]?
theorem Same'.refl : Same' P σ σ := ⟨rfl, fun _ _ => rfl⟩
theorem Same'.trans (a : Same' P σ σ') (b : Same' P σ' σ'') : Same' P σ σ'' := ⟨b.1.trans a.1, fun i h => (b.2 i h).trans (a.2 i h)⟩
theorem Same'.set {i : Nat} {x : Option V} (h : i ∉ P) : Same' P σ (σ.set i x) := ⟨List.length_set, fun j hj => by
  rw [List.getElem?_set_ne]
  rintro rfl
  exact h hj⟩
/-- the end -/
structure EndS (K : PySem.W.Frag) (T : List TK) (P : List Nat) (H : Hp) (M R : List Addr) (ε' : Env') (σ σ' : L2.St) (H' : Hp) (M' : List Addr) : Prop where
  ok : Ok K T H' M' R ε' σ'
  stp : Stp T H M H' M'
  pr : Same' P σ σ'
structure EndV (K : PySem.W.Frag) (T : List TK) (P : List Nat) (H : Hp) (M R : List Addr) (ε' : Env') (o : O) (σ σ' : L2.St) (v : V) (H' : Hp) (M' F : List Addr) : Prop where
  post : Post K T H M R ε' σ' o v H' M' F
  pr : Same' P σ σ'
def After (K : PySem.W.Frag) (T : List TK) (P : List Nat) (D : Ends) (σ : L2.St) (H : Hp) (M R : List Addr) (fl : Fl) (ε' : Env') : Prop := match fl with
  | .nx => ∀ σ' H' M', EndS K T P H M R ε' σ σ' H' M' → D.nx σ' H'
  | .bk => ∀ σ' H' M', EndS K T P H M R ε' σ σ' H' M' → D.bk σ' H'
  | .ct => ∀ σ' H' M', EndS K T P H M R ε' σ σ' H' M' → D.ct σ' H'
  | .rt o => ∀ σ' v H' M' F, EndV K T P H M R ε' o σ σ' v H' M' F → D.rt v H'
def tS (K : PySem.W.Frag) (T : List TK) (P : List Nat) (f : SF) : TS := fun D σ H => ∃ M R ε fl ε', Ok K T H M R ε σ ∧ f ε = some (fl, ε') ∧ After K T P D σ H M R fl ε'
structure VS (X : Cx) (T : List TK) (P : List Nat) (st : Stmt) (f : SF) : Prop where
  ps : PS X st (tS X.K T P f)
structure VSs (X : Cx) (T : List TK) (P : List Nat) (st : List Stmt) (f : SF) : Prop where
  ps : PSs X st (tS X.K T P f)
theorem EndS.then {H1 : Hp} {M1 : List Addr} {σ1 : L2.St} {ε1 : Env'} (a : EndS K T P H M R ε1 σ σ1 H1 M1) (b : EndS K T P H1 M1 R ε' σ1 σ' H' M') : EndS K T P H M R ε' σ σ' H' M' := ⟨b.ok, a.stp.trans b.stp, a.pr.trans b.pr⟩
theorem EndS.thenV {H1 : Hp} {M1 : List Addr} {σ1 : L2.St} {ε1 : Env'} {o : O} {v : V} (a : EndS K T P H M R ε1 σ σ1 H1 M1) (b : EndV K T P H1 M1 R ε' o σ1 σ' v H' M' F) : EndV K T P H M R ε' o σ σ' v H' M' F := ⟨b.post.before a.stp, a.pr.trans b.pr⟩
theorem After.then {D : Ends} {H1 : Hp} {M1 : List Addr} {σ1 : L2.St} {ε1 : Env'} {fl : Fl} (a : EndS K T P H M R ε1 σ σ1 H1 M1) (h : After K T P D σ H M R fl ε') : After K T P D σ1 H1 M1 R fl ε' := by
  cases fl with
  | nx => exact fun σ' H' M' e => h σ' H' M' (a.then e)
  | bk => exact fun σ' H' M' e => h σ' H' M' (a.then e)
  | ct => exact fun σ' H' M' e => h σ' H' M' (a.then e)
  | rt o => exact fun σ' v H' M' F e => h σ' v H' M' F (a.thenV e)

@[simp] def sNx : SF := fun ε => some (.nx, ε)
@[simp] def sBk : SF := fun ε => some (.bk, ε)
@[simp] def sCt : SF := fun ε => some (.ct, ε)
@[simp] def sSeq (f g : SF) : SF := fun ε => match f ε with
  | some (.nx, ε1) => g ε1
  | r => r
@[simp] def sSet (i : Nat) (f : VF) : SF := fun ε => match f ε with
  | some (.o o, ε1) => if i < ε1.length then some (.nx, ε1.set i (some o)) else none
  | _ => none
@[simp] def sExpr (f : VF) : SF := fun ε => match f ε with
  | some (_, ε1) => some (.nx, ε1)
  | none => none
@[simp] def sRet (f : VF) : SF := fun ε => match f ε with
  | some (.o o, ε1) => some (.rt o, ε1)
  | _ => none
@[simp] def sIf (c : TF) (f g : SF) : SF := fun ε => match c ε with
  | some (true, ε1) => f ε1
  | some (false, ε1) => g ε1
  | none => none

theorem vss_nil : VSs X T P [] sNx := by
  refine ⟨PSs.imp pss_nil fun D σ H h => ?_⟩
  obtain ⟨M, R, ε, fl, ε', ok, hf, post⟩ := h
  cases hf
  exact post σ H M ⟨ok, .refl, .refl⟩
theorem vs_pass {pos : Pos} : VS X T P (.Pass pos) sNx := by
  refine ⟨PS.imp ps_pass fun D σ H h => ?_⟩
  obtain ⟨M, R, ε, fl, ε', ok, hf, post⟩ := h
  cases hf
  exact post σ H M ⟨ok, .refl, .refl⟩
theorem vs_doc {x : Str} {j : Nat} {pos pos' : Pos} : VS X T P (.Expr (.Constant (.str x) j pos) pos') sNx := by
  refine ⟨PS.imp ps_doc fun D σ H h => ?_⟩
  obtain ⟨M, R, ε, fl, ε', ok, hf, post⟩ := h
  cases hf
  exact post σ H M ⟨ok, .refl, .refl⟩
theorem vs_bk {pos : Pos} : VS X T P (.Break pos) sBk := by
  refine ⟨PS.imp ps_break fun D σ H h => ?_⟩
  obtain ⟨M, R, ε, fl, ε', ok, hf, post⟩ := h
  cases hf
  exact post σ H M ⟨ok, .refl, .refl⟩
theorem vs_ct {pos : Pos} : VS X T P (.Continue pos) sCt := by
  refine ⟨PS.imp ps_continue fun D σ H h => ?_⟩
  obtain ⟨M, R, ε, fl, ε', ok, hf, post⟩ := h
  cases hf
  exact post σ H M ⟨ok, .refl, .refl⟩
theorem vss_one {st : Stmt} {f : SF} (h : VS X T P st f) : VSs X T P [st] f := ⟨pss_one h.ps⟩
theorem vss_cons {st : Stmt} {rest : List Stmt} {f g : SF} (h : VS X T P st f) (hr : VSs X T P rest g) : VSs X T P (st :: rest) (sSeq f g) := by
  refine ⟨PSs.imp (pss_cons h.ps hr.ps) fun D σ H h => ?_⟩
  obtain ⟨M, R, ε, fl, ε', ok, hf, post⟩ := h
  unfold sSeq at hf
  split at hf
  · rename_i ε1 h1
    exact ⟨M, R, ε, .nx, ε1, ok, h1, fun σ' H' M' e => ⟨M', R, ε1, fl, ε', e.ok, hf, post.then e⟩⟩
  · rename_i r hr
    refine ⟨M, R, ε, fl, ε', ok, hf, ?_⟩
    cases fl with
    | nx => exact absurd hf (hr ε')
    | bk => exact post
    | ct => exact post
    | rt o => exact post
theorem vs_expr {e : Expr} {f : VF} {pos : Pos} (h : VE X T e f) (hs : PS X (.Expr e pos) (tDrop (tV X.K T f))) : VS X T P (.Expr e pos) (sExpr f) := by
  refine ⟨PS.imp hs fun D σ H h => ?_⟩
  obtain ⟨M, R, ε, fl, ε', ok, hf, post⟩ := h
  unfold sExpr at hf
  split at hf
  · rename_i r ε1 h1
    cases hf
    refine ⟨M, R, ε, r, _, ok, h1, fun v H' M' F p => ?_⟩
    cases r with
    | o o => exact post σ H' M' ⟨Post.ok' p, Post.stp' p, .refl⟩
    | b i =>
      obtain ⟨_, ok', st, _⟩ := p
      exact post σ H' M' ⟨ok', st, .refl⟩
  · cases hf
theorem vs_ret {e : Expr} {f : VF} {pos : Pos} (h : VE X T e f) : VS X T P (.Return (some e) pos) (sRet f) := by
  refine ⟨PS.imp (ps_ret h.pe) fun D σ H h => ?_⟩
  obtain ⟨M, R, ε, fl, ε', ok, hf, post⟩ := h
  unfold sRet at hf
  split at hf
  · rename_i o ε1 h1
    cases hf
    exact ⟨M, R, ε, _, _, ok, h1, fun v H' M' F p => post σ v H' M' F ⟨p, .refl⟩⟩
  · cases hf
theorem vs_retN {pos : Pos} : VS X T P (.Return none pos) (sRet (vC .non)) := by
  refine ⟨PS.imp ps_retN fun D σ H h => ?_⟩
  obtain ⟨M, R, ε, fl, ε', ok, hf, post⟩ := h
  cases hf
  exact post σ _ H M [] ⟨Post.fz ok .refl (by rw [Rep]), .refl⟩
/-- a slot gets what was given -/
theorem Post.store {o : O} {v : V} {i : Nat} (p : Post K T H M R ε' σ o v H' M' F) (hi : i < ε'.length) (hP : i ∉ P) : ∃ M2, EndS K T P H M R (ε'.set i (some o)) σ (σ.set i (some v)) H' M2 := by
  obtain ⟨G, hs, hr⟩ := p.ok.rep.drop i
  have sub : ∀ a ∈ G, a ∈ M' := fun a ha => hs.mem ha
  have ok1 : Ok K T H' G (F ++ R) (ε'.set i none) σ := by
    refine ⟨hr.anti fun a ha => (List.mem_append.mp ha).elim (fun z => List.mem_append_left _ (sub a z)) fun z => List.mem_append_right _ z, ?_, ?_, p.ok.tab⟩
    · exact p.ok.nd.sublist (hs.append (List.Sublist.refl _))
    · exact p.ok.ls.sub fun a ha => (List.mem_append.mp ha).elim (fun z => List.mem_append_left _ (sub a z)) fun z => List.mem_append_right _ z
  obtain ⟨M2, p2, ok2⟩ := ok1.put (o := o) (v := v) (i := i) (p.rep.anti (fun a ha => (List.mem_append.mp ha).elim (fun z => List.mem_append_left _ (sub a z)) fun z => List.mem_append_right _ z) _ _ _) hi
  refine ⟨M2, ok2, p.stp.less fun a ha => ?_, .set hP⟩
  rcases List.mem_append.mp (p2.mem_iff.mp ha) with z | z
  · exact List.mem_append_right _ z
  · exact List.mem_append_left _ (sub a z)
theorem vs_set {i : Nat} {x : Str} {e : Expr} {f : VF} {pos pos' : Pos} (hN : X.N.Nodup) (hi : X.N[i]? = some x) (hx : Loc X.env.scope x) (hP : i ∉ P) (h : VE X T e f) (hs : PS X (.Assign [.Name x pos'] e pos) (tAsg (tV X.K T f) (gName i))) : VS X T P (.Assign [.Name x pos'] e pos) (sSet i f) := by
  refine ⟨PS.imp hs fun D σ H h => ?_⟩
  obtain ⟨M, R, ε, fl, ε', ok, hf, post⟩ := h
  unfold sSet at hf
  split at hf
  · rename_i o ε1 h1
    split at hf
    · rename_i hl
      cases hf
      refine ⟨M, R, ε, _, _, ok, h1, fun v H' M' F p => ?_⟩
      obtain ⟨M2, q⟩ := Post.store p hl hP
      exact post _ H' M2 q
    · cases hf
  · cases hf
theorem vs_if {c : Expr} {a b : List Stmt} {t : TF} {f g : SF} {pos : Pos} (hc : VT X T c t) (ha : VSs X T P a f) (hb : VSs X T P b g) : VS X T P (.If c a b pos) (sIf t f g) := by
  refine ⟨PS.imp (ps_if hc.pt ha.ps hb.ps) fun D σ H h => ?_⟩
  obtain ⟨M, R, ε, fl, ε', ok, hf, post⟩ := h
  unfold sIf at hf
  split at hf
  · rename_i ε1 h1
    refine ⟨M, R, ε, _, _, ok, h1, fun H' M' ok' st => ?_⟩
    try dsimp only
    rw [if_pos rfl]
    exact ⟨M', R, ε1, fl, ε', ok', hf, post.then ⟨ok', st, .refl⟩⟩
  · rename_i ε1 h1
    refine ⟨M, R, ε, _, _, ok, h1, fun H' M' ok' st => ?_⟩
    try dsimp only
    rw [if_neg Bool.false_ne_true]
    exact ⟨M', R, ε1, fl, ε', ok', hf, post.then ⟨ok', st, .refl⟩⟩
  · cases hf

/-! ### targets -/
/-- what is bound: the slots alone change -/
def gB (K : PySem.W.Frag) (T : List TK) (P : List Nat) (b : BF) : TG := fun v σ H Q => ∃ M R ε d ε', Ok K T H M R ε σ ∧ Rep K H (M ++ R) d v ∧ b d ε = some ε' ∧ ∀ σ' H' M', EndS K T P H M R ε' σ σ' H' M' → Q σ' H'
structure VG (X : Cx) (T : List TK) (P : List Nat) (tg : Expr) (b : BF) : Prop where
  pg : PG X tg (gB X.K T P b)
theorem PG.imp {e : Expr} {t t' : TG} (h : PG X e t) (i : ∀ v σ H Q, t' v σ H Q → t v σ H Q) : PG X e t' := ⟨fun pins s σ H v u Q I r q => h.run pins s σ H v u Q I r (i v σ H Q q)⟩
@[simp] def bName (i : Nat) : BF := fun d ε => if i < ε.length then some (ε.set i (some (.fz d))) else none
theorem vg_name {i : Nat} {x : Str} {pos : Pos} (hN : X.N.Nodup) (hi : X.N[i]? = some x) (hx : Loc X.env.scope x) (hP : i ∉ P) (hpg : PG X (.Name x pos) (gName i)) : VG X T P (.Name x pos) (bName i) := by
  refine ⟨PG.imp hpg fun v σ H Q h => ?_⟩
  obtain ⟨M, R, ε, d, ε', ok, hr, hf, post⟩ := h
  unfold bName at hf
  split at hf
  · rename_i hl
    cases hf
    obtain ⟨M2, q⟩ := Post.store (Post.fz ok (Stp.refl (M := M)) hr) hl hP
    exact post _ _ M2 q
  · cases hf
/-- several, one after another -/
@[simp] def bAll : List BF → List D → Env' → Option Env'
  | [], [], ε => some ε
  | b :: bs, d :: ds, ε => match b d ε with
    | some ε1 => bAll bs ds ε1
    | none => none
  | _, _, _ => none
@[simp] def bTup (bs : List BF) : BF := fun d ε => match d with
  | .tup ds => if ds.length = bs.length then bAll bs ds ε else none
  | _ => none
def gBs (K : PySem.W.Frag) (T : List TK) (P : List Nat) (bs : List BF) : TGs := fun vs σ H Q => ∃ M R ε ds ε', Ok K T H M R ε σ ∧ Reps K H (M ++ R) ds vs ∧ bAll bs ds ε = some ε' ∧ ∀ σ' H' M', EndS K T P H M R ε' σ σ' H' M' → Q σ' H'
structure VGs (X : Cx) (T : List TK) (P : List Nat) (tgs : List Expr) (bs : List BF) : Prop where
  pg : PGs X tgs (gBs X.K T P bs)
theorem PGs.imp {e : List Expr} {t t' : TGs} (h : PGs X e t) (i : ∀ v σ H Q, t' v σ H Q → t v σ H Q) : PGs X e t' := ⟨fun pins s σ H v u Q I r q => h.run pins s σ H v u Q I r (i v σ H Q q)⟩
theorem vgs_nil : VGs X T P [] [] := by
  refine ⟨PGs.imp pgs_nil fun vs σ H Q h => ?_⟩
  obtain ⟨M, R, ε, ds, ε', ok, hr, hf, post⟩ := h
  cases ds with
  | nil =>
    rw [Reps] at hr
    cases hf
    exact ⟨hr, post σ H M ⟨ok, .refl, .refl⟩⟩
  | cons d ds => cases hf
theorem vgs_cons {tg : Expr} {tgs : List Expr} {b : BF} {bs : List BF} (h : VG X T P tg b) (hr : VGs X T P tgs bs) (hp : (assignEach (tg :: tgs) X.env).map (·.2) = assign tg X.env :: (assignEach tgs X.env).map (·.2) := by rfl) : VGs X T P (tg :: tgs) (b :: bs) := by
  refine ⟨PGs.imp (pgs_cons h.pg hr.pg hp) fun vs σ H Q h => ?_⟩
  obtain ⟨M, R, ε, ds, ε', ok, hr, hf, post⟩ := h
  cases ds with
  | nil => cases hf
  | cons d ds =>
    rw [bAll] at hf
    rw [Reps] at hr
    obtain ⟨v, r, e, h1, h2⟩ := hr
    split at hf
    · rename_i ε1 hb
      refine ⟨v, r, e, M, R, ε, d, ε1, ok, h1, hb, fun σ1 H1 M1 q => ⟨M1, R, ε1, ds, ε', q.ok, ?_, hf, fun σ' H' M' q2 => post σ' H' M' (q.then q2)⟩⟩
      exact h2.mono q.stp.keep ok.tab ok.ls1 (fun a h => List.mem_append_left _ h) (fun a h => by
        rcases List.mem_append.mp h with z | z
        · rcases q.stp.sub a z with z | z
          · exact .inl (List.mem_append_left _ z)
          · exact .inr z
        · exact .inl (List.mem_append_right _ z))
    · cases hf
theorem vg_tup {tgs : List Expr} {k : Nat} {pos : Pos} {bs : List BF} (hpg : PG X (.Tuple tgs k pos) (gTup X.K bs.length (gBs X.K T P bs))) : VG X T P (.Tuple tgs k pos) (bTup bs) := by
  refine ⟨PG.imp hpg fun v σ H Q h => ?_⟩
  obtain ⟨M, R, ε, d, ε', ok, hr, hf, post⟩ := h
  unfold bTup at hf
  split at hf
  · rename_i ds
    split at hf
    · rename_i hl
      rw [Rep] at hr
      obtain ⟨a, vs, e, h1, h2⟩ := hr
      exact ⟨a, vs, e, h1, h2.length.trans hl, M, R, ε, ds, ε', ok, h2, hf, post⟩
    · cases hf
  · cases hf
@[simp] def sAsg (f : VF) (b : BF) : SF := fun ε => match f ε with
  | some (.o o, ε1) => match b o.val ε1 with
    | some ε2 => some (.nx, ε2)
    | none => none
  | _ => none
theorem vs_asg {tg e : Expr} {f : VF} {b : BF} (hg : VG X T P tg b) {pos : Pos} (hs : PS X (.Assign [tg] e pos) (tAsg (tV X.K T f) (gB X.K T P b))) : VS X T P (.Assign [tg] e pos) (sAsg f b) := by
  refine ⟨PS.imp hs fun D σ H h => ?_⟩
  obtain ⟨M, R, ε, fl, ε', ok, hf, post⟩ := h
  unfold sAsg at hf
  split at hf
  · rename_i o ε1 h1
    split at hf
    · rename_i ε2 h2
      cases hf
      refine ⟨M, R, ε, _, _, ok, h1, fun v H' M' F p => ?_⟩
      exact ⟨M', R, ε1, o.val, ε', Post.ok' p, Post.data p, h2, fun σ' H2 M2 q => post σ' H2 M2 (EndS.then ⟨Post.ok' p, Post.stp' p, .refl⟩ q)⟩
    · cases hf
  · cases hf

/-! ### what is walked -/
/-- J gives the data ds, whatever happens to what is owned -/
def ItOk (K : PySem.W.Frag) (T : List TK) (J : It) (ds : List D) (H0 : Hp) (M0 R : List Addr) : Prop := ∀ H M i, Stp T H0 (M0 ++ R) H (M ++ R) → Tabs T H → Lists H (M ++ R) →
  (∀ d, ds[i]? = some d → J.go i H ∧ ∀ x H', J.yld i H x H' → Same H H' ∧ Rep K H' (M ++ R) d x) ∧ (ds.length ≤ i → J.stop i H)
def wI (K : PySem.W.Frag) (T : List TK) (it : Env' → Option (List D × Env')) : TI := fun σ H Rk => ∃ M R ε ds ε', Ok K T H M R ε σ ∧ it ε = some (ds, ε') ∧ ∀ H' M' J, Ok K T H' M' R ε' σ → Stp T H M H' M' → ItOk K T J ds H' M' R → Rk J H'
structure VI (X : Cx) (T : List TK) (tg e : Expr) (it : Env' → Option (List D × Env')) : Prop where
  pi : PI X tg e (wI X.K T it)
theorem PI.imp {tg e : Expr} {t t' : TI} (h : PI X tg e t) (i : ∀ σ H Q, t' σ H Q → t σ H Q) : PI X tg e t' := ⟨fun pins s σ H Q I q => h.run pins s σ H Q I (i σ H Q q)⟩

theorem Stp.sub2 {H0 : Hp} {M0 : List Addr} (s : Stp T H0 M0 H M) : ∀ a ∈ M ++ R, a ∈ M0 ++ R ∨ H0 a = none := fun a h => by
  rcases List.mem_append.mp h with z | z
  · rcases s.sub a z with z | z
    · exact .inl (List.mem_append_left _ z)
    · exact .inr z
  · exact .inl (List.mem_append_right _ z)
/-- the loop by data -/
@[simp] def forRun (b : BF) (body : SF) : List D → Env' → Option (Fl × Env')
  | [], ε => some (.nx, ε)
  | d :: ds, ε => match b d ε with
    | none => none
    | some ε1 => match body ε1 with
      | some (.nx, ε2) => forRun b body ds ε2
      | some (.ct, ε2) => forRun b body ds ε2
      | some (.bk, ε2) => some (.nx, ε2)
      | some (.rt o, ε2) => some (.rt o, ε2)
      | none => none
@[simp] def sFor (it : Env' → Option (List D × Env')) (b : BF) (body : SF) : SF := fun ε => match it ε with
  | some (ds, ε1) => forRun b body ds ε1
  | none => none
theorem vs_for {tg e : Expr} {body : List Stmt} {it : Env' → Option (List D × Env')} {b : BF} {f : SF} {pos : Pos} (hp : PassesOwn (model X.prog X.w) X.A X.env X.xe) (hc : X.calm = true) (hi : VI X T tg e it) (hg : VG X T P tg b) (hb : VSs X T P body f)
    (hs : ∀ x, foldedSetIterable e X.env x = pure x := by intro _; rfl) : VS X T P (.For tg e body [] pos) (sFor it b f) := by
  refine ⟨PS.imp (ps_for hp hc hi.pi hg.pg hb.ps hs) fun D σ H h => ?_⟩
  obtain ⟨M, R, ε, fl, ε', ok, hf, post⟩ := h
  unfold sFor at hf
  split at hf
  · rename_i ds ε1 h1
    refine ⟨M, R, ε, ds, ε1, ok, h1, fun H1 M1 J ok1 st1 hJ => ?_⟩
    refine ⟨fun i m σ2 H2 => ∃ M2 ε2, m = ds.length - i ∧ EndS X.K T P H1 M1 R ε2 σ σ2 H2 M2 ∧ forRun b f (ds.drop i) ε2 = some (fl, ε'), ⟨ds.length, M1, ε1, rfl, ⟨ok1, .refl, .refl⟩, hf⟩, fun i m σ2 H2 hW => ?_⟩
    obtain ⟨M2, ε2, rfl, e2, hr⟩ := hW
    have ee : EndS X.K T P H M R ε2 σ σ2 H2 M2 := EndS.then (ε1 := ε1) ⟨ok1, st1, .refl⟩ e2
    have hj := hJ H2 M2 i (e2.stp.more _) e2.ok.tab e2.ok.ls
    cases hd : ds[i]? with
    | none =>
      have hle : ds.length ≤ i := List.getElem?_eq_none_iff.mp hd
      refine .inl ⟨hj.2 hle, ?_⟩
      rw [List.drop_of_length_le hle] at hr
      cases hr
      exact post σ2 H2 M2 ee
    | some d =>
      obtain ⟨hlt, hget⟩ := List.getElem?_eq_some_iff.mp hd
      obtain ⟨go, yl⟩ := hj.1 d hd
      refine .inr ⟨go, fun σ3 H3 => ∃ M3 ε3, EndS X.K T P H1 M1 R ε3 σ σ3 H3 M3 ∧ forRun b f (ds.drop (i + 1)) ε3 = some (fl, ε'), fun σ3 H3 ⟨M3, ε3, e3, r3⟩ => ⟨ds.length - (i + 1), by omega, M3, ε3, rfl, e3, r3⟩, fun x H3 hy => ?_⟩
      obtain ⟨sm, rx⟩ := yl x H3 hy
      rw [List.drop_eq_getElem_cons hlt, hget, forRun] at hr
      split at hr
      · cases hr
      · rename_i ε3 hb3
        have e3 : EndS X.K T P H2 M2 R ε2 σ2 σ2 H3 M2 := ⟨e2.ok.same sm, .ofSame sm, .refl⟩
        refine ⟨M2, R, ε2, d, ε3, e3.ok, rx, hb3, fun σ4 H4 M4 e4 => ?_⟩
        have e5 : EndS X.K T P H1 M1 R ε3 σ σ4 H4 M4 := (e2.then e3).then e4
        split at hr
        · rename_i ε5 h5
          exact ⟨M4, R, ε3, .nx, ε5, e4.ok, h5, fun σ6 H6 M6 e6 => ⟨M6, ε5, e5.then e6, hr⟩⟩
        · rename_i ε5 h5
          exact ⟨M4, R, ε3, .ct, ε5, e4.ok, h5, fun σ6 H6 M6 e6 => ⟨M6, ε5, e5.then e6, hr⟩⟩
        · rename_i ε5 h5
          cases hr
          exact ⟨M4, R, ε3, .bk, _, e4.ok, h5, fun σ6 H6 M6 e6 => post σ6 H6 M6 (EndS.then ⟨ok1, st1, .refl⟩ (e5.then e6))⟩
        · rename_i o ε5 h5
          cases hr
          exact ⟨M4, R, ε3, .rt o, _, e4.ok, h5, fun σ6 v H6 M6 F6 e6 => post σ6 v H6 M6 F6 (EndS.thenV ⟨ok1, st1, .refl⟩ (e5.thenV e6))⟩
        · cases hr
  · cases hf
/-- a list or tuple of data -/
def itD (f : VF) : Env' → Option (List D × Env') := fun ε => match f ε with
  | some (.o (.fz (.lst ds)), ε1) => some (ds, ε1)
  | some (.o (.own l), ε1) => some (O.vals l, ε1)
  | _ => none
def itT (f : VF) : Env' → Option (List D × Env') := fun ε => match f ε with
  | some (.o (.fz (.tup ds)), ε1) => some (ds, ε1)
  | _ => none
theorem rep_inj {a : Addr} {vs ws : List V} (h : H a = some (.lst vs)) (h' : H a = some (.lst ws)) : ws = vs := by
  rw [h] at h'
  cases h'
  rfl
end
end VS


set_option Elab.async false
set_option linter.all false
/-! VS3: what is walked, displays, list comprehensions, owned lists changed. -/
namespace VS
noncomputable section
open PySem PySem.Spec PyProof.Rows L2
section
variable {K : PySem.W.Frag} {T : List TK} {P : List Nat} {H H' H'' : Hp} {M M' M'' R R' F F' A A' : List Addr} {ε ε' : Env'} {σ σ' σ'' : L2.St} {X : Cx}

theorem Rep.later {d : D} {v : V} (h : Rep K H (M ++ R) d v) (s : Stp T H M H' M') (t : Tabs T H) (l : Lists H M) : Rep K H' (M' ++ R) d v :=
  h.mono s.keep t l (fun a h => List.mem_append_left _ h) s.sub2
theorem Reps.later {d : List D} {v : List V} (h : Reps K H (M ++ R) d v) (s : Stp T H M H' M') (t : Tabs T H) (l : Lists H M) : Reps K H' (M' ++ R) d v :=
  h.mono s.keep t l (fun a h => List.mem_append_left _ h) s.sub2

/-! ### walked: lists, tuples, ranges -/
theorem itOk_list {ds : List D} {a : Addr} (h : Rep K H (M ++ R) (.lst ds) (.ref a)) (t : Tabs T H) (l : Lists H (M ++ R)) : ItOk K T (Itl K a) ds H M R := by
  intro H2 M2 i st t2 l2
  have h2 := h.mono st.keep t l (fun a h => h) fun a h => st.sub a h
  rw [Rep] at h2
  obtain ⟨b, vs, e, h3, _, h4⟩ := h2
  cases e
  have hl := h4.length
  refine ⟨fun d hd => ?_, fun hi => ⟨vs, SqL.of h3, by omega⟩⟩
  obtain ⟨x, hx, rx⟩ := h4.get' hd
  refine ⟨⟨vs, x, SqL.of h3, hx⟩, fun y H3 ⟨e, q⟩ => ?_⟩
  subst e
  have := q vs (SqL.of h3)
  rw [hx] at this
  cases this
  exact ⟨.refl _, rx⟩
theorem itOk_tup {ds : List D} {a : Addr} (h : Rep K H (M ++ R) (.tup ds) (.ref a)) (t : Tabs T H) (l : Lists H (M ++ R)) : ItOk K T (Itt K a) ds H M R := by
  intro H2 M2 i st t2 l2
  have h2 := h.mono st.keep t l (fun a h => h) fun a h => st.sub a h
  rw [Rep] at h2
  obtain ⟨b, vs, e, h3, h4⟩ := h2
  cases e
  have hl := h4.length
  refine ⟨fun d hd => ?_, fun hi => ⟨vs, h3, by omega⟩⟩
  obtain ⟨x, hx, rx⟩ := h4.get' hd
  refine ⟨⟨vs, x, h3, hx⟩, fun y H3 ⟨e, q⟩ => ?_⟩
  subst e
  have := q vs h3
  rw [hx] at this
  cases this
  exact ⟨.refl _, rx⟩
theorem itOk_scr {ns : List Int} {a : Addr} (h : Rep K H (M ++ R) (.scr ns) (.ref a)) (t : Tabs T H) (l : Lists H (M ++ R)) : ItOk K T (Itl K a) (ns.map D.int) H M R := by
  intro H2 M2 i st t2 l2
  have h2 := h.mono st.keep t l (fun a h => h) fun a h => st.sub a h
  rw [Rep] at h2
  obtain ⟨b, e, h3⟩ := h2
  cases e
  have h3 := h3.sq
  refine ⟨fun d hd => ?_, fun hi => ⟨_, h3, by simpa using hi⟩⟩
  rw [List.getElem?_map] at hd
  cases hn : ns[i]? with
  | none => rw [hn] at hd; cases hd
  | some n =>
    rw [hn] at hd
    cases hd
    have hx : (ns.map V.int)[i]? = some (.int n) := by rw [List.getElem?_map, hn]; rfl
    refine ⟨⟨_, _, h3, hx⟩, fun y H3 ⟨e, q⟩ => ?_⟩
    subst e
    have := q _ h3
    rw [hx] at this
    cases this
    exact ⟨.refl _, by rw [Rep]⟩
def rng (lo : Int) (n : Nat) : List D := (List.range n).map fun (k : Nat) => D.int (lo + (k : Int))
theorem itOk_rng {lo : Int} {n : Nat} : ItOk K T (Itr lo n) (rng lo n) H M R := by
  intro H2 M2 i st t2 l2
  refine ⟨fun d hd => ?_, fun hi => (by simpa [rng] using hi : n ≤ i)⟩
  unfold rng at hd
  rw [List.getElem?_map] at hd
  cases hn : (List.range n)[i]? with
  | none => rw [hn] at hd; cases hd
  | some k =>
    rw [hn] at hd
    cases hd
    obtain ⟨h1, h2⟩ := List.getElem?_eq_some_iff.mp hn
    rw [List.getElem_range] at h2
    subst h2
    rw [List.length_range] at h1
    refine ⟨h1, fun y H3 ⟨e, q⟩ => ?_⟩
    subst e q
    exact ⟨.refl _, by rw [Rep]⟩

/-- the data of a list, a tuple, the script -/
def seqOf : D → Option (List D)
  | .lst ds => some ds
  | .tup ds => some ds
  | .scr ns => some (ns.map D.int)
  | _ => none
/-- a list (or the script) -/
@[simp] def itL (f : VF) : Env' → Option (List D × Env') := fun ε => match f ε with
  | some (.o o, ε1) => match o.val with
    | .lst ds => some (ds, ε1)
    | .scr ns => some (ns.map D.int, ε1)
    | _ => none
  | _ => none
/-- a tuple -/
@[simp] def itP (f : VF) : Env' → Option (List D × Env') := fun ε => match f ε with
  | some (.o o, ε1) => match o.val with
    | .tup ds => some (ds, ε1)
    | _ => none
  | _ => none
theorem vi_list {tg e : Expr} {f : VF} (h : VE X T e f) : VI X T tg e (itL f) := by
  refine ⟨PI.imp (pi_list h.pe) fun σ H Rk h => ?_⟩
  obtain ⟨M, R, ε, ds, ε', ok, hf, post⟩ := h
  unfold itL at hf
  split at hf
  · rename_i o ε1 h1
    split at hf
    · rename_i ds' hv
      cases hf
      refine ⟨M, R, ε, _, _, ok, h1, fun v H' M' F p => ?_⟩
      have hd := Post.data p
      rw [hv] at hd
      have hd' := hd
      rw [Rep] at hd'
      obtain ⟨a, vs, rfl, h3, _, _⟩ := hd'
      exact ⟨a, rfl, ⟨vs, SqL.of h3⟩, post H' M' _ (Post.ok' p) (Post.stp' p) (itOk_list hd (Post.ok' p).tab (Post.ok' p).ls)⟩
    · rename_i ns hv
      cases hf
      refine ⟨M, R, ε, _, _, ok, h1, fun v H' M' F p => ?_⟩
      have hd := Post.data p
      rw [hv] at hd
      have hd' := hd
      rw [Rep] at hd'
      obtain ⟨a, rfl, h3⟩ := hd'
      exact ⟨a, rfl, ⟨_, h3.sq⟩, post H' M' _ (Post.ok' p) (Post.stp' p) (itOk_scr hd (Post.ok' p).tab (Post.ok' p).ls)⟩
    · cases hf
  · cases hf
theorem vi_tup {tg e : Expr} {f : VF} (h : VE X T e f) : VI X T tg e (itP f) := by
  refine ⟨PI.imp (pi_tup h.pe) fun σ H Rk h => ?_⟩
  obtain ⟨M, R, ε, ds, ε', ok, hf, post⟩ := h
  unfold itP at hf
  split at hf
  · rename_i o ε1 h1
    split at hf
    · rename_i ds' hv
      cases hf
      refine ⟨M, R, ε, _, _, ok, h1, fun v H' M' F p => ?_⟩
      have hd := Post.data p
      rw [hv] at hd
      have hd' := hd
      rw [Rep] at hd'
      obtain ⟨a, vs, rfl, h3, _⟩ := hd'
      exact ⟨a, rfl, ⟨vs, h3⟩, post H' M' _ (Post.ok' p) (Post.stp' p) (itOk_tup hd (Post.ok' p).tab (Post.ok' p).ls)⟩
    · cases hf
  · cases hf
/-- a test that the kernel does not look into -/
theorem shut_ex {α : Type} (f : α → Bool) : ∃ g : α → Bool, ∀ x, g x = f x := ⟨f, fun _ => rfl⟩
def shut {α : Type} (f : α → Bool) : α → Bool := (shut_ex f).choose
theorem shut_eq {α : Type} (f : α → Bool) (x : α) : shut f x = f x := (shut_ex f).choose_spec x
def small : Int → Bool := shut fun j => decide (-(2 ^ 62) ≤ j) && decide (j < 2 ^ 62)
theorem small_eq (j : Int) : small j = (decide (-(2 ^ 62) ≤ j) && decide (j < 2 ^ 62)) := shut_eq _ j
theorem small_iff {j : Int} (h : small j = true) : -(2 ^ 62) ≤ j ∧ j < 2 ^ 62 := by
  rw [small_eq] at h
  rw [Bool.and_eq_true] at h
  exact ⟨of_decide_eq_true h.1, of_decide_eq_true h.2⟩
@[simp] def itR1 (f : VF) : Env' → Option (List D × Env') := fun ε => match f ε with
  | some (.o (.fz (.int j)), ε1) => if small j then some (rng 0 j.toNat, ε1) else none
  | _ => none
@[simp] def itR2 (f g : VF) : Env' → Option (List D × Env') := fun ε => match f ε with
  | some (.o (.fz (.int i)), ε1) => match g ε1 with
    | some (.o (.fz (.int j)), ε2) => if small i && small j then some (rng i (j - i).toNat, ε2) else none
    | _ => none
  | _ => none
theorem Post.int {i : Int} {v : V} (p : Post K T H M R ε' σ (.fz (.int i)) v H' M' F) : v = .int i ∧ F = [] ∧ Ok K T H' M' R ε' σ ∧ Stp T H M H' M' := by
  have h := p.rep
  rw [RepO, Rep] at h
  obtain ⟨rfl, h⟩ := h
  exact ⟨h, rfl, p.ok, p.stp'⟩
theorem vi_range1 {tg a : Expr} {f : VF} {p pos : Pos} (hg : Gl X "range") (hm : X.mg "range" = none) (ha : VA X T [a] [f]) (hs : starEach [a] X.env = [(false, eval a X.env)] := by rfl) : VI X T tg (.Call (.Name "range" p) [a] [] pos) (itR1 f) := by
  refine ⟨PI.imp (pi_range1 hg hm ha.pa hs) fun σ H Rk h => ?_⟩
  obtain ⟨M, R, ε, ds, ε', ok, hf, post⟩ := h
  unfold itR1 at hf
  split at hf
  · rename_i j ε1 h1
    split at hf
    · rename_i hj
      cases hf
      refine ⟨M, R, ε, _, _, ok, h1, fun v H' M' F p => ?_⟩
      obtain ⟨rfl, rfl, ok', st⟩ := Post.int p
      obtain ⟨j1, j2⟩ := small_iff hj
      exact ⟨j, rfl, j1, j2, post H' M' _ ok' st itOk_rng⟩
    · cases hf
  · cases hf
theorem vi_range2 {tg a b : Expr} {f g : VF} {p pos : Pos} (hg : Gl X "range") (hm : X.mg "range" = none) (ha : VA X T [a, b] [f, g]) (hs : starEach [a, b] X.env = [(false, eval a X.env), (false, eval b X.env)] := by rfl) (hs2 : starEach [b] X.env = [(false, eval b X.env)] := by rfl) : VI X T tg (.Call (.Name "range" p) [a, b] [] pos) (itR2 f g) := by
  refine ⟨PI.imp (pi_range2 hg hm ha.pa hs hs2) fun σ H Rk h => ?_⟩
  obtain ⟨M, R, ε, ds, ε', ok, hf, post⟩ := h
  unfold itR2 at hf
  split at hf
  · rename_i i ε1 h1
    split at hf
    · rename_i j ε2 h2
      split at hf
      · rename_i hj
        cases hf
        rw [Bool.and_eq_true] at hj
        refine ⟨M, R, ε, _, _, ok, h1, fun v H' M' F p => ?_⟩
        obtain ⟨rfl, rfl, ok', st⟩ := Post.int p
        refine ⟨M', R, ε1, _, _, ok', h2, fun v2 H2 M2 F2 p2 => ?_⟩
        obtain ⟨rfl, rfl, ok2, st2⟩ := Post.int p2
        obtain ⟨i1, i2⟩ := small_iff hj.1
        obtain ⟨j1, j2⟩ := small_iff hj.2
        exact ⟨i, j, rfl, ⟨i1, i2, j1, j2⟩, post H2 M2 _ ok2 (st.trans st2) itOk_rng⟩
      · cases hf
    · cases hf
  · cases hf

/-! ### displays -/
@[simp] def allO : List Ro → Option (List O)
  | [] => some []
  | .o o :: rs => match allO rs with
    | some os => some (o :: os)
    | none => none
  | .b _ :: _ => none
theorem Held.all : ∀ {rs : List Ro} {os : List O} {vs : List V} {F : List Addr}, Held K H A σ rs vs F → allO rs = some os → RepOs K H A os vs F
  | [], os, vs, F, h, e => by cases e; rw [RepOs]; exact h
  | .o o :: rs, os, vs, F, ⟨v, r, F1, F2, e1, e2, h1, h2⟩, e => by
    rw [allO] at e
    split at e
    · rename_i os' h3
      cases e
      rw [RepOs]
      exact ⟨v, r, F1, F2, e1, e2, h1, Held.all h2 h3⟩
    · cases e
  | .b i :: rs, os, vs, F, h, e => by cases e
theorem room_ex : ∃ f : Nat → Bool, ∀ n, f n = decide (n ≤ 1000000) := ⟨_, fun _ => rfl⟩
noncomputable def room : Nat → Bool := room_ex.choose
theorem room_eq (n : Nat) : room n = decide (n ≤ 1000000) := room_ex.choose_spec n
theorem room_line {n : Nat} (h : room n = true) : n ≤ sizeLine := by
  have h := of_decide_eq_true ((room_eq n).symm.trans h)
  rw [sizeLine_eq]
  omega
@[simp] def vTup (fs : List VF) : VF := fun ε => match evs fs ε with
  | some (rs, ε1) => match allO rs with
    | some os => if room os.length then some (.o (.fz (.tup (O.vals os))), ε1) else none
    | none => none
  | none => none
@[simp] def vLst (fs : List VF) : VF := fun ε => match evs fs ε with
  | some (rs, ε1) => match allO rs with
    | some os => if room os.length then some (.o (.own os), ε1) else none
    | none => none
  | none => none
theorem Nodup.left2 {α : Type} {a b c : List α} (h : (a ++ (b ++ c)).Nodup) : ∀ x ∈ b, x ∉ a ++ c := fun x hx z => by
  rcases List.mem_append.mp z with z | z
  · exact (List.nodup_append.mp h).2.2 x z x (List.mem_append_left _ hx) rfl
  · exact (List.nodup_append.mp (List.nodup_append.mp h).2.1).2.2 x hx x z rfl
theorem sub3 {a b c : List Addr} : ∀ x ∈ a ++ c, x ∈ a ++ (b ++ c) := fun x h => (List.mem_append.mp h).elim (fun z => List.mem_append_left _ z) fun z => List.mem_append_right _ (List.mem_append_right _ z)
theorem ve_tup {es : List Expr} {fs : List VF} {x1 : Nat} {pos : Pos} (h : VA X T es fs) : VE X T (.Tuple es x1 pos) (vTup fs) := by
  refine ⟨PE.imp (pe_tup h.pa) fun σ H Q h => ?_⟩
  obtain ⟨M, R, ε, r, ε', ok, hf, post⟩ := h
  unfold vTup at hf
  split at hf
  · rename_i rs ε1 h1
    split at hf
    · rename_i os h2
      split at hf
      · rename_i h3
        cases hf
        refine chain_of ok h1 fun vs H' M' F p => ?_
        have hr := Held.all p.rep h2
        refine ⟨by rw [hr.length]; exact room_line h3, fun q hq => ?_⟩
        have hd : Reps _ H' (M' ++ R) (O.vals os) vs := hr.freeze sub3 _ _ _ (Nodup.left2 p.ok.nd)
        exact post _ _ M' [] (p.made (New.tup hd p.ok.drop.ls p.ok.tab hq))
      · cases hf
    · cases hf
  · cases hf
theorem ve_lst {es : List Expr} {fs : List VF} {pos : Pos} (h : VA X T es fs) : VE X T (.List es pos) (vLst fs) := by
  refine ⟨PE.imp (pe_lst h.pa) fun σ H Q h => ?_⟩
  obtain ⟨M, R, ε, r, ε', ok, hf, post⟩ := h
  unfold vLst at hf
  split at hf
  · rename_i rs ε1 h1
    split at hf
    · rename_i os h2
      split at hf
      · rename_i h3
        cases hf
        refine chain_of ok h1 fun vs H' M' F p => ?_
        have hr := Held.all p.rep h2
        refine ⟨by rw [hr.length]; exact room_line h3, fun q hq => ?_⟩
        have sm : Same H' (upd H' q (.lst vs)) := fun b o e => by rw [upd_ne (ne_of_none e hq)]; exact e
        have lq : Lists (upd H' q (.lst vs)) [q] := fun a ha => by
          have e : a = q := by simpa using ha
          subst e
          exact ⟨vs, upd_same⟩
        have ok2 := p.ok.new sm (F := [q]) (fun a ha => by
          have e : a = q := by simpa using ha
          rw [e]; exact hq) (by simp) lq
        refine post _ _ M' (q :: F) ⟨ok2, ⟨fun b o e hm ht => sm _ _ (p.stp.keep b o e hm ht), fun b o e => ?_, fun a ha => ?_, fun b ps e => let ⟨m, z⟩ := p.stp.grow b ps e; ⟨m, sm _ _ z⟩⟩, ?_⟩
        · obtain ⟨o', e'⟩ := p.stp.live b o e
          exact ⟨o', sm _ _ e'⟩
        · rcases List.mem_append.mp ha with z | z
          · exact p.stp.sub a (List.mem_append_left _ z)
          · rcases List.mem_cons.mp z with rfl | z
            · exact .inr (p.stp.back hq)
            · exact p.stp.sub a (List.mem_append_right _ z)
        · rw [RepO]
          refine ⟨q, vs, F, rfl, upd_same, rfl, hr.mono (T := T) (M := []) (Keep.ofSame sm) p.ok.tab .nil (fun a h => by cases h) (fun a ha => ?_) _ _ _ fun a _ z => by cases z⟩
          rcases List.mem_append.mp ha with z | z
          · exact .inl (List.mem_append_left _ z)
          · rcases List.mem_cons.mp z with rfl | z
            · exact .inr hq
            · exact .inl (List.mem_append_right _ z)
      · cases hf
    · cases hf
  · cases hf
/-- given up: data -/
@[simp] def vFz (f : VF) : VF := fun ε => match f ε with
  | some (.o o, ε1) => some (.o (.fz o.val), ε1)
  | _ => none
theorem ve_fz {e : Expr} {f : VF} (h : VE X T e f) : VE X T e (vFz f) := by
  refine ⟨PE.imp h.pe fun σ H Q h => ?_⟩
  obtain ⟨M, R, ε, r, ε', ok, hf, post⟩ := h
  unfold vFz at hf
  split at hf
  · rename_i o ε1 h1
    cases hf
    exact ⟨M, R, ε, _, _, ok, h1, fun v H' M' F p => post v H' M' [] (Post.fz (Post.ok' p) (Post.stp' p) (Post.data p))⟩
  · cases hf

/-! ### slots forgotten and given back -/
@[simp] def wipeE (ε : Env') : List Nat → Env'
  | [] => ε
  | v :: vs => (wipeE ε vs).set v none
theorem wipeE_length (ε : Env') : ∀ vs : List Nat, (wipeE ε vs).length = ε.length
  | [] => rfl
  | v :: vs => by unfold wipeE; rw [List.length_set, wipeE_length ε vs]
theorem Ok.forget (i : Nat) (k : Ok K T H M R ε σ) (x : Option V) : ∃ M', (∀ a ∈ M', a ∈ M) ∧ Ok K T H M' R (ε.set i none) (σ.set i x) := by
  obtain ⟨G, hs, hr⟩ := k.rep.drop i
  have sub : ∀ a ∈ G, a ∈ M := fun a ha => hs.mem ha
  refine ⟨G, sub, (RepE.any x hr).anti fun a ha => (List.mem_append.mp ha).elim (fun z => List.mem_append_left _ (sub a z)) fun z => List.mem_append_right _ z, ?_, ?_, k.tab⟩
  · exact k.nd.sublist (hs.append (List.Sublist.refl _))
  · exact k.ls.sub fun a ha => (List.mem_append.mp ha).elim (fun z => List.mem_append_left _ (sub a z)) fun z => List.mem_append_right _ z
theorem Ok.wipe (k : Ok K T H M R ε σ) : ∀ vs : List Nat, ∃ M', (∀ a ∈ M', a ∈ M) ∧ Ok K T H M' R (wipeE ε vs) (wipe σ vs)
  | [] => ⟨M, fun _ h => h, k⟩
  | v :: vs => by
    obtain ⟨M1, s1, k1⟩ := Ok.wipe k vs
    obtain ⟨M2, s2, k2⟩ := k1.forget v none
    exact ⟨M2, fun a h => s1 a (s2 a h), k2⟩
theorem Ok.setAny {i : Nat} (k : Ok K T H M R (ε.set i none) σ) (x : Option V) : Ok K T H M R (ε.set i none) (σ.set i x) := ⟨RepE.any x k.rep, k.nd, k.ls, k.tab⟩
theorem set_none_comm {α : Type} (l : List (Option α)) (i j : Nat) : (l.set i none).set j none = (l.set j none).set i none := by
  by_cases h : i = j
  · rw [h]
  · exact List.set_comm none none h
theorem wipeE_set (ε : Env') (i : Nat) : ∀ vs : List Nat, (wipeE ε vs).set i none = wipeE (ε.set i none) vs
  | [] => rfl
  | v :: vs => by
    show ((wipeE ε vs).set v none).set i none = (wipeE (ε.set i none) vs).set v none
    rw [set_none_comm, wipeE_set ε i vs]
/-- behind the block: the slots without a claim hold what they held -/
theorem Ok.unwipe : ∀ (vs : List Nat) {ε : Env'}, Ok K T H M R (wipeE ε vs) (L2.wipe σ vs) → Ok K T H M R (wipeE ε vs) σ
  | [], ε, k => k
  | v :: vs, ε, k => by
    have k1 : Ok K T H M R ((wipeE ε vs).set v none) ((L2.wipe σ vs).set v none) := k
    have k2 := k1.setAny (i := v) ((L2.wipe σ vs)[v]?.getD none)
    have e : ((L2.wipe σ vs).set v none).set v ((L2.wipe σ vs)[v]?.getD none) = L2.wipe σ vs := by
      rw [List.set_set]
      by_cases h : v < (L2.wipe σ vs).length
      · rw [List.getElem?_eq_getElem h]
        exact List.set_getElem_self h
      · exact List.set_eq_of_length_le (by omega)
    rw [e, wipeE_set] at k2
    have k3 := Ok.unwipe vs k2
    show Ok K T H M R ((wipeE ε vs).set v none) σ
    rw [wipeE_set]
    exact k3
@[simp] def clearable (vs : List Nat) (s : Env') : Bool := vs.all fun i => match s[i]? with
  | some (some (.own _)) => false
  | _ => true
@[simp] def restore : List Nat → Env' → Env' → Env'
  | [], _, ε => ε
  | i :: is, s, ε => match s[i]? with
    | some (some x) => restore is s (ε.set i (some x))
    | _ => restore is s ε
theorem Ok.setNone (i : Nat) (k : Ok K T H M R ε σ) : ∃ M', (∀ a ∈ M', a ∈ M) ∧ Ok K T H M' R (ε.set i none) σ := by
  obtain ⟨M', h1, k1⟩ := k.forget i (σ[i]?.getD none)
  have e : σ.set i (σ[i]?.getD none) = σ := by
    by_cases h : i < σ.length
    · rw [List.getElem?_eq_getElem h]
      exact List.set_getElem_self h
    · exact List.set_eq_of_length_le (by omega)
  rw [e] at k1
  exact ⟨M', h1, k1⟩
theorem Ok.restore {s : Env'} {H0 : Hp} {M0 : List Addr} (k0 : Ok K T H0 M0 R s σ) (st : Stp T H0 M0 H M) : ∀ (is : List Nat) {ε : Env'} {M1 : List Addr}, clearable is s = true → (∀ a ∈ M1, a ∈ M) → Ok K T H M1 (F ++ R) ε σ → (∀ a ∈ F, a ∈ M0 ∨ H0 a = none) → ∃ M', (∀ a ∈ M', a ∈ M) ∧ Ok K T H M' (F ++ R) (VS.restore is s ε) σ
  | [], ε, M1, _, hs, k, _ => ⟨M1, hs, k⟩
  | i :: is, ε, M1, hc, hs, k, hF => by
    have hc' : (match s[i]? with | some (some (O.own _)) => false | _ => true) = true ∧ clearable is s = true := by
      unfold clearable at hc
      rw [List.all_cons, Bool.and_eq_true] at hc
      exact hc
    unfold VS.restore
    split
    · rename_i x hx
      rw [hx] at hc'
      cases x with
      | own l => exact absurd hc'.1 (by simp)
      | fz d =>
        obtain ⟨v, F2, g1, g2, _⟩ := k0.rep.get hx
        rw [RepO] at g2
        have g3 : Rep K H (M1 ++ (F ++ R)) d v := g2.2.mono st.keep k0.tab k0.ls1 (fun a h => List.mem_append_left _ h) fun a ha => by
          rcases List.mem_append.mp ha with z | z
          · rcases st.sub a (hs a z) with z | z
            · exact .inl (List.mem_append_left _ z)
            · exact .inr z
          · rcases List.mem_append.mp z with z | z
            · rcases hF a z with z | z
              · exact .inl (List.mem_append_left _ z)
              · exact .inr z
            · exact .inl (List.mem_append_right _ z)
        obtain ⟨M2, h2, k2⟩ := k.setNone i
        obtain ⟨M3, p3, k3⟩ := Ok.put' (F := []) (R := F ++ R) (o := .fz d) (v := v) (ε := ε) (i := i) k2 (by
          rw [RepO]
          refine ⟨rfl, g3.anti fun a ha => (List.mem_append.mp ha).elim (fun z => List.mem_append_left _ (h2 a z)) fun z => List.mem_append_right _ z⟩) g1
        refine Ok.restore k0 st is hc'.2 (fun a ha => hs a (h2 a ?_)) k3 hF
        simpa using p3.mem_iff.mp ha
    · exact Ok.restore k0 st is hc'.2 hs k hF
end
end
end VS


set_option Elab.async false
set_option linter.all false
/-! VS4: list comprehensions; a def's calls. -/
namespace VS
noncomputable section
open PySem PySem.Spec PyProof.Rows L2
section
variable {K : PySem.W.Frag} {T : List TK} {P : List Nat} {H H' H'' : Hp} {M M' M'' R R' F F' A A' : List Addr} {ε ε' : Env'} {σ σ' σ'' : L2.St} {X : Cx}

/-! ### list comprehensions -/
@[simp] def lcRun (own : List Nat) (b : BF) (c : TF) (f : VF) : List D → Env' → Option (List O × Env')
  | [], ε => some ([], ε)
  | d :: ds, ε => match b d ε with
    | none => none
    | some ε1 => match c ε1 with
      | some (true, ε2) => match f ε2 with
        | some (.o o, ε3) => match lcRun own b c f ds (wipeE ε3 own) with
          | some (os, ε4) => some (o :: os, ε4)
          | none => none
        | _ => none
      | some (false, ε2) => lcRun own b c f ds (wipeE ε2 own)
      | none => none
@[simp] def vLc (n : Nat) (own : List Nat) (it : Env' → Option (List D × Env')) (b : BF) (c : TF) (f : VF) : VF := fun ε => match it ε with
  | some (ds, ε1) => if (clearable own ε1 && room ds.length) && decide (ε1.length = n) then
      match lcRun own b c f ds (wipeE ε1 own) with
      | some (os, ε2) => some (.o (.own os), restore own ε1 ε2)
      | none => none
    else none
  | none => none
@[simp] def tYes' : TF := fun ε => some (true, ε)
structure VTs (X : Cx) (T : List TK) (ifs : List Expr) (c : TF) : Prop where
  pt : PTs X ifs (tT X.K T c)
theorem PTs.imp {X : Cx} {e : List Expr} {t t' : TT} (h : PTs X e t) (i : ∀ σ H Q, t' σ H Q → t σ H Q) : PTs X e t' := ⟨fun pins s σ H Q I q => h.run pins s σ H Q I (i σ H Q q)⟩
theorem vts_nil : VTs X T [] tYes' := by
  refine ⟨PTs.imp pts_nil fun σ H Q h => ?_⟩
  obtain ⟨M, R, ε, b, ε', ok, hf, post⟩ := h
  cases hf
  exact post H M ok .refl
theorem vts_one {e : Expr} {c : TF} (h : VT X T e c) : VTs X T [e] c := ⟨pts_one h.pt⟩

/-- an owned list changed -/
theorem Ok.upd {a : Addr} {vs : List V} (k : Ok K T H M R ε σ) (ha : a ∈ R) : Ok K T (L2.upd H a (.lst vs)) M R ε σ where
  rep := k.rep.mono (T := T) (M := [a]) (fun b o e hb _ => by rw [upd_ne (by simpa using hb)]; exact e) k.tab (fun b hb => by
      have e : b = a := by simpa using hb
      rw [e]; exact k.ls2 a ha) (fun b hb => by
      have e : b = a := by simpa using hb
      rw [e]; exact List.mem_append_right _ ha) (fun b hb => .inl hb) fun b hb z => by
      have e : b = a := by simpa using z
      subst e
      exact k.apart ha hb
  nd := k.nd
  ls := fun b hb => by
    by_cases e : b = a
    · subst e; exact ⟨vs, upd_same⟩
    · rw [upd_ne e]; exact k.ls b hb
  tab := let ⟨_, e⟩ := k.ls2 a ha; k.tab.upd e
theorem keep_upd {a : Addr} {vs : List V} : Keep T H [a] (L2.upd H a (.lst vs)) := fun b o e hb _ => by rw [upd_ne (by simpa using hb)]; exact e

theorem wipe_idem_aux (σ : L2.St) (vs : List Nat) (i : Nat) : (L2.wipe σ vs)[i]? = if i ∈ vs then (if i < σ.length then some none else none) else σ[i]? := by
  induction vs with
  | nil => simp [L2.wipe]
  | cons v vs ih =>
    unfold L2.wipe
    by_cases h : v = i
    · subst h
      rw [if_pos List.mem_cons_self]
      by_cases hl : v < σ.length
      · rw [List.getElem?_set_self (by rw [wipe_length]; exact hl), if_pos hl]
      · rw [List.getElem?_eq_none (by rw [List.length_set, wipe_length]; omega), if_neg hl]
    · rw [List.getElem?_set_ne h, ih]
      have : (i ∈ v :: vs) = (i ∈ vs) := by
        simp only [List.mem_cons]
        exact propext ⟨fun z => z.elim (fun z => absurd z.symm h) id, .inr⟩
      simp only [this]
theorem wipe_eq {σ σ2 : L2.St} {vs : List Nat} (hl : σ2.length = σ.length) (h : ∀ i, i < σ.length → i ∉ vs → σ2[i]? = (L2.wipe σ vs)[i]?) : L2.wipe σ2 vs = L2.wipe σ vs := by
  apply List.ext_getElem?
  intro i
  by_cases hi : i ∈ vs
  · rw [wipe_idem_aux, wipe_idem_aux, if_pos hi, if_pos hi, hl]
  · rw [wipe_idem_aux, if_neg hi]
    by_cases hl2 : i < σ.length
    · exact h i hl2 hi
    · rw [List.getElem?_eq_none (by omega), List.getElem?_eq_none (by rw [wipe_length]; omega)]

theorem lc_of {it : Env' → Option (List D × Env')} {b : BF} {c : TF} {f : VF} {own : List Nat} {n : Nat} {P' : List Nat} (hP : ∀ i, i < n → i ∉ own → i ∈ P') {H : Hp} {Q : VK}
    (h : tV K T (vLc n own it b c f) σ H Q) : tLc (wI K T it) (gB K T P' b) (tT K T c) (tV K T f) own σ H Q := by
  obtain ⟨M, R, ε, r, ε', ok, hf, post⟩ := h
  unfold vLc at hf
  split at hf
  · rename_i ds ε1 h1
    split at hf
    · rename_i hc
      rw [Bool.and_eq_true, Bool.and_eq_true] at hc
      obtain ⟨⟨hc, hroom⟩, hn⟩ := hc
      have hn : ε1.length = n := of_decide_eq_true hn
      split at hf
      · rename_i os ε2 h2
        cases hf
        refine ⟨M, R, ε, ds, ε1, ok, h1, fun H1 M1 J ok1 st1 hJ => fun d hd => ?_⟩
        have hσ : σ.length = n := ok1.len.trans hn
        -- the new list d
        have sm : Same H1 (upd H1 d (.lst [])) := fun b o e => by rw [upd_ne (ne_of_none e hd)]; exact e
        have okd : Ok K T (upd H1 d (.lst [])) M1 ([d] ++ R) ε1 σ := ok1.new sm (F := [d]) (fun a ha => by
          have e : a = d := by simpa using ha
          rw [e]; exact hd) (by simp) fun a ha => by
          have e : a = d := by simpa using ha
          subst e
          exact ⟨[], upd_same⟩
        obtain ⟨M2, s2, ok2⟩ := okd.wipe own
        refine ⟨fun i m H3 => ∃ M3 ε3 acc rest Fa vs, m = ds.length - i ∧ i ≤ ds.length ∧ acc.length ≤ i ∧ Ok K T H3 M3 ((d :: Fa) ++ R) (wipeE ε3 own) (wipe σ own) ∧ Stp T H1 M1 H3 (M3 ++ (d :: Fa)) ∧ H3 d = some (.lst vs) ∧ RepOs K H3 (M3 ++ ((d :: Fa) ++ R)) acc vs Fa ∧
          lcRun own b c f (ds.drop i) (wipeE ε3 own) = some (rest, ε2) ∧ os = acc ++ rest, ⟨ds.length, M2, ε1, [], os, [], [], rfl, Nat.zero_le _, Nat.le_refl _, ok2, ⟨Keep.ofSame sm, fun b o e => ⟨o, sm _ _ e⟩, fun a ha => ?_, growS sm⟩, upd_same, by rw [RepOs]; exact ⟨rfl, rfl⟩, h2, rfl⟩, fun i m H3 hW => ?_⟩
        · rcases List.mem_append.mp ha with z | z
          · exact .inl (s2 a z)
          · have e : a = d := by simpa using z
            rw [e]; exact .inr hd
        · obtain ⟨M3, ε3, acc, rest, Fa, vs, rfl, hi, hacc, ok3, st3, hd3, ra, hr, hos⟩ := hW
          have okR : Ok K T H3 M3 R (wipeE ε3 own) (wipe σ own) := ok3.drop
          have hj := hJ H3 M3 i ((st3.less fun a h => List.mem_append_left _ h).more _) ok3.tab okR.ls
          cases hdi : ds[i]? with
          | none =>
            have hle : ds.length ≤ i := List.getElem?_eq_none_iff.mp hdi
            refine .inl ⟨hj.2 hle, ?_⟩
            rw [List.drop_of_length_le hle] at hr
            cases hr
            rw [List.append_nil] at hos
            subst hos
            have k4 := Ok.unwipe own ok3
            obtain ⟨M4, s4, k5⟩ := Ok.restore (F := d :: Fa) ok1 (st3.less fun a h => List.mem_append_left _ h) own hc (fun a h => h) k4 fun a ha => st3.sub a (List.mem_append_right _ ha)
            have st4 : Stp T H M H3 (M4 ++ (d :: Fa)) := st1.trans (st3.less fun a h => (List.mem_append.mp h).elim (fun z => List.mem_append_left _ (s4 a z)) fun z => List.mem_append_right _ z)
            refine post _ H3 M4 (d :: Fa) ⟨k5, st4, ?_⟩
            rw [RepO]
            exact ⟨d, vs, Fa, rfl, hd3, rfl, ra.anti (fun a h => (List.mem_append.mp h).elim (fun z => List.mem_append_left _ (s4 a z)) fun z => List.mem_append_right _ z) _ _ _⟩
          | some x0 =>
            obtain ⟨hlt, hget⟩ := List.getElem?_eq_some_iff.mp hdi
            obtain ⟨go, yl⟩ := hj.1 x0 hdi
            refine .inr ⟨go, fun H4 => ∃ M4 ε4 acc4 rest4 Fa4 vs4, acc4.length ≤ i + 1 ∧ Ok K T H4 M4 ((d :: Fa4) ++ R) (wipeE ε4 own) (wipe σ own) ∧ Stp T H1 M1 H4 (M4 ++ (d :: Fa4)) ∧ H4 d = some (.lst vs4) ∧ RepOs K H4 (M4 ++ ((d :: Fa4) ++ R)) acc4 vs4 Fa4 ∧
              lcRun own b c f (ds.drop (i + 1)) (wipeE ε4 own) = some (rest4, ε2) ∧ os = acc4 ++ rest4, fun H4 ⟨M4, ε4, acc4, rest4, Fa4, vs4, q1, q2, q3, q4, q5, q6, q7⟩ => ⟨ds.length - (i + 1), by omega, M4, ε4, acc4, rest4, Fa4, vs4, rfl, by omega, q1, q2, q3, q4, q5, q6, q7⟩, fun x H4 hy => ?_⟩
            obtain ⟨sm4, rx⟩ := yl x H4 hy
            rw [List.drop_eq_getElem_cons hlt, hget, lcRun] at hr
            -- the state behind the draw
            have ok4 : Ok K T H4 M3 ((d :: Fa) ++ R) (wipeE ε3 own) (wipe σ own) := ok3.same sm4
            have hd4 : H4 d = some (.lst vs) := sm4 _ _ hd3
            have ra4 : RepOs K H4 (M3 ++ ((d :: Fa) ++ R)) acc vs Fa := ra.mono (T := T) (M := []) (Keep.ofSame sm4) ok3.tab .nil (fun a h => by cases h) (fun a h => .inl h) _ _ _ fun a _ z => by cases z
            have st4 : Stp T H1 M1 H4 (M3 ++ (d :: Fa)) := st3.trans (Stp.ofSame sm4)
            have rx' : Rep K H4 (M3 ++ ((d :: Fa) ++ R)) x0 x := by
              have hjj := (hJ H3 (M3 ++ (d :: Fa)) i (st3.more _) ok3.tab (by rw [List.append_assoc]; exact ok3.ls)).1 x0 hdi
              have := (hjj.2 x H4 hy).2
              rw [List.append_assoc] at this
              exact this
            split at hr
            · cases hr
            · rename_i ε5 hb5
              refine ⟨M3, (d :: Fa) ++ R, wipeE ε3 own, x0, ε5, ok4, rx', hb5, fun σ5 H5 M5 e5 => ?_⟩
              have hl5 : σ5.length = σ.length := e5.pr.1.trans (wipe_length σ own)
              have hw5 : wipe σ5 own = wipe σ own := wipe_eq hl5 fun j hj1 hj2 => e5.pr.2 j (hP j (by omega) hj2)
              refine ⟨hw5, ?_⟩
              have nd5 := e5.ok.apart (a := d) (List.mem_append_left _ List.mem_cons_self)
              -- the state behind the test, with the rest of the turn
              have tail : ∀ {ε6 : Env'} {H6 : Hp} {M6 : List Addr} {acc6 rest6 : List O} {Fa6 : List Addr} {vs6 : List V}, Ok K T H6 M6 ((d :: Fa6) ++ R) ε6 σ5 → Stp T H1 M1 H6 (M6 ++ (d :: Fa6)) → H6 d = some (.lst vs6) → RepOs K H6 (M6 ++ ((d :: Fa6) ++ R)) acc6 vs6 Fa6 → acc6.length ≤ i + 1 →
                  lcRun own b c f (ds.drop (i + 1)) (wipeE ε6 own) = some (rest6, ε2) → os = acc6 ++ rest6 →
                  ∃ M4 ε4 acc4 rest4 Fa4 vs4, acc4.length ≤ i + 1 ∧ Ok K T H6 M4 ((d :: Fa4) ++ R) (wipeE ε4 own) (wipe σ own) ∧ Stp T H1 M1 H6 (M4 ++ (d :: Fa4)) ∧ H6 d = some (.lst vs4) ∧ RepOs K H6 (M4 ++ ((d :: Fa4) ++ R)) acc4 vs4 Fa4 ∧ lcRun own b c f (ds.drop (i + 1)) (wipeE ε4 own) = some (rest4, ε2) ∧ os = acc4 ++ rest4 := by
                intro ε6 H6 M6 acc6 rest6 Fa6 vs6 k6 s6 e6 r6 l6 q6 o6
                obtain ⟨M7, s7, k7⟩ := k6.wipe own
                rw [hw5] at k7
                exact ⟨M7, ε6, acc6, rest6, Fa6, vs6, l6, k7, s6.less fun a h => (List.mem_append.mp h).elim (fun z => List.mem_append_left _ (s7 a z)) fun z => List.mem_append_right _ z, e6, r6.anti (fun a h => (List.mem_append.mp h).elim (fun z => List.mem_append_left _ (s7 a z)) fun z => List.mem_append_right _ z) _ _ _, q6, o6⟩
              have later : ∀ {H6 : Hp} {M6 F6 : List Addr} {ε6 : Env'}, Ok K T H6 M6 (F6 ++ ((d :: Fa) ++ R)) ε6 σ5 → Stp T H4 M3 H6 (M6 ++ F6) → H6 d = some (.lst vs) ∧ RepOs K H6 (M6 ++ (F6 ++ ((d :: Fa) ++ R))) acc vs Fa := by
                intro H6 M6 F6 ε6 k6 s6
                have h6 : H6 d = some (.lst vs) := s6.keep d _ hd4 (ok4.apart (List.mem_append_left _ List.mem_cons_self)) (ok4.tab.nlst hd4)
                refine ⟨h6, ra4.mono s6.keep ok4.tab ok4.ls1 (fun a h => List.mem_append_left _ h) (fun a h => ?_) _ _ _ fun a ha => ok4.apart (List.mem_append_left _ (List.mem_cons_of_mem _ ha))⟩
                have go : a ∈ M6 ++ F6 → a ∈ M3 ++ ((d :: Fa) ++ R) ∨ H4 a = none := fun z => (s6.sub a z).elim (fun z => .inl (List.mem_append_left _ z)) .inr
                rcases List.mem_append.mp h with z | z
                · exact go (List.mem_append_left _ z)
                · rcases List.mem_append.mp z with z | z
                  · exact go (List.mem_append_right _ z)
                  · exact .inl (List.mem_append_right _ z)
              split at hr
              · rename_i ε6 h6
                split at hr
                · rename_i o ε7 h7
                  split at hr
                  · rename_i os' ε8 h8
                    cases hr
                    refine ⟨M5, (d :: Fa) ++ R, ε5, true, ε6, e5.ok, h6, fun H6 M6 ok6 st6 => ?_⟩
                    refine iteT ?_
                    refine ⟨M6, (d :: Fa) ++ R, ε6, .o o, ε7, ok6, h7, fun y H7 M7 F7 p7 => ?_⟩
                    have p7 : Post K T H6 M6 ((d :: Fa) ++ R) ε7 σ5 o y H7 M7 F7 := p7
                    have s7 : Stp T H4 M3 H7 (M7 ++ F7) := (e5.stp.trans st6).trans p7.stp
                    obtain ⟨hd7, ra7⟩ := later p7.ok s7
                    refine ⟨vs, hd7, ?_, ?_⟩
                    · rw [ra7.length]
                      have := room_line hroom
                      omega
                    · have k7 : Ok K T H7 M7 (((d :: Fa) ++ F7) ++ R) ε7 σ5 := p7.ok.swap
                      have k8 : Ok K T (upd H7 d (.lst (vs ++ [y]))) M7 ((d :: (Fa ++ F7)) ++ R) ε7 σ5 := k7.upd (List.mem_append_left _ List.mem_cons_self)
                      have mem : ∀ a, a ∈ M7 ++ ((d :: (Fa ++ F7)) ++ R) ↔ a ∈ M7 ++ (F7 ++ ((d :: Fa) ++ R)) := fun a => by
                        simp only [List.mem_append, List.mem_cons]
                        constructor
                        · rintro (h | (h | h | h) | h) <;> simp [h]
                        · rintro (h | h | (h | h) | h) <;> simp [h]
                      have nd7 : ∀ a ∈ (d :: Fa) ++ F7, a = d ∨ a ≠ d := fun a _ => by
                        by_cases e : a = d
                        · exact .inl e
                        · exact .inr e
                      have dis : (d :: (Fa ++ F7)).Nodup := by
                        have z := (List.nodup_append.mp k7.nd).2.1
                        exact (List.nodup_append.mp z).1
                      have dn : d ∉ Fa ++ F7 := (List.nodup_cons.mp dis).1
                      have rA : RepOs K (upd H7 d (.lst (vs ++ [y]))) (M7 ++ ((d :: (Fa ++ F7)) ++ R)) (acc ++ [o]) (vs ++ [y]) (Fa ++ (F7 ++ [])) := by
                        refine RepOs.append ?_ ?_
                        · refine (ra7.mono (T := T) keep_upd p7.ok.tab (fun a ha => ?_) (fun a ha => ?_) (fun a ha => .inl ((mem a).mp ha)) _ _ _ fun a ha z => ?_)
                          · have e : a = d := by simpa using ha
                            rw [e]; exact ⟨vs, hd7⟩
                          · have e : a = d := by simpa using ha
                            rw [e]
                            exact List.mem_append_right _ (List.mem_append_right _ (List.mem_append_left _ List.mem_cons_self))
                          · have e : a = d := by simpa using z
                            rw [e] at ha
                            exact dn (List.mem_append_left _ ha)
                        · rw [RepOs]
                          refine ⟨y, [], F7, [], rfl, rfl, p7.rep.mono (T := T) keep_upd p7.ok.tab (fun a ha => ?_) (fun a ha => ?_) (fun a ha => .inl ((mem a).mp ha)) _ _ _ (fun a ha z => ?_), by rw [RepOs]; exact ⟨rfl, rfl⟩⟩
                          · have e : a = d := by simpa using ha
                            rw [e]; exact ⟨vs, hd7⟩
                          · have e : a = d := by simpa using ha
                            rw [e]
                            exact List.mem_append_right _ (List.mem_append_right _ (List.mem_append_left _ List.mem_cons_self))
                          · have e : a = d := by simpa using z
                            rw [e] at ha
                            exact dn (List.mem_append_right _ ha)
                      rw [List.append_nil] at rA
                      have sA : Stp T H1 M1 (upd H7 d (.lst (vs ++ [y]))) (M7 ++ (d :: (Fa ++ F7))) := by
                        have hkeep : Keep T H1 M1 H7 := fun b o e hm ht => s7.keep b o (st4.keep b o e hm ht) (fun z => (st4.sub b (List.mem_append_left _ z)).elim hm fun z => by rw [e] at z; cases z) ht
                        refine ⟨fun b o e hm ht => ?_, fun b o e => ?_, fun a ha => ?_, fun b ps e => by rw [upd_ne (ne_of_none e hd)]; exact grow2 st4.grow s7.grow b ps e⟩
                        · rw [upd_ne (ne_of_none e hd)]
                          exact hkeep b o e hm ht
                        · by_cases eb : b = d
                          · rw [eb]; exact ⟨_, upd_same⟩
                          · rw [upd_ne eb]
                            obtain ⟨o1, e1⟩ := st4.live b o e
                            exact s7.live b o1 e1
                        · have back : H4 a = none → H1 a = none := fun z => st4.back z
                          have go : a ∈ M7 ++ F7 → a ∈ M1 ∨ H1 a = none := fun z => (s7.sub a z).elim (fun z => st4.sub a (List.mem_append_left _ z)) fun z => .inr (back z)
                          simp only [List.mem_append, List.mem_cons] at ha
                          rcases ha with z | z | z | z
                          · exact go (List.mem_append_left _ z)
                          · exact st4.sub a (by rw [z]; exact List.mem_append_right _ List.mem_cons_self)
                          · exact st4.sub a (List.mem_append_right _ (List.mem_cons_of_mem _ z))
                          · exact go (List.mem_append_right _ z)
                      exact tail k8 sA upd_same rA (by rw [List.length_append]; show acc.length + 1 ≤ i + 1; omega) h8 (by rw [hos, List.append_assoc]; rfl)
                  · cases hr
                · cases hr
              · rename_i ε6 h6
                refine ⟨M5, (d :: Fa) ++ R, ε5, false, ε6, e5.ok, h6, fun H6 M6 ok6 st6 => ?_⟩
                refine iteF ?_
                have s6 : Stp T H4 M3 H6 (M6 ++ []) := by
                  rw [List.append_nil]
                  exact e5.stp.trans st6
                obtain ⟨hd6, ra6⟩ := later (F6 := []) ok6 s6
                refine tail ok6 ?_ hd6 ra6 (by omega) hr hos
                refine ⟨fun b o e hm ht => s6.keep b o (st4.keep b o e hm ht) (fun z => (st4.sub b (List.mem_append_left _ z)).elim hm fun z => by rw [e] at z; cases z) ht, fun b o e => ?_, fun a ha => ?_, grow2 st4.grow s6.grow⟩
                · obtain ⟨o1, e1⟩ := st4.live b o e
                  exact s6.live b o1 e1
                · rcases List.mem_append.mp ha with z | z
                  · exact (s6.sub a (List.mem_append_left _ z)).elim (fun z => st4.sub a (List.mem_append_left _ z)) fun z => .inr (st4.back z)
                  · exact st4.sub a (List.mem_append_right _ z)
              · cases hr
      · cases hf
    · cases hf
  · cases hf
@[simp] def notIn (own : List Nat) (n : Nat) : List Nat := (List.range n).filter fun i => !own.contains i
theorem notIn_mem {own : List Nat} {n i : Nat} (h : i < n) (ho : i ∉ own) : i ∈ notIn own n := by
  unfold notIn
  rw [List.mem_filter]
  refine ⟨List.mem_range.mpr h, ?_⟩
  simpa using ho
theorem ve_lc {elt tg iter : Expr} {ifs : List Expr} {scope : Scope} {own : List (Str × Nat)} {pos : Pos} {it : Env' → Option (List D × Env')} {b : BF} {c : TF} {f : VF} {n : Nat} (hc : X.calm = true) (hN : X.N.Nodup) (hi : VI X T tg iter it) (ok : BlkOk X.N X.env.scope scope own)
    (hg : ∀ (s : Shared) (H : Hp) (C : Addr) (cl : List (Str × Addr)) (fp : List Addr), VG (X.blk s H scope (compEnvC scope cl C X.env) fp) T (notIn (own.map (·.2)) n) tg b) (ht : ∀ (s : Shared) (H : Hp) (C : Addr) (cl : List (Str × Addr)) (fp : List Addr), VTs (X.blk s H scope (compEnvC scope cl C X.env) fp) T ifs c)
    (he : ∀ (s : Shared) (H : Hp) (C : Addr) (cl : List (Str × Addr)) (fp : List Addr), VE (X.blk s H scope (compEnvC scope cl C X.env) fp) T elt f) (hs : ∀ x, foldedSetIterable iter X.env x = pure x := by intro _; rfl) :
    VE X T (.ListComp elt [⟨tg, iter, ifs, 0⟩] scope pos) (vLc n (own.map (·.2)) it b c f) :=
  ⟨PE.imp (pe_lc hc hN hi.pi ok (fun s H C cl fp => (show PG _ tg (gB X.K T _ b) from (hg s H C cl fp).pg)) (fun s H C cl fp => (show PTs _ ifs (tT X.K T c) from (ht s H C cl fp).pt)) (fun s H C cl fp => (show PE _ elt (tV X.K T f) from (he s H C cl fp).pe)) hs) fun σ H Q h => lc_of (fun i h1 h2 => notIn_mem h1 h2) h⟩
/-- y = [..] -/
theorem vs_setLc {i : Nat} {y : Str} {py : Pos} {elt tg iter : Expr} {ifs : List Expr} {scope : Scope} {own : List (Str × Nat)} {pos spos : Pos} {it : Env' → Option (List D × Env')} {b : BF} {c : TF} {f : VF} {n : Nat} (hc : X.calm = true) (hN : X.N.Nodup) (hy : X.N[i]? = some y) (hyl : X.env.scope.names.lookup y = some .local) (hx : Loc X.env.scope y) (hP : i ∉ P)
    (hsw : swapsWith (.ListComp elt [⟨tg, iter, ifs, 0⟩] scope pos) (some (.Name y py)) spos.line X.env = pure true) (hi : VI X T tg iter it) (ok : BlkOk X.N X.env.scope scope own)
    (hg : ∀ (s : Shared) (H : Hp) (C : Addr) (cl : List (Str × Addr)) (fp : List Addr), VG (X.blk s H scope (compEnvC scope cl C X.env) fp) T (notIn (own.map (·.2)) n) tg b) (ht : ∀ (s : Shared) (H : Hp) (C : Addr) (cl : List (Str × Addr)) (fp : List Addr), VTs (X.blk s H scope (compEnvC scope cl C X.env) fp) T ifs c)
    (he : ∀ (s : Shared) (H : Hp) (C : Addr) (cl : List (Str × Addr)) (fp : List Addr), VE (X.blk s H scope (compEnvC scope cl C X.env) fp) T elt f) (hs : ∀ x, foldedSetIterable iter X.env x = pure x := by intro _; rfl) :
    VS X T P (.Assign [.Name y py] (.ListComp elt [⟨tg, iter, ifs, 0⟩] scope pos) spos) (sSet i (vLc n (own.map (·.2)) it b c f)) := by
  refine vs_set hN hy hx hP (ve_lc hc hN hi ok hg ht he hs) ?_
  refine PS.imp (ps_setLc hc hN hy hyl hsw hi.pi ok (fun s H C cl fp => (show PG _ tg (gB X.K T _ b) from (hg s H C cl fp).pg)) (fun s H C cl fp => (show PTs _ ifs (tT X.K T c) from (ht s H C cl fp).pt)) (fun s H C cl fp => (show PE _ elt (tV X.K T f) from (he s H C cl fp).pe)) hs) fun D σ H h => ?_
  exact lc_of (fun i h1 h2 => notIn_mem h1 h2) h
end
end
end VS


set_option Elab.async false
set_option linter.all false
/-! VS5: owned lists read and changed. -/
namespace VS
noncomputable section
open PySem PySem.Spec PyProof.Rows L2
section
variable {K : PySem.W.Frag} {T : List TK} {P : List Nat} {H H' H'' : Hp} {M M' M'' R R' F F' A A' : List Addr} {ε ε' : Env'} {σ σ' σ'' : L2.St} {X : Cx}

/-! ### one item of an owned list -/
theorem RepOs.at : ∀ {l : List O} {vs : List V} {F : List Addr} {k : Nat} {o : O}, RepOs K H A l vs F → l[k]? = some o → ∃ v Fk G, vs[k]? = some v ∧ F.Perm (Fk ++ G) ∧ RepO K H A o v Fk ∧ RepOs K H A (l.eraseIdx k) (vs.eraseIdx k) G
  | [], _, _, k, o, h, e => by simp at e
  | p :: l, _, _, 0, o, h, e => by
    rw [RepOs] at h
    obtain ⟨v, r, F1, F2, rfl, rfl, h1, h2⟩ := h
    simp at e
    subst e
    exact ⟨v, F1, F2, rfl, .refl _, h1, h2⟩
  | p :: l, _, _, k + 1, o, h, e => by
    rw [RepOs] at h
    obtain ⟨v, r, F1, F2, rfl, rfl, h1, h2⟩ := h
    obtain ⟨w, Fk, G, g1, g2, g3, g4⟩ := RepOs.at h2 (k := k) (by simpa using e)
    refine ⟨w, Fk, F1 ++ G, by simpa using g1, ?_, g3, ?_⟩
    · refine (List.Perm.append_left F1 g2).trans ?_
      rw [← List.append_assoc, ← List.append_assoc]
      exact List.Perm.append_right G List.perm_append_comm
    · rw [List.eraseIdx_cons_succ, List.eraseIdx_cons_succ, RepOs]
      exact ⟨v, _, F1, G, rfl, rfl, h1, g4⟩
/-- put back -/
theorem RepOs.back : ∀ {l : List O} {vs : List V} {F G : List Addr} {k : Nat} {o : O} {v : V}, RepOs K H A (l.eraseIdx k) (vs.eraseIdx k) G → RepO K H A o v F → k < l.length → k < vs.length → ∃ G', G'.Perm (F ++ G) ∧ RepOs K H A (l.set k o) (vs.set k v) G'
  | [], _, _, _, k, o, v, _, _, hk, _ => by simp at hk
  | p :: l, [], _, _, k, o, v, _, _, _, hk => by simp at hk
  | p :: l, w :: vs, F, G, 0, o, v, h, ho, _, _ => by
    refine ⟨F ++ G, .refl _, ?_⟩
    rw [List.set_cons_zero, List.set_cons_zero, RepOs]
    exact ⟨v, vs, F, G, rfl, rfl, ho, h⟩
  | p :: l, w :: vs, F, G, k + 1, o, v, h, ho, hk, hk2 => by
    rw [List.eraseIdx_cons_succ, List.eraseIdx_cons_succ, RepOs] at h
    obtain ⟨w', r, F1, F2, e, rfl, h1, h2⟩ := h
    cases e
    obtain ⟨G', g1, g2⟩ := RepOs.back h2 ho (by simpa using hk) (by simpa using hk2)
    refine ⟨F1 ++ G', ?_, ?_⟩
    · refine (List.Perm.append_left F1 g1).trans ?_
      rw [← List.append_assoc, ← List.append_assoc]
      exact List.Perm.append_right F2 List.perm_append_comm
    · rw [List.set_cons_succ, List.set_cons_succ, RepOs]
      exact ⟨w, _, F1, G', rfl, rfl, h1, g2⟩
theorem set_back {α : Type} {l : List α} {k : Nat} {x : α} (h : l[k]? = some x) : l.set k x = l := by
  obtain ⟨h1, rfl⟩ := List.getElem?_eq_some_iff.mp h
  exact List.set_getElem_self h1

/-! ### places read -/
abbrev Pl := Env' → Option O
def tP (K : PySem.W.Frag) (T : List TK) (g : Pl) : TE := fun σ H Q => ∃ M R ε o, Ok K T H M R ε σ ∧ g ε = some o ∧ ∀ v F, RepO K H (M ++ R) o v F → (∀ a ∈ F, a ∈ M) → Q v H
structure VP (X : Cx) (T : List TK) (e : Expr) (g : Pl) : Prop where
  pe : PE X e (tP X.K T g)
@[simp] def gN (i : Nat) : Pl := fun ε => match ε[i]? with
  | some (some o) => some o
  | _ => none
@[simp] def gC (d : D) : Pl := fun _ => some (.fz d)
@[simp] def itemO (o : O) (n : Int) : Option O := match o with
  | .own l => atI l n
  | .fz (.lst l) => (atI l n).map O.fz
  | .fz (.tup l) => (atI l n).map O.fz
  | _ => none
@[simp] def gIx (g h : Pl) : Pl := fun ε => match g ε, h ε with
  | some o, some (.fz (.int n)) => itemO o n
  | _, _ => none
theorem vp_name {i : Nat} {x : Str} {pos : Pos} (hN : X.N[i]? = some x) (hv : Vis X.env.scope x) (hd : (x == ("__debug__" : Str)) = false) (hcd : (x == ("__classdict__" : Str)) = false) : VP X T (.Name x pos) (gN i) := by
  refine ⟨PE.imp (pe_var hN hv hd hcd) fun σ H Q h => ?_⟩
  obtain ⟨M, R, ε, o, ok, hf, post⟩ := h
  unfold gN at hf
  split at hf
  · rename_i o' e
    cases hf
    obtain ⟨v, F2, g1, g2, g3⟩ := ok.rep.get e
    exact ⟨v, g1, post v F2 g2 g3⟩
  · cases hf
theorem vp_c {d : D} {v : V} {e : Expr} (h : PE X e (tC v)) (hr : ∀ K H A, Rep K H A d v) : VP X T e (gC d) := by
  refine ⟨PE.imp h fun σ H Q h => ?_⟩
  obtain ⟨M, R, ε, o, ok, hf, post⟩ := h
  cases hf
  exact post v [] (by rw [RepO]; exact ⟨rfl, hr _ _ _⟩) fun a h => by cases h
theorem vp_int {i j pos} : VP X T (.Constant (.int i) j pos) (gC (.int i)) := vp_c pe_int fun _ _ _ => by rw [Rep]
theorem atI_some {α : Type} {l : List α} {n : Int} {x : α} (h : atI l n = some x) : ∃ k, ixN l.length n = some k ∧ l[k]? = some x := by
  unfold atI at h
  cases q : ixN l.length n with
  | none => rw [q] at h; cases h
  | some k => rw [q] at h; exact ⟨k, rfl, h⟩
theorem atI_of {α β : Type} {l : List α} {l' : List β} {n : Int} {k : Nat} {y : β} (h : ixN l.length n = some k) (hl : l'.length = l.length) (hy : l'[k]? = some y) : atI l' n = some y := by
  unfold atI
  rw [hl, h]
  exact hy
theorem vp_ix {a b : Expr} {g h : Pl} {pos : Pos} (ha : VP X T a g) (hb : VP X T b h) (hs : PlainIx b) : VP X T (.Subscript a b pos) (gIx g h) := by
  refine ⟨PE.imp (pe_ix ix_seq ha.pe hb.pe hs) fun σ H Q hh => ?_⟩
  obtain ⟨M, R, ε, o, ok, hf, post⟩ := hh
  unfold gIx at hf
  split at hf
  · rename_i o1 n h1 h2
    refine ⟨M, R, ε, o1, ok, h1, fun v F r1 f1 => ⟨M, R, ε, _, ok, h2, fun w F2 r2 f2 => ?_⟩⟩
    rw [RepO, Rep] at r2
    obtain ⟨_, rfl⟩ := r2
    unfold itemO at hf
    split at hf
    · rename_i l
      obtain ⟨k, e1, e2⟩ := atI_some hf
      rw [RepO] at r1
      obtain ⟨p, vs, F', rfl, hp, rfl, rl⟩ := r1
      obtain ⟨x, Fk, G, g1, g2, g3, _⟩ := rl.at e2
      exact .inl ⟨p, vs, n, x, rfl, rfl, SqL.of hp, atI_of e1 rl.length g1, post x Fk g3 fun a ha => f1 a (List.mem_cons_of_mem _ (g2.mem_iff.mpr (List.mem_append_left _ ha)))⟩
    · rename_i l
      rw [RepO, Rep] at r1
      obtain ⟨_, p, vs, rfl, hp, _, rl⟩ := r1
      cases q : atI l n with
      | none => rw [q] at hf; cases hf
      | some d =>
        rw [q] at hf
        cases hf
        obtain ⟨k, e1, e2⟩ := atI_some q
        obtain ⟨x, g1, g2⟩ := rl.get' e2
        exact .inl ⟨p, vs, n, x, rfl, rfl, SqL.of hp, atI_of e1 rl.length g1, post x [] (by rw [RepO]; exact ⟨rfl, g2⟩) fun a h => by cases h⟩
    · rename_i l
      rw [RepO, Rep] at r1
      obtain ⟨_, p, vs, rfl, hp, rl⟩ := r1
      cases q : atI l n with
      | none => rw [q] at hf; cases hf
      | some d =>
        rw [q] at hf
        cases hf
        obtain ⟨k, e1, e2⟩ := atI_some q
        obtain ⟨x, g1, g2⟩ := rl.get' e2
        exact .inr (.inl ⟨p, vs, n, x, rfl, rfl, hp, atI_of e1 rl.length g1, post x [] (by rw [RepO]; exact ⟨rfl, g2⟩) fun a h => by cases h⟩)
    · cases hf
  · cases hf
/-- a place's datum -/
@[simp] def vP (g : Pl) : VF := fun ε => match g ε with
  | some (.fz d) => some (.o (.fz d), ε)
  | _ => none
theorem ve_p {e : Expr} {g : Pl} (h : VP X T e g) : VE X T e (vP g) := by
  refine ⟨PE.imp h.pe fun σ H Q hh => ?_⟩
  obtain ⟨M, R, ε, r, ε', ok, hf, post⟩ := hh
  unfold vP at hf
  split at hf
  · rename_i d h1
    cases hf
    refine ⟨M, R, ε, _, ok, h1, fun v F r1 _ => ?_⟩
    rw [RepO] at r1
    exact post v H M [] (Post.fz ok .refl r1.2)
  · cases hf
/-- a built-in function of a place -/
@[simp] def vPrP (p : List D → Option O) (g : Pl) : VF := fun ε => match peek (some (g ε)) with
  | some d => match p [d] with
    | some o => some (.o o, ε)
    | none => none
  | none => none
theorem peek_rep {o : O} {d : D} {v : V} (h : peek (some (some o)) = some d) (r : RepO K H A o v F) : Rep0 K H A d v := by
  cases o with
  | fz d' =>
    cases h
    rw [RepO] at r
    exact r.2.rep0
  | own l =>
    rw [peek] at h
    cases q : flatD l with
    | none => rw [q] at h; cases h
    | some ds =>
      rw [q] at h
      cases h
      rw [RepO] at r
      obtain ⟨a, vs, F', e1, h1, _, h2⟩ := r
      exact ⟨a, vs, e1, h1, h2.flat q⟩
theorem ve_callBP {x : Str} {id : String} {p : List D → Option O} {e : Expr} {g : Pl} {pn pos : Pos} (hc : CallR X (.builtin id) (rP X.K T p)) (hg : Gl X x) (hm : X.mg x = none) (hv : bootBuiltins x = some (.builtin id)) (ha : VP X T e g)
    (hn : x ≠ "__name__") (hdb : (x == ("__debug__" : Str)) = false) (he : starEach [e] X.env = (false, eval e X.env) :: starEach [] X.env := by rfl) (hpl : (backTo pos (starEach [] X.env)).any (·.1) = false := by rfl) : VE X T (.Call (.Name x pn) [e] [] pos) (vPrP p g) := by
  refine ⟨PE.imp (pe_callB hc hg hm hv (pa_cons ha.pe pa_nil he) hn hdb he hpl) fun σ H Q h => ?_⟩
  obtain ⟨M, R, ε, r, ε', ok, hf, post⟩ := h
  unfold vPrP at hf
  split at hf
  · rename_i d h1
    split at hf
    · rename_i o h2
      cases hf
      cases q : g ε with
      | none => rw [q] at h1; cases h1
      | some o1 =>
        rw [q] at h1
        exact ⟨M, R, ε, o1, ok, q, fun v F r1 f1 => ⟨M ++ R, [d], o, ok.ls, ok.tab, ⟨v, [], rfl, peek_rep h1 r1, rfl⟩, h2, fun v2 H2 F2 n => post v2 H2 M F2 (n.post ok)⟩⟩
    · cases hf
  · cases hf

/-! ### owned lists changed -/
/-- slot i's list with other items; F: what was held beside, Fr: what is held behind -/
theorem Ok.change {i : Nat} {l : List O} {Fr : List Addr} (k : Ok K T H M (F ++ R) ε σ) (e : ε[i]? = some (some (.own l))) : ∃ a vs F', σ[i]? = some (some (.ref a)) ∧ H a = some (.lst vs) ∧ a ∈ M ∧ RepOs K H (M ++ (F ++ R)) l vs F' ∧ (a :: (F' ++ F)).Nodup ∧ (∀ b ∈ F', b ∈ M) ∧
    ∀ l' vs' G Fr, (G ++ Fr).Nodup → (∀ b ∈ G ++ Fr, b ∈ F' ++ F) → RepOs K (L2.upd H a (.lst vs')) (M ++ (F ++ R)) l' vs' G → ∃ M3, Ok K T (L2.upd H a (.lst vs')) M3 (Fr ++ R) (ε.set i (some (.own l'))) σ ∧ (∀ b ∈ M3, b ∈ M ++ F) ∧ (∀ b ∈ M3, b ∉ Fr) := by
  obtain ⟨v, Fi, M1, h1, h2, h3, h4⟩ := k.take e
  have h3' := h3
  rw [RepO] at h3'
  obtain ⟨a, vs, F', rfl, ha, rfl, rl⟩ := h3'
  have nd4 := (List.nodup_append.mp h4.nd).2.1
  have ndA : (a :: (F' ++ F)).Nodup := by
    have : ((a :: F') ++ (F ++ R)).Nodup := nd4
    rw [← List.append_assoc] at this
    exact (List.nodup_append.mp this).1
  have inM : ∀ b ∈ a :: F', b ∈ M := fun b hb => h2.mem_iff.mpr (List.mem_append_left _ hb)
  refine ⟨a, vs, F', h1, ha, inM a List.mem_cons_self, rl, ndA, fun b hb => inM b (List.mem_cons_of_mem _ hb), fun l' vs' G Fr hn hs hr => ?_⟩
  have k5 : Ok K T (L2.upd H a (.lst vs')) M1 ((a :: F') ++ (F ++ R)) (ε.set i none) σ := h4.upd (List.mem_append_left _ List.mem_cons_self)
  have sub : ∀ b ∈ (a :: G) ++ (Fr ++ R), b ∈ (a :: F') ++ (F ++ R) := fun b hb => by
    rcases List.mem_append.mp hb with z | z
    · rcases List.mem_cons.mp z with rfl | z
      · exact List.mem_append_left _ List.mem_cons_self
      · rcases List.mem_append.mp (hs b (List.mem_append_left _ z)) with z | z
        · exact List.mem_append_left _ (List.mem_cons_of_mem _ z)
        · exact List.mem_append_right _ (List.mem_append_left _ z)
    · rcases List.mem_append.mp z with z | z
      · rcases List.mem_append.mp (hs b (List.mem_append_right _ z)) with z | z
        · exact List.mem_append_left _ (List.mem_cons_of_mem _ z)
        · exact List.mem_append_right _ (List.mem_append_left _ z)
      · exact List.mem_append_right _ (List.mem_append_right _ z)
  have ndR : ((a :: G) ++ (Fr ++ R)).Nodup := by
    have q : (a :: (F' ++ F) ++ R).Nodup := by
      have : ((a :: F') ++ (F ++ R)).Nodup := nd4
      rw [← List.append_assoc] at this
      exact this
    have q1 := List.nodup_append.mp q
    show (a :: (G ++ (Fr ++ R))).Nodup
    rw [← List.append_assoc]
    refine List.nodup_cons.mpr ⟨fun z => ?_, List.nodup_append.mpr ⟨hn, q1.2.1, fun x hx y hy => ?_⟩⟩
    · rcases List.mem_append.mp z with z | z
      · exact (List.nodup_cons.mp ndA).1 (hs a z)
      · exact q1.2.2 a List.mem_cons_self a z rfl
    · exact q1.2.2 x (List.mem_cons_of_mem _ (hs x hx)) y hy
  have k6 : Ok K T (L2.upd H a (.lst vs')) M1 ((a :: G) ++ (Fr ++ R)) (ε.set i none) σ := k5.other sub ndR
  obtain ⟨M3, p3, k7⟩ := k6.put' (o := .own l') (v := .ref a) (by
    rw [RepO]
    refine ⟨a, vs', G, rfl, upd_same, rfl, hr.anti (fun b hb => ?_) _ _ _⟩
    rcases List.mem_append.mp hb with z | z
    · exact List.mem_append_left _ (h2.mem_iff.mpr (List.mem_append_right _ z))
    · rcases List.mem_append.mp (sub b z) with z | z
      · exact List.mem_append_left _ (inM b z)
      · exact List.mem_append_right _ z) h1
  have mem3 : ∀ b ∈ M3, b ∈ a :: G ∨ b ∈ M1 := fun b hb => List.mem_append.mp (p3.mem_iff.mp hb)
  refine ⟨M3, k7, fun b hb => ?_, fun b hb z => k7.apart (List.mem_append_left _ z) hb⟩
  rcases mem3 b hb with z | z
  · rcases List.mem_cons.mp z with rfl | z
    · exact List.mem_append_left _ (inM _ List.mem_cons_self)
    · rcases List.mem_append.mp (hs b (List.mem_append_left _ z)) with z | z
      · exact List.mem_append_left _ (inM b (List.mem_cons_of_mem _ z))
      · exact List.mem_append_right _ z
  · exact List.mem_append_left _ (h2.mem_iff.mpr (List.mem_append_right _ z))
/-- items stay when the list at a (which is none of theirs) changes -/
theorem RepOs.upd {a : Addr} {l : List O} {vs vs' : List V} (h : RepOs K H A l vs F) (hT : Tabs T H) (hl : Lists H [a]) (ha : a ∈ A) (hn : a ∉ F) {ws : List V} : RepOs K (L2.upd H a (.lst ws)) A l vs F :=
  h.mono (T := T) keep_upd hT hl (fun b hb => by
    have e : b = a := by simpa using hb
    rw [e]; exact ha) (fun b hb => .inl hb) _ _ _ fun b hb z => by
    have e : b = a := by simpa using z
    rw [e] at hb
    exact hn hb
theorem RepO.upd {a : Addr} {o : O} {v : V} (h : RepO K H A o v F) (hT : Tabs T H) (hl : Lists H [a]) (ha : a ∈ A) (hn : a ∉ F) {ws : List V} : RepO K (L2.upd H a (.lst ws)) A o v F :=
  h.mono (T := T) keep_upd hT hl (fun b hb => by
    have e : b = a := by simpa using hb
    rw [e]; exact ha) (fun b hb => .inl hb) _ _ _ fun b hb z => by
    have e : b = a := by simpa using z
    rw [e] at hb
    exact hn hb
theorem lists1 {a : Addr} {vs : List V} (h : H a = some (.lst vs)) : Lists H [a] := fun b hb => by
  have e : b = a := by simpa using hb
  rw [e]; exact ⟨vs, h⟩
theorem Stp.upd {a : Addr} {vs ws : List V} (h : a ∈ M) (hl : H a = some (.lst ws)) (hs : ∀ b ∈ M', b ∈ M) : Stp T H M (L2.upd H a (.lst vs)) M' := by
  refine ⟨fun b o e hm _ => ?_, fun b o e => ?_, fun b hb => .inl (hs b hb), fun b ps e => ⟨#[], by rw [upd_ne (ne_of e hl (by intro z; cases z)), e]; simp⟩⟩
  · rw [upd_ne (fun z => hm (by rw [z]; exact h))]
    exact e
  · by_cases eb : b = a
    · rw [eb]; exact ⟨_, upd_same⟩
    · rw [upd_ne eb]; exact ⟨o, e⟩

@[simp] def vApp (i : Nat) (f : VF) : VF := fun ε => match ε[i]? with
  | some (some (.own _)) => match f ε with
    | some (.o o, ε1) => match ε1[i]? with
      | some (some (.own l)) => if room l.length then some (.o (.fz .non), ε1.set i (some (.own (l ++ [o])))) else none
      | _ => none
    | _ => none
  | _ => none
theorem room_lt {n : Nat} (h : room n = true) : n < sizeLine := by
  have h := of_decide_eq_true ((room_eq n).symm.trans h)
  rw [sizeLine_eq]
  omega
theorem ve_app {i : Nat} {x : Str} {o e : Expr} {f : VF} {apos cpos : Pos} (ho : PE X o (tVar i)) (he : PE X (.Call (.Attribute o "append" apos) [e] [] cpos) (tBM X.K "list" rAppend (tVar i) (fun σ H Q => chain X.K T [f] σ H Q))) : VE X T (.Call (.Attribute o "append" apos) [e] [] cpos) (vApp i f) := by
  refine ⟨PE.imp he fun σ H Q h => ?_⟩
  obtain ⟨M, R, ε, r, ε', ok, hf, post⟩ := h
  unfold vApp at hf
  split at hf
  · rename_i l0 e0
    split at hf
    · rename_i o1 ε1 h1
      split at hf
      · rename_i l e1
        split at hf
        · rename_i hr
          cases hf
          obtain ⟨v, F0, g1, g2, g3⟩ := ok.rep.get e0
          rw [RepO] at g2
          obtain ⟨a0, vs0, _, rfl, ha0, _, _⟩ := g2
          refine ⟨_, g1, .inl ⟨rfl, vs0, SqL.of ha0⟩, ?_⟩
          refine ⟨M, R, ε, .o o1, ε1, ok, h1, fun y H1 M1 F1 p1 => ?_⟩
          have p1 : Post _ T H M R ε1 σ o1 y H1 M1 F1 := p1
          obtain ⟨a, vs, F', c1, c2, c3, c4, c5, c6, c7⟩ := Ok.change (Fr := []) p1.ok e1
          rw [g1] at c1
          cases c1
          have nF' : a0 ∉ F' := fun z => (List.nodup_cons.mp c5).1 (List.mem_append_left _ z)
          have nF1 : a0 ∉ F1 := fun z => (List.nodup_cons.mp c5).1 (List.mem_append_right _ z)
          refine ⟨a0, vs, y, rfl, rfl, c2, ?_, ?_⟩
          · rw [c4.length]
            exact room_lt hr
          · have hA : a0 ∈ M1 ++ (F1 ++ R) := List.mem_append_left _ c3
            obtain ⟨M3, k3, s3, _⟩ := c7 (l ++ [o1]) (vs ++ [y]) (F' ++ (F1 ++ [])) [] (by rw [List.append_nil, List.append_nil]; exact (List.nodup_cons.mp c5).2) (fun b hb => by simpa using hb)
              (RepOs.append (c4.upd (vs' := vs) p1.ok.tab (lists1 c2) hA nF') (by
                rw [RepOs]
                exact ⟨y, [], F1, [], rfl, rfl, p1.rep.upd p1.ok.tab (lists1 c2) hA nF1, by rw [RepOs]; exact ⟨rfl, rfl⟩⟩))
            refine post _ _ M3 [] (Post.fz k3 (p1.stp.trans (Stp.upd (List.mem_append_left _ c3) c2 s3)) (by rw [Rep]))
        · cases hf
      · cases hf
    · cases hf
  · cases hf
end
end
end VS


set_option Elab.async false
set_option linter.all false
/-! VS6: defs and their calls. -/
namespace VS
noncomputable section
open PySem PySem.Spec PyProof.Rows L2
section
variable {K : PySem.W.Frag} {T : List TK} {P : List Nat} {H H' H'' : Hp} {M M' M'' R R' F F' A A' : List Addr} {ε ε' : Env'} {σ σ' σ'' : L2.St} {X : Cx}

/-- a def by data: its arguments; its value, and what its parameters' own lists are behind it -/
abbrev Fn := List O → Option (O × List (Option O))
def spF (K : PySem.W.Frag) (T : List TK) (n : Nat) (F : Fn) : Sp := fun vs H Q _ => ∃ R os Fo r fin, Ok K T H Fo R (os.map some) (vs.map some) ∧ vs.length = n ∧ F os = some (r, fin) ∧
  ∀ v H' Ff Fr, Post K T H Fo R fin (vs.map some) r v H' Ff Fr → Q v H'
@[simp] def mkFn (n N : Nat) (P : List Nat) (body : SF) : Fn := fun os => if os.length = n then
    match body (os.map some ++ List.replicate (N - n) none) with
    | some (.rt o, ε) => some (o, wipeE (ε.take n) (notIn P n))
    | some (.nx, ε) => some (.fz .non, wipeE (ε.take n) (notIn P n))
    | _ => none
  else none

theorem RepE.swap : ∀ {ε : Env'} {σ σ' : L2.St} {F : List Addr}, RepE K H A ε σ F → σ'.length = σ.length → (∀ (i : Nat) (o : O), ε[i]? = some (some o) → σ'[i]? = σ[i]?) → RepE K H A ε σ' F
  | [], σ, σ', F, h, hl, _ => by
    rw [RepE] at h ⊢
    obtain ⟨rfl, h⟩ := h
    exact ⟨List.length_eq_zero_iff.mp hl, h⟩
  | none :: ε, _, σ', F, h, hl, he => by
    rw [RepE] at h ⊢
    obtain ⟨x, r, rfl, h⟩ := h
    cases σ' with
    | nil => simp at hl
    | cons y r' => exact ⟨y, r', rfl, RepE.swap h (by simpa using hl) fun i o e => by simpa using he (i + 1) o (by simpa using e)⟩
  | some o :: ε, _, σ', _, h, hl, he => by
    rw [RepE] at h ⊢
    obtain ⟨v, r, F1, F2, rfl, rfl, h1, h2⟩ := h
    cases σ' with
    | nil => simp at hl
    | cons y r' =>
      have e0 := he 0 o rfl
      simp at e0
      subst e0
      exact ⟨v, r', F1, F2, rfl, rfl, h1, RepE.swap h2 (by simpa using hl) fun i o e => by simpa using he (i + 1) o (by simpa using e)⟩
theorem RepE.pad : ∀ {ε : Env'} {σ τ : L2.St} {F : List Addr}, RepE K H A ε σ F → RepE K H A (ε ++ List.replicate τ.length none) (σ ++ τ) F
  | [], σ, τ, F, h => by
    rw [RepE] at h
    obtain ⟨rfl, rfl⟩ := h
    show RepE K H A (List.replicate τ.length none) τ []
    induction τ with
    | nil => rw [List.length_nil, List.replicate_zero, RepE]; exact ⟨rfl, rfl⟩
    | cons x τ ih => rw [List.length_cons, List.replicate_succ, RepE]; exact ⟨x, τ, rfl, ih⟩
  | none :: ε, _, τ, F, h => by
    rw [RepE] at h
    obtain ⟨x, r, rfl, h⟩ := h
    show RepE K H A (none :: (ε ++ _)) (x :: (r ++ τ)) F
    rw [RepE]
    exact ⟨x, _, rfl, RepE.pad h⟩
  | some o :: ε, _, τ, _, h => by
    rw [RepE] at h
    obtain ⟨v, r, F1, F2, rfl, rfl, h1, h2⟩ := h
    show RepE K H A (some o :: (ε ++ _)) (some v :: (r ++ τ)) _
    rw [RepE]
    exact ⟨v, _, F1, F2, rfl, rfl, h1, RepE.pad h2⟩
theorem RepE.first : ∀ {ε : Env'} {σ : L2.St} {F : List Addr} (n : Nat), RepE K H A ε σ F → ∃ G, G.Sublist F ∧ RepE K H A (ε.take n) (σ.take n) G
  | _, _, F, 0, h => ⟨[], List.nil_sublist _, by rw [List.take_zero, List.take_zero, RepE]; exact ⟨rfl, rfl⟩⟩
  | [], _, F, n + 1, h => by
    rw [RepE] at h
    obtain ⟨rfl, rfl⟩ := h
    exact ⟨[], List.nil_sublist _, by rw [List.take_nil, List.take_nil, RepE]; exact ⟨rfl, rfl⟩⟩
  | none :: ε, _, F, n + 1, h => by
    rw [RepE] at h
    obtain ⟨x, r, rfl, h⟩ := h
    obtain ⟨G, h1, h2⟩ := RepE.first n h
    exact ⟨G, h1, by rw [List.take_succ_cons, List.take_succ_cons, RepE]; exact ⟨x, _, rfl, h2⟩⟩
  | some o :: ε, _, _, n + 1, h => by
    rw [RepE] at h
    obtain ⟨v, r, F1, F2, rfl, rfl, h1, h2⟩ := h
    obtain ⟨G, h3, h4⟩ := RepE.first n h2
    exact ⟨F1 ++ G, (List.Sublist.refl _).append h3, by rw [List.take_succ_cons, List.take_succ_cons, RepE]; exact ⟨v, _, F1, G, rfl, rfl, h1, h4⟩⟩
theorem wipeE_get {ε : Env'} {i : Nat} {o : O} : ∀ {vs : List Nat}, (wipeE ε vs)[i]? = some (some o) → i ∉ vs ∧ ε[i]? = some (some o)
  | [], h => ⟨by simp, h⟩
  | v :: vs, h => by
    unfold wipeE at h
    by_cases e : v = i
    · subst e
      by_cases hv : v < (wipeE ε vs).length
      · rw [List.getElem?_set_self hv] at h; cases h
      · rw [List.getElem?_eq_none (by simpa using hv)] at h; cases h
    · rw [List.getElem?_set_ne e] at h
      obtain ⟨h1, h2⟩ := wipeE_get h
      exact ⟨by simp only [List.mem_cons, not_or]; exact ⟨fun z => e z.symm, h1⟩, h2⟩
theorem Ok.setSome (k : Ok K T H M R ε σ) (hl : σ'.length = σ.length) (h : ∀ (i : Nat) (o : O), ε[i]? = some (some o) → σ'[i]? = σ[i]?) : Ok K T H M R ε σ' := ⟨k.rep.swap hl h, k.nd, k.ls, k.tab⟩
/-- behind the body: the parameters -/
theorem Ok.params {n : Nat} {vs : List V} {N : List Str} (k : Ok K T H M R ε σ) (hn : vs.length = n) (hN : n ≤ N.length) (pr : Same' P (L2.start N vs) σ) : ∃ Ff, (∀ a ∈ Ff, a ∈ M) ∧ Ok K T H Ff R (wipeE (ε.take n) (notIn P n)) (vs.map some) := by
  obtain ⟨G, hs, hr⟩ := k.rep.first n
  have sub : ∀ a ∈ G, a ∈ M := fun a ha => hs.mem ha
  have ok1 : Ok K T H G R (ε.take n) (σ.take n) := by
    refine ⟨hr.anti fun a ha => (List.mem_append.mp ha).elim (fun z => List.mem_append_left _ (sub a z)) fun z => List.mem_append_right _ z, ?_, ?_, k.tab⟩
    · exact k.nd.sublist (hs.append (List.Sublist.refl _))
    · exact k.ls.sub fun a ha => (List.mem_append.mp ha).elim (fun z => List.mem_append_left _ (sub a z)) fun z => List.mem_append_right _ z
  obtain ⟨M2, s2, ok2⟩ := ok1.wipe (notIn P n)
  have hst : (L2.start N vs).length = N.length := by
    unfold L2.start
    rw [List.length_append, List.length_map, List.length_replicate]
    omega
  have hl : σ.length = N.length := pr.1.trans hst
  refine ⟨M2, fun a ha => sub a (s2 a ha), ok2.setSome ?_ fun i o e => ?_⟩
  · rw [List.length_map, wipe_length, List.length_take]
    omega
  · obtain ⟨h1, h2⟩ := wipeE_get e
    have hi : i < n := by
      obtain ⟨q, _⟩ := List.getElem?_eq_some_iff.mp h2
      rw [List.length_take] at q
      omega
    have hP : i ∈ P := by
      by_cases z : i ∈ P
      · exact z
      · exact absurd (notIn_mem hi z) h1
    rw [wipe_idem_aux, if_neg h1, List.getElem?_take_of_lt hi, pr.2 i hP]
    unfold L2.start
    rw [List.getElem?_append_left (by rw [List.length_map]; omega)]
theorem Post.params {n : Nat} {vs : List V} {N : List Str} {o : O} {v : V} {H0 : Hp} {M0 : List Addr} (p : Post K T H0 M0 R ε σ o v H M F) (hn : vs.length = n) (hN : n ≤ N.length) (pr : Same' P (L2.start N vs) σ) : ∃ Ff, Post K T H0 M0 R (wipeE (ε.take n) (notIn P n)) (vs.map some) o v H Ff F := by
  obtain ⟨Ff, h1, h2⟩ := p.ok.params hn hN pr
  refine ⟨Ff, h2, p.stp.less fun a ha => ?_, p.rep.anti (fun a ha => ?_) _ _ _⟩
  · exact (List.mem_append.mp ha).elim (fun z => List.mem_append_left _ (h1 a z)) fun z => List.mem_append_right _ z
  · exact (List.mem_append.mp ha).elim (fun z => List.mem_append_left _ (h1 a z)) fun z => List.mem_append_right _ z
/-- a def, by its body -/
theorem fun_okC {Pg : Program} {w : World} {mg : Str → Option Value} {base : Heap} {x qual : Str} {st : Stmt} {f : Addr} {fd : FuncData} {N ps : List Str} {k : Nat} {sp : Sp} (Fu : Fun K x qual st f fd) (S : FnScope N ps (defScope st)) (len : ∀ vs H Q E, sp vs H Q E → vs.length = ps.length)
    (hbody : ∀ (A : Around) (outer : List Env) (s : Shared) (H : Hp) (vs : List V) (Q : L2.VK) (E : XK), Room k (A.deeper (envOfC qual (defScope st) s.heap.objs.size f fd.code)) → sp vs H Q E →
      ∃ t, PSs (cxOf CX0 Pg w K mg base N qual (defScope st) f fd.code A outer s H E).nox (defBody st) t ∧ t { nx := fun _ H' => Q .non H', rt := Q } (start N vs) H) : FnOk Pg w K mg base CX0 (k + 1) f fd ps sp := by
  obtain ⟨oc, od, kV, doc, pm, an, cdv, ct, osl, rfl, lk, hcd⟩ := Fu.ex
  refine fn_of lk hcd S len fun A outer s H vs Q E hr hsp => ?_
  obtain ⟨t, h, q⟩ := hbody A outer s H vs Q E hr hsp
  exact ⟨t, h.nox, q⟩
theorem fnOk_of {Pg : Program} {w : World} {mg : Str → Option Value} {base : Heap} {x qual : Str} {st : Stmt} {f : Addr} {fd : FuncData} {N ps : List Str} {k n : Nat} {body : SF} (Fu : Fun K x qual st f fd) (S : FnScope N ps (defScope st)) (hn : ps.length = n)
    (h : ∀ X : Cx, X.prog = Pg → X.w = w → X.K = K → X.mg = mg → X.base = base → X.N = N → X.env.scope = defScope st → X.calm = true → Room k X.A → (X.xe = fun _ _ => False) → (X.fn = fun _ => true) → X.env.code = fd.code → VSs X T P (defBody st) body) :
    FnOk Pg w K mg base CX0 (k + 1) f fd ps (spF K T n (mkFn n N.length P body)) := by
  have hpl : n ≤ N.length := by
    have := congrArg List.length S.pre
    rw [List.length_take, hn] at this
    omega
  refine fun_okC Fu S (fun vs H Q E h => ?_) (fun A outer s H vs Q E hr hh => ?_)
  · obtain ⟨R, os, Fo, r, fin, ok, hv, _⟩ := h
    rw [hv, hn]
  · obtain ⟨R, os, Fo, r, fin, ok, hv, hF, post⟩ := hh
    refine ⟨_, (h _ rfl rfl rfl rfl rfl rfl rfl rfl hr rfl rfl rfl).ps, ?_⟩
    have hlo : os.length = n := by
      have := ok.len
      rw [List.length_map, List.length_map] at this
      omega
    unfold mkFn at hF
    rw [if_pos hlo] at hF
    have ok0 : Ok K T H Fo R (os.map some ++ List.replicate (N.length - n) none) (L2.start N vs) := by
      have q := ok.rep.pad (τ := List.replicate (N.length - vs.length) none)
      rw [List.length_replicate, hv] at q
      refine ⟨?_, ok.nd, ok.ls, ok.tab⟩
      unfold L2.start
      rw [hv]
      exact q
    split at hF
    · rename_i o ε hb
      cases hF
      refine ⟨Fo, R, _, .rt r, ε, ok0, hb, fun σ' v H' M' F e => ?_⟩
      obtain ⟨Ff, q⟩ := e.post.params hv hpl e.pr
      exact post v H' Ff F q
    · rename_i ε hb
      cases hF
      refine ⟨Fo, R, _, .nx, ε, ok0, hb, fun σ' H' M' e => ?_⟩
      obtain ⟨Ff, q⟩ := Post.params (Post.fz (d := .non) (v := .non) e.ok e.stp (by rw [Rep])) hv hpl e.pr
      exact post _ H' Ff [] q
    · cases hF

/-! ### a call -/
@[simp] def takeArgs : List Ro → Env' → Option (List O × Env')
  | [], ε => some ([], ε)
  | .o o :: rs, ε => match takeArgs rs ε with
    | some (os, ε') => some (o :: os, ε')
    | none => none
  | .b i :: rs, ε => match ε[i]? with
    | some (some o) => match takeArgs rs (ε.set i none) with
      | some (os, ε') => some (o :: os, ε')
      | none => none
    | _ => none
@[simp] def putArgs : List Ro → List (Option O) → Env' → Env'
  | .o _ :: rs, _ :: fin, ε => putArgs rs fin ε
  | .b i :: rs, some o :: fin, ε => putArgs rs fin (ε.set i (some o))
  | .b i :: rs, none :: fin, ε => putArgs rs fin (ε.set i none)
  | _, _, ε => ε
@[simp] def vCall (G : Fn) (fs : List VF) : VF := fun ε => match evs fs ε with
  | some (rs, ε1) => match takeArgs rs ε1 with
    | some (os, ε2) => match G os with
      | some (r, fin) => some (.o r, putArgs rs fin ε2)
      | none => none
    | none => none
  | none => none
theorem sw (a b c : List Addr) : (a ++ (b ++ c)).Perm (b ++ (a ++ c)) := by
  rw [← List.append_assoc, ← List.append_assoc]
  exact List.Perm.append_right _ List.perm_append_comm
theorem takeArgs_ok : ∀ {rs : List Ro} {ε ε' : Env'} {os : List O} {vs : List V} {M F G : List Addr}, Ok K T H M (F ++ (G ++ R)) ε σ → Held K H A σ rs vs F → (∀ a ∈ M ++ (F ++ (G ++ R)), a ∈ A) → takeArgs rs ε = some (os, ε') →
    ∃ Fo M', RepOs K H (M ++ (F ++ (G ++ R))) os vs Fo ∧ Ok K T H M' (Fo ++ (G ++ R)) ε' σ ∧ (M' ++ Fo).Perm (M ++ F)
  | [], ε, ε', os, vs, M, F, G, ok, h, hA, e => by
    cases e
    obtain ⟨rfl, rfl⟩ := h
    exact ⟨[], M, by rw [RepOs]; exact ⟨rfl, rfl⟩, ok, .refl _⟩
  | .o o :: rs, ε, ε', os, vs, M, F, G, ok, hh, hA, e => by
    obtain ⟨v, r, F1, F2, rfl, rfl, h1, h2⟩ := hh
    rw [takeArgs] at e
    split at e
    · rename_i os' ε2 e2
      cases e
      have pm : (F2 ++ ((F1 ++ G) ++ R)).Perm ((F1 ++ F2) ++ (G ++ R)) := by
        simp only [List.append_assoc]
        exact sw _ _ _
      have ok2 : Ok K T H M (F2 ++ ((F1 ++ G) ++ R)) ε σ := ok.other (fun a ha => pm.mem_iff.mp ha) (pm.nodup_iff.mpr (List.nodup_append.mp ok.nd).2.1)
      obtain ⟨Fo, M', g1, g2, g3⟩ := takeArgs_ok ok2 h2 (fun a ha => hA a ((List.Perm.append_left M pm).mem_iff.mp ha)) e2
      have pm2 : (Fo ++ ((F1 ++ G) ++ R)).Perm ((F1 ++ Fo) ++ (G ++ R)) := by
        simp only [List.append_assoc]
        exact sw _ _ _
      refine ⟨F1 ++ Fo, M', ?_, g2.other (fun a ha => pm2.mem_iff.mpr ha) (pm2.nodup_iff.mp (List.nodup_append.mp g2.nd).2.1), ?_⟩
      · rw [RepOs]
        exact ⟨v, r, F1, Fo, rfl, rfl, h1.anti hA _ _ _, g1.anti (fun a ha => (List.Perm.append_left M pm).mem_iff.mpr ha) _ _ _⟩
      · have q : (M' ++ (F1 ++ Fo)).Perm (F1 ++ (M' ++ Fo)) := by
          rw [← List.append_assoc, ← List.append_assoc]
          exact List.Perm.append_right _ List.perm_append_comm
        refine q.trans ((List.Perm.append_left F1 g3).trans ?_)
        rw [← List.append_assoc, ← List.append_assoc]
        exact List.Perm.append_right _ List.perm_append_comm
    · cases e
  | .b i :: rs, ε, ε', os, vs, M, F, G, ok, hh, hA, e => by
    obtain ⟨v, r, rfl, hi, h2⟩ := hh
    rw [takeArgs] at e
    split at e
    · rename_i o ho
      split at e
      · rename_i os' ε2 e2
        cases e
        obtain ⟨v', Fi, M1, c1, c2, c3, c4⟩ := ok.take ho
        rw [hi] at c1
        cases c1
        have pm : (F ++ ((Fi ++ G) ++ R)).Perm (Fi ++ (F ++ (G ++ R))) := by
          simp only [List.append_assoc]
          exact sw _ _ _
        have ok2 : Ok K T H M1 (F ++ ((Fi ++ G) ++ R)) (ε.set i none) σ := c4.other (fun a ha => pm.mem_iff.mp ha) (pm.nodup_iff.mpr (List.nodup_append.mp c4.nd).2.1)
        have pm0 : (M1 ++ (F ++ ((Fi ++ G) ++ R))).Perm (M ++ (F ++ (G ++ R))) := by
          refine (List.Perm.append_left M1 pm).trans ?_
          rw [← List.append_assoc]
          exact List.Perm.append_right _ (List.perm_append_comm.trans c2.symm)
        obtain ⟨Fo, M', g1, g2, g3⟩ := takeArgs_ok ok2 h2 (fun a ha => hA a (pm0.mem_iff.mp ha)) e2
        have pm2 : (Fo ++ ((Fi ++ G) ++ R)).Perm ((Fi ++ Fo) ++ (G ++ R)) := by
          simp only [List.append_assoc]
          exact sw _ _ _
        refine ⟨Fi ++ Fo, M', ?_, g2.other (fun a ha => pm2.mem_iff.mpr ha) (pm2.nodup_iff.mp (List.nodup_append.mp g2.nd).2.1), ?_⟩
        · rw [RepOs]
          exact ⟨v, r, Fi, Fo, rfl, rfl, c3, g1.anti (fun a ha => pm0.mem_iff.mpr ha) _ _ _⟩
        · have q : (M' ++ (Fi ++ Fo)).Perm (Fi ++ (M' ++ Fo)) := by
            rw [← List.append_assoc, ← List.append_assoc]
            exact List.Perm.append_right _ List.perm_append_comm
          refine q.trans ((List.Perm.append_left Fi g3).trans ?_)
          rw [← List.append_assoc]
          exact List.Perm.append_right _ c2.symm
      · cases e
    · cases e
theorem RepOs.slots : ∀ {os : List O} {vs : List V} {F : List Addr}, RepOs K H A os vs F → RepE K H A (os.map some) (vs.map some) F
  | [], vs, F, h => by
    rw [RepOs] at h
    obtain ⟨rfl, rfl⟩ := h
    rw [List.map_nil, List.map_nil, RepE]
    exact ⟨rfl, rfl⟩
  | o :: os, _, _, h => by
    rw [RepOs] at h
    obtain ⟨v, r, F1, F2, rfl, rfl, h1, h2⟩ := h
    rw [List.map_cons, List.map_cons, RepE]
    exact ⟨v, _, F1, F2, rfl, rfl, h1, RepOs.slots h2⟩
theorem putArgs_ok : ∀ {rs : List Ro} {fin : List (Option O)} {vs : List V} {ε : Env'} {M Ff F0 : List Addr}, Ok K T H M (Ff ++ R) ε σ → Held K H' A' σ rs vs F0 → RepE K H A fin (vs.map some) Ff → (∀ a ∈ M ++ (Ff ++ R), a ∈ A) → ∃ M3, Ok K T H M3 R (putArgs rs fin ε) σ ∧ ∀ a ∈ M3, a ∈ M ++ Ff
  | [], fin, vs, ε, M, Ff, F0, ok, h, hf, hA => by
    obtain ⟨rfl, _⟩ := h
    rw [putArgs]
    · exact ⟨M, ok.drop, fun a h => List.mem_append_left _ h⟩
    all_goals (intros; simp_all)
  | .o o :: rs, [], vs, ε, M, Ff, F0, ok, hh, hf, hA => by
    obtain ⟨v, r, F1, F2, rfl, rfl, h1, h2⟩ := hh
    rw [RepE] at hf
    exact absurd hf.1 (by simp)
  | .b i :: rs, [], vs, ε, M, Ff, F0, ok, hh, hf, hA => by
    obtain ⟨v, r, rfl, h1, h2⟩ := hh
    rw [RepE] at hf
    exact absurd hf.1 (by simp)
  | .o o :: rs, none :: fin, vs, ε, M, Ff, F0, ok, hh, hf, hA => by
    obtain ⟨v, r, F1, F2, rfl, rfl, h1, h2⟩ := hh
    rw [List.map_cons, RepE] at hf
    obtain ⟨x, r', e, hf⟩ := hf
    cases e
    rw [putArgs]
    exact putArgs_ok ok h2 hf hA
  | .o o :: rs, some p :: fin, vs, ε, M, _, F0, ok, hh, hf, hA => by
    obtain ⟨v, r, F1, F2, rfl, rfl, h1, h2⟩ := hh
    rw [List.map_cons, RepE] at hf
    obtain ⟨v', r', G1, G2, e, rfl, hp, hf⟩ := hf
    cases e
    rw [putArgs]
    have ok2 : Ok K T H M (G2 ++ R) ε σ := Ok.drop (F := G1) (by rw [List.append_assoc] at ok; exact ok)
    obtain ⟨M3, g1, g2⟩ := putArgs_ok ok2 h2 hf fun a ha => hA a (by
      rcases List.mem_append.mp ha with z | z
      · exact List.mem_append_left _ z
      · rw [List.append_assoc]
        exact List.mem_append_right _ (List.mem_append_right _ z))
    exact ⟨M3, g1, fun a ha => (List.mem_append.mp (g2 a ha)).elim (fun z => List.mem_append_left _ z) fun z => List.mem_append_right _ (List.mem_append_right _ z)⟩
  | .b i :: rs, none :: fin, vs, ε, M, Ff, F0, ok, hh, hf, hA => by
    obtain ⟨v, r, rfl, hi, h2⟩ := hh
    rw [List.map_cons, RepE] at hf
    obtain ⟨x, r', e, hf⟩ := hf
    cases e
    rw [putArgs]
    obtain ⟨M1, s1, ok1⟩ := ok.setNone i
    obtain ⟨M3, g1, g2⟩ := putArgs_ok ok1 h2 hf fun a ha => hA a ((List.mem_append.mp ha).elim (fun z => List.mem_append_left _ (s1 a z)) fun z => List.mem_append_right _ z)
    exact ⟨M3, g1, fun a ha => (List.mem_append.mp (g2 a ha)).elim (fun z => List.mem_append_left _ (s1 a z)) fun z => List.mem_append_right _ z⟩
  | .b i :: rs, some p :: fin, vs, ε, M, _, F0, ok, hh, hf, hA => by
    obtain ⟨v, r, rfl, hi, h2⟩ := hh
    rw [List.map_cons, RepE] at hf
    obtain ⟨v', r', G1, G2, e, rfl, hp, hf⟩ := hf
    cases e
    rw [putArgs]
    obtain ⟨M1, s1, ok1⟩ := ok.setNone i
    have ok2 : Ok K T H M1 (G1 ++ (G2 ++ R)) (ε.set i none) σ := by
      rw [List.append_assoc] at ok1
      exact ok1
    obtain ⟨M2, p2, ok3⟩ := ok2.put' (o := p) (v := v) (hp.anti (fun a ha => hA a (by
      rcases List.mem_append.mp ha with z | z
      · exact List.mem_append_left _ (s1 a z)
      · rw [List.append_assoc]
        exact List.mem_append_right _ z)) _ _ _) hi
    have m2 : ∀ a ∈ M2, a ∈ M ++ (G1 ++ G2) := fun a ha => by
      rcases List.mem_append.mp (p2.mem_iff.mp ha) with z | z
      · exact List.mem_append_right _ (List.mem_append_left _ z)
      · exact List.mem_append_left _ (s1 a z)
    obtain ⟨M3, g1, g2⟩ := putArgs_ok ok3 h2 hf fun a ha => hA a (by
      rcases List.mem_append.mp ha with z | z
      · rcases List.mem_append.mp (m2 a z) with z | z
        · exact List.mem_append_left _ z
        · exact List.mem_append_right _ (List.mem_append_left _ z)
      · rw [List.append_assoc]
        exact List.mem_append_right _ (List.mem_append_right _ z))
    refine ⟨M3, g1, fun a ha => ?_⟩
    rcases List.mem_append.mp (g2 a ha) with z | z
    · exact m2 a z
    · exact List.mem_append_right _ (List.mem_append_right _ z)

/-- the call, behind its arguments -/
theorem call_of {G : Fn} {n : Nat} {fs : List VF} {H : Hp} {Q : VK} {E : XK} (hl : fs.length = n) (h : tV K T (vCall G fs) σ H Q) : chain K T fs σ H fun vs H1 => spF K T n G vs H1 Q E := by
  obtain ⟨M, R, ε, r, ε', ok, hf, post⟩ := h
  unfold vCall at hf
  split at hf
  · rename_i rs ε1 h1
    split at hf
    · rename_i os ε2 h2
      split at hf
      · rename_i rr fin h3
        cases hf
        refine chain_of ok h1 fun vs H1 M1 F1 p => ?_
        have hA : ∀ a ∈ M1 ++ (F1 ++ ([] ++ R)), a ∈ M1 ++ (F1 ++ R) := fun a h => h
        obtain ⟨Fo, M2, g1, g2, g3⟩ := takeArgs_ok (G := []) p.ok p.rep hA h2
        have g2 : Ok K T H1 M2 (Fo ++ R) ε2 σ := g2
        have pm : (Fo ++ (M2 ++ R)).Perm (M2 ++ (Fo ++ R)) := by
          rw [← List.append_assoc, ← List.append_assoc]
          exact List.Perm.append_right _ List.perm_append_comm
        have pmA : (Fo ++ (M2 ++ R)).Perm (M1 ++ (F1 ++ R)) := by
          refine pm.trans ?_
          rw [← List.append_assoc, ← List.append_assoc]
          exact List.Perm.append_right _ g3
        have okc : Ok K T H1 Fo (M2 ++ R) (os.map some) (vs.map some) := ⟨(g1.anti (fun a ha => pmA.mem_iff.mp ha) _ _ _).slots, pm.nodup_iff.mpr g2.nd, g2.ls.sub fun a ha => pm.mem_iff.mp ha, g2.tab⟩
        have hlen : vs.length = n := by
          rw [← hl]
          have e1 : rs.length = fs.length := by
            clear post p okc pmA pm g1 g2 g3 hA h2 h3 ok hl
            induction fs generalizing ε rs ε1 with
            | nil => cases h1; rfl
            | cons f fs ih =>
              rw [evs] at h1
              split at h1
              · split at h1
                · rename_i rs' ε3 h5
                  cases h1
                  rw [List.length_cons, List.length_cons, ih _ _ _ h5]
                · cases h1
              · cases h1
          rw [← e1]
          have e2 : ∀ {rs : List Ro} {vs : List V} {F : List Addr} {A : List Addr}, Held K H1 A σ rs vs F → vs.length = rs.length := by
            intro rs
            induction rs with
            | nil => intro vs F A h; rw [h.1]; rfl
            | cons r rs ih =>
              intro vs F A h
              cases r with
              | o o =>
                obtain ⟨v, r, F1, F2, rfl, _, _, h⟩ := h
                rw [List.length_cons, List.length_cons, ih h]
              | b i =>
                obtain ⟨v, r, rfl, _, h⟩ := h
                rw [List.length_cons, List.length_cons, ih h]
          exact e2 p.rep
        refine ⟨M2 ++ R, os, Fo, rr, fin, okc, hlen, h3, fun v H2 Ff Fr q => ?_⟩
        -- back at the caller
        have sA : Stp T H M H1 (M2 ++ Fo) := p.stp.less fun a ha => g3.mem_iff.mp ha
        have ok3 : Ok K T H2 M2 (Ff ++ (Fr ++ R)) ε2 σ := by
          have pq : (M2 ++ (Ff ++ (Fr ++ R))).Perm (Ff ++ (Fr ++ (M2 ++ R))) := by
            have sw : ∀ a b c : List Addr, (a ++ (b ++ c)).Perm (b ++ (a ++ c)) := fun a b c => by
              rw [← List.append_assoc, ← List.append_assoc]
              exact List.Perm.append_right _ List.perm_append_comm
            exact (sw M2 Ff (Fr ++ R)).trans (List.Perm.append_left Ff (sw M2 Fr R))
          refine ⟨?_, pq.nodup_iff.mpr q.ok.nd, q.ok.ls.sub fun a ha => pq.mem_iff.mp ha, q.ok.tab⟩
          refine g2.rep.mono q.stp.keep g2.tab okc.ls1 (fun a ha => List.mem_append_right _ (List.mem_append_left _ ha)) (fun a ha => ?_) fun a ha z => g2.apart (List.mem_append_left _ z) ha
          rcases List.mem_append.mp (pq.mem_iff.mp ha) with z | z
          · rcases q.stp.sub a (List.mem_append_left _ z) with z | z
            · exact .inl (List.mem_append_right _ (List.mem_append_left _ z))
            · exact .inr z
          · rcases List.mem_append.mp z with z | z
            · rcases q.stp.sub a (List.mem_append_right _ z) with z | z
              · exact .inl (List.mem_append_right _ (List.mem_append_left _ z))
              · exact .inr z
            · exact .inl (pm.mem_iff.mp (List.mem_append_right _ z))
        have hAA : ∀ a ∈ M2 ++ (Ff ++ (Fr ++ R)), a ∈ Ff ++ (Fr ++ (M2 ++ R)) := fun a ha => by
          simp only [List.mem_append] at ha ⊢
          rcases ha with z | z | z | z <;> simp [z]
        obtain ⟨M3, k3, s3⟩ := putArgs_ok (fin := fin) ok3 p.rep q.ok.rep hAA
        refine post v H2 M3 Fr ⟨k3, ⟨fun b o e hm ht => ?_, fun b o e => ?_, fun a ha => ?_, grow2 p.stp.grow q.stp.grow⟩, q.rep.anti (fun a ha => ?_) _ _ _⟩
        · refine q.stp.keep b o (p.stp.keep b o e hm ht) (fun z => ?_) ht
          rcases sA.sub b (List.mem_append_right _ z) with z | z
          · exact hm z
          · rw [e] at z; cases z
        · obtain ⟨o', e'⟩ := p.stp.live b o e
          exact q.stp.live b o' e'
        · have go : a ∈ Ff ++ Fr → a ∈ M ∨ H a = none := fun z => (q.stp.sub a z).elim (fun z => sA.sub a (List.mem_append_right _ z)) fun z => .inr (p.stp.back z)
          rcases List.mem_append.mp ha with z | z
          · rcases List.mem_append.mp (s3 a z) with z | z
            · exact sA.sub a (List.mem_append_left _ z)
            · exact go (List.mem_append_left _ z)
          · exact go (List.mem_append_right _ z)
        · rcases List.mem_append.mp ha with z | z
          · rcases List.mem_append.mp (s3 a z) with z | z
            · exact List.mem_append_right _ (List.mem_append_right _ (List.mem_append_left _ z))
            · exact List.mem_append_left _ z
          · rcases List.mem_append.mp z with z | z
            · exact List.mem_append_right _ (List.mem_append_left _ z)
            · exact List.mem_append_right _ (List.mem_append_right _ (List.mem_append_right _ z))
      · cases hf
    · cases hf
  · cases hf
theorem chain_mono : ∀ {fs : List VF} {H : Hp} {k k' : List V → Hp → Prop}, chain K T fs σ H k → (∀ vs H, k vs H → k' vs H) → chain K T fs σ H k'
  | [], H, k, k', h, i => i _ _ h
  | f :: fs, H, k, k', ⟨M, R, ε, r, ε', ok, hf, post⟩, i => ⟨M, R, ε, r, ε', ok, hf, fun v H' M' F p => chain_mono (post v H' M' F p) fun vs H2 h => i _ _ h⟩
theorem ve_call {x : Str} {f : Addr} {fd : FuncData} {ps : List Str} {n k : Nat} {G : Fn} {e : Expr} {es : List Expr} {fs : List VF} {p pos : Pos} (Fk : FnOk X.prog X.w X.K X.mg X.base CX0 k f fd ps (spF X.K T n G)) (hr : Room k X.A) (hg : Gl X x) (hm : X.mg x = some (.ref f)) (hk : PySem.W.keepIn X.K (.ref f) = true) (hb : Binds X.K fd ps [])
    (ha : VA X T (e :: es) fs) (hl : fs.length = n) (hdb : (x == ("__debug__" : Str)) = false) (he : starEach (e :: es) X.env = (false, eval e X.env) :: starEach es X.env := by rfl) (hpl : (backTo pos (starEach es X.env)).any (·.1) = false := by rfl) : VE X T (.Call (.Name x p) (e :: es) [] pos) (vCall G fs) := by
  refine ⟨PE.imp (pe_call Fk hr hg hm hk hb .nil pass0 ha.pa hdb he hpl) fun σ H Q h => ?_⟩
  refine chain_mono (call_of (E := E0) hl h) fun vs H1 q => ?_
  rw [List.append_nil]
  exact q
end
end
end VS


set_option Elab.async false
set_option linter.all false
/-! VS7: operators and built-in functions by data. -/
namespace VS
noncomputable section
open PySem PySem.Spec PyProof.Rows L2
section
variable {K : PySem.W.Frag} {T : List TK} {P : List Nat} {H H' H'' : Hp} {M M' M'' R R' F F' A A' : List Addr} {ε ε' : Env'} {σ σ' σ'' : L2.St} {X : Cx}

theorem vt_cmp {a b : Expr} {op : CmpOp} {p : D → D → Option O} {f g : VF} {pos : Pos} (ho : OpR X (compareOp op) (rP2 X.K T p)) (hm : behindInMarks op b = false) (ha : VE X T a f) (hb : VE X T b g) : VT X T (.Compare a [op] [b] pos) (tVal (vBin p f g)) := by
  refine ⟨PT.imp (pt_cmpR ho ha.pe hb.pe hm) fun σ H Q h => ?_⟩
  obtain ⟨M, R, ε, b, ε', ok, hf, post⟩ := h
  unfold tVal at hf
  split at hf
  · rename_i b' ε1 h1
    cases hf
    refine tOp_of ⟨M, R, ε, _, _, ok, h1, fun v H' M' F p => ?_⟩
    obtain ⟨rfl, rfl, ok', st⟩ := Post.bool p
    exact ⟨b, rfl, post H' M' ok' st⟩
  · cases hf

/-! ### two ints -/
@[simp] def pI (c : Int → Int → Bool) (g : Int → Int → D) : D → D → Option O
  | .int i, .int j => if c i j then some (.fz (g i j)) else none
  | _, _ => none
theorem rI_of {c : Int → Int → Bool} {g : Int → Int → D} {C : Int → Int → Prop} {gv : Int → Int → V} (hC : ∀ i j, c i j = true → C i j) (hg : ∀ i j K H A, Rep K H A (g i j) (gv i j)) {x y : V} {Q : VK} (h : rP2 K T (pI c g) x y H Q) : rI C gv x y H Q := by
  obtain ⟨A, d, e, o, lA, tA, hx, hy, hp, post⟩ := h
  unfold pI at hp
  split at hp
  · rename_i i j
    split at hp
    · rename_i hc
      cases hp
      exact ⟨i, j, hx, hy, hC i j hc, post _ H [] (New.fz (hg _ _ _ _ _))⟩
    · cases hp
  · cases hp
theorem opI_of {f : Value → Value → Sem Value} {c : Int → Int → Bool} {g : Int → Int → D} {C : Int → Int → Prop} {gv : Int → Int → V} (h : OpR X f (rI C gv)) (hC : ∀ i j, c i j = true → C i j) (hg : ∀ i j K H A, Rep K H A (g i j) (gv i j)) : OpR X f (rP2 X.K T (pI c g)) :=
  OpR.imp h fun _ _ _ _ q => rI_of hC hg q
theorem opI0_of {f : Value → Value → Sem Value} {g : Int → Int → D} {gv : Int → Int → V} (h : OpR X f (rI0 gv)) (hg : ∀ i j K H A, Rep K H A (g i j) (gv i j)) : OpR X f (rP2 X.K T (pI (fun _ _ => true) g)) :=
  OpR.imp h fun _ _ _ _ q => by
    obtain ⟨i, j, e1, e2, _, q⟩ := rI_of (C := fun _ _ => True) (fun _ _ _ => trivial) hg q
    exact ⟨i, j, e1, e2, q⟩
@[simp] def pSub : D → D → Option O := pI (fun _ _ => true) fun i j => .int (i - j)
def s64 : Int → Bool := shut fun i => decide (-(2 ^ 64) < i) && decide (i < 2 ^ 64)
theorem s64_eq (i : Int) : s64 i = (decide (-(2 ^ 64) < i) && decide (i < 2 ^ 64)) := shut_eq _ i
def logOk : Int → Bool := shut fun j => decide (j.natAbs.log2 < 9000)
theorem logOk_eq (j : Int) : logOk j = decide (j.natAbs.log2 < 9000) := shut_eq _ j
def powOk : Int × Int → Bool := shut fun p => decide (0 ≤ p.2) && decide (p.2 ≤ 1000000) && decide (p.1.natAbs < 2 ^ 64)
theorem powOk_eq (i j : Int) : powOk (i, j) = (decide (0 ≤ j) && decide (j ≤ 1000000) && decide (i.natAbs < 2 ^ 64)) := shut_eq _ _
@[simp] def pMul : D → D → Option O := pI (fun i j => s64 i || s64 j) fun i j => .int (i * j)
@[simp] def pDiv : D → D → Option O := pI (fun _ j => decide (0 < j) && logOk j) fun i j => .int (i / j)
@[simp] def pMod : D → D → Option O := pI (fun _ j => decide (0 < j)) fun i j => .int (i % j)
@[simp] def pPow : D → D → Option O := pI (fun i j => powOk (i, j)) fun i j => .int (i ^ j.toNat)
@[simp] def pLt : D → D → Option O := pI (fun _ _ => true) fun i j => .bl (decide (i < j))
@[simp] def pLe : D → D → Option O := pI (fun _ _ => true) fun i j => .bl (decide (i ≤ j))
@[simp] def pGt : D → D → Option O := pI (fun _ _ => true) fun i j => .bl (decide (j < i))
@[simp] def pGe : D → D → Option O := pI (fun _ _ => true) fun i j => .bl (decide (j ≤ i))
theorem s64_iff {i : Int} (h : s64 i = true) : -(2 ^ 64) < i ∧ i < 2 ^ 64 := by
  rw [s64_eq] at h
  rw [Bool.and_eq_true] at h
  exact ⟨of_decide_eq_true h.1, of_decide_eq_true h.2⟩
theorem od_sub : OpR X (binaryOp .Sub) (rP2 X.K T pSub) := opI0_of op_sub fun _ _ _ _ _ => by rw [Rep]
theorem od_mul : OpR X (binaryOp .Mult) (rP2 X.K T pMul) := opI_of op_mul (fun i j h => by
  rw [Bool.or_eq_true] at h
  exact h.elim (fun z => .inl (s64_iff z)) fun z => .inr (s64_iff z)) fun _ _ _ _ _ => by rw [Rep]
theorem od_div : OpR X (binaryOp .FloorDiv) (rP2 X.K T pDiv) := opI_of op_fdivW (fun i j h => by
  rw [Bool.and_eq_true, logOk_eq] at h
  exact ⟨of_decide_eq_true h.1, of_decide_eq_true h.2⟩) fun _ _ _ _ _ => by rw [Rep]
theorem od_mod : OpR X (binaryOp .Mod) (rP2 X.K T pMod) := opI_of op_mod (fun i j h => of_decide_eq_true h) fun _ _ _ _ _ => by rw [Rep]
theorem od_pow : OpR X (binaryOp .Pow) (rP2 X.K T pPow) := opI_of op_pow (fun i j h => by
  rw [powOk_eq, Bool.and_eq_true, Bool.and_eq_true] at h
  exact ⟨of_decide_eq_true h.1.1, of_decide_eq_true h.1.2, of_decide_eq_true h.2⟩) fun _ _ _ _ _ => by rw [Rep]
theorem od_lt : OpR X (compareOp .Lt) (rP2 X.K T pLt) := opI0_of op_lt fun _ _ _ _ _ => by rw [Rep]
theorem od_le : OpR X (compareOp .LtE) (rP2 X.K T pLe) := opI0_of op_le fun _ _ _ _ _ => by rw [Rep]
theorem od_gt : OpR X (compareOp .Gt) (rP2 X.K T pGt) := opI0_of op_gt fun _ _ _ _ _ => by rw [Rep]
theorem od_ge : OpR X (compareOp .GtE) (rP2 X.K T pGe) := opI0_of op_ge fun _ _ _ _ _ => by rw [Rep]
@[simp] def pNeg : D → Option O
  | .int i => some (.fz (.int (-i)))
  | _ => none
theorem ud_neg : UnR X (unaryOp .USub) (rP1 X.K T pNeg) := UnR.imp un_neg fun x H Q h => by
  obtain ⟨A, d, o, lA, tA, hx, hp, post⟩ := h
  unfold pNeg at hp
  split at hp
  · cases hp
    exact ⟨_, hx, post _ H [] (New.fz (by rw [Rep]))⟩
  · cases hp

/-! ### + -/
@[simp] def pAdd : D → D → Option O
  | .int i, .int j => some (.fz (.int (i + j)))
  | .tup l, .tup m => if room (l.length + m.length) then some (.fz (.tup (l ++ m))) else none
  | .lst l, .lst m => if room (l.length + m.length) then some (.own ((l ++ m).map O.fz)) else none
  | .str x, .str y => if room (x.length + y.length) then some (.fz (.str (x ++ y))) else none
  | _, _ => none
theorem od_add : OpR X (binaryOp .Add) (rP2 X.K T pAdd) := OpR.imp (op_add.or (op_catA.or (op_cat.or op_add_str))) fun x y H Q h => by
  obtain ⟨A, d, e, o, lA, tA, hx, hy, hp, post⟩ := h
  unfold pAdd at hp
  split at hp
  · cases hp
    exact .inl ⟨_, _, hx, hy, post _ H [] (New.fz (by rw [Rep]))⟩
  · rename_i l m
    split at hp
    · rename_i hr
      cases hp
      have hx : Rep X.K H A (.tup l) x := hx
      have hy : Rep X.K H A (.tup m) y := hy
      have hx' := hx
      have hy' := hy
      rw [Rep] at hx hy
      obtain ⟨a, vs, rfl, h1, h2⟩ := hx
      obtain ⟨b, ws, rfl, h3, h4⟩ := hy
      refine .inr (.inl ⟨a, b, vs, ws, rfl, rfl, h1, h3, ?_, fun e => ?_, fun _ e => ?_, fun _ _ p hp => ?_⟩)
      · rw [h2.length, h4.length]; exact room_line hr
      · have hl := h2.length
        rw [e] at hl
        have e2 : l = [] := List.length_eq_zero_iff.mp hl.symm
        subst e2
        exact post _ H [] (New.fz hy')
      · have hl := h4.length
        rw [e] at hl
        have e2 : m = [] := List.length_eq_zero_iff.mp hl.symm
        subst e2
        rw [List.append_nil] at post
        exact post _ H [] (New.fz hx')
      · exact post _ _ [] (New.tup (h2.append h4) lA tA hp)
    · cases hp
  · rename_i l m
    split at hp
    · rename_i hr
      cases hp
      obtain ⟨a, vs, rfl, h1, h2⟩ := hx
      obtain ⟨b, ws, rfl, h3, h4⟩ := hy
      refine .inr (.inr (.inl ⟨a, b, vs, ws, rfl, rfl, h1, h3, ?_, fun p hp => ?_⟩))
      · rw [h2.length, h4.length]; exact room_line hr
      · exact post _ _ [p] (New.lst (h2.append h4) lA tA hp)
    · cases hp
  · rename_i a b
    split at hp
    · rename_i hr
      cases hp
      exact .inr (.inr (.inr ⟨_, _, hx, hy, room_line hr, post _ H [] (New.fz (by rw [Rep]))⟩))
    · cases hp
  · cases hp

/-! ### == -/
mutual
def D.toP : D → PyData
  | .non => .none
  | .bl b => .bool b
  | .int i => .int i
  | .str s => .str s
  | .tup l => .tuple (D.toPs l)
  | .lst l => .list (D.toPs l)
  | .scr ns => .list (ns.map PyData.int)
def D.toPs : List D → List PyData
  | [] => []
  | d :: l => d.toP :: D.toPs l
end
theorem Rep.dp : ∀ (d : D) (v : V), Rep K H A d v → Dp K H v d.toP := by
  have lists : ∀ (l : List D), (∀ d ∈ l, ∀ v, Rep K H A d v → Dp K H v d.toP) → ∀ vs, Reps K H A l vs → DpAll K H vs (D.toPs l) := by
    intro l
    induction l with
    | nil => intro _ vs h; rw [Reps] at h; subst h; rw [D.toPs]; exact .nil
    | cons d l ih =>
      intro hl vs h
      rw [Reps] at h
      obtain ⟨v, r, rfl, h1, h2⟩ := h
      rw [D.toPs]
      exact .cons (hl d List.mem_cons_self v h1) (ih (fun d hd => hl d (List.mem_cons_of_mem _ hd)) r h2)
  intro d
  induction d using D.ind with
  | h0 => intro v h; rw [Rep] at h; subst h; exact .non
  | h1 b => intro v h; rw [Rep] at h; subst h; exact .bl b
  | h2 i => intro v h; rw [Rep] at h; subst h; exact .int i
  | h3 s => intro v h; rw [Rep] at h; subst h; exact .str s
  | h4 ds ih =>
    intro v h
    rw [Rep] at h
    obtain ⟨a, vs, rfl, h1, h2⟩ := h
    rw [D.toP]
    exact .tup h1 (lists ds ih vs h2)
  | h5 ds ih =>
    intro v h
    rw [Rep] at h
    obtain ⟨a, vs, rfl, h1, _, h2⟩ := h
    rw [D.toP]
    exact .lst (SqL.of h1) (lists ds ih vs h2)
  | h6 ns =>
    intro v h
    rw [Rep] at h
    obtain ⟨a, rfl, h1⟩ := h
    rw [D.toP]
    refine .lst h1.sq ?_
    clear h1
    induction ns with
    | nil => exact .nil
    | cons n ns ih => exact .cons (.int n) ih
theorem Reps.dp : ∀ {l : List D} {vs : List V}, Reps K H A l vs → DpAll K H vs (D.toPs l)
  | [], _, h => by rw [Reps] at h; subst h; rw [D.toPs]; exact .nil
  | d :: l, _, h => by
    rw [Reps] at h
    obtain ⟨v, r, rfl, h1, h2⟩ := h
    rw [D.toPs]
    exact .cons (h1.dp) (Reps.dp h2)
theorem Rep0.dp : ∀ {d : D} {v : V}, Rep0 K H A d v → Dp K H v d.toP
  | .lst l, v, h => by
    obtain ⟨a, vs, rfl, h1, h2⟩ := h
    rw [D.toP]
    exact .lst (SqL.of h1) h2.dp
  | .non, _, h => Rep.dp (A := A) _ _ h
  | .bl _, _, h => Rep.dp (A := A) _ _ h
  | .int _, _, h => Rep.dp (A := A) _ _ h
  | .str _, _, h => Rep.dp (A := A) _ _ h
  | .tup _, _, h => Rep.dp (A := A) _ _ h
  | .scr _, _, h => Rep.dp (A := A) _ _ h
/-- scalars -/
@[simp] def eqS : D → D → Option Bool
  | .int i, .int j => some (decide (i = j))
  | .str i, .str j => some (decide (i = j))
  | .bl i, .bl j => some (decide (i = j))
  | .non, .non => some true
  | .int _, .non => some false
  | .non, .int _ => some false
  | .str _, .non => some false
  | .non, .str _ => some false
  | .bl _, .non => some false
  | .non, .bl _ => some false
  | .int _, .str _ => some false
  | .str _, .int _ => some false
  | .bl _, .str _ => some false
  | .str _, .bl _ => some false
  | _, _ => none
def eqD (d e : D) : Option Bool := match eqS d e with
  | some b => some b
  | none => if SeqAt.shaped d.toP && SeqAt.shaped e.toP then some (PyData.eqv d.toP e.toP) else none
@[simp] def pEq (d e : D) : Option O := (eqD d e).map fun b => .fz (.bl b)
@[simp] def pNe (d e : D) : Option O := (eqD d e).map fun b => .fz (.bl (!b))
theorem eqS_rep {d e : D} {x y : V} {b : Bool} (h : eqS d e = some b) (hx : Rep0 K H A d x) (hy : Rep0 K H A e y) : scal x y = true ∧ decide (x = y) = b := by
  unfold eqS at h
  split at h <;> cases h
  all_goals
    first
      | (cases (show x = _ from hx); cases (show y = _ from hy); refine ⟨rfl, ?_⟩; simp)
theorem od_eq (hu : X.A.units + 64 < cLine) : OpR X (compareOp .Eq) (rP2 X.K T pEq) := OpR.imp (op_eq.or (op_eqD hu)) fun x y H Q h => by
  obtain ⟨A, d, e, o, lA, tA, hx, hy, hp, post⟩ := h
  unfold pEq eqD at hp
  split at hp
  · rename_i b hb
    cases hp
    obtain ⟨h1, h2⟩ := eqS_rep hb hx hy
    exact .inl ⟨h1, by rw [h2]; exact post _ H [] (New.fz (by rw [Rep]))⟩
  · split at hp
    · rename_i hs
      cases hp
      rw [Bool.and_eq_true] at hs
      exact .inr ⟨_, _, hx.dp, hy.dp, hs.1, hs.2, post _ H [] (New.fz (by rw [Rep]))⟩
    · cases hp
theorem od_ne (hu : X.A.units + 64 < cLine) : OpR X (compareOp .NotEq) (rP2 X.K T pNe) := OpR.imp (op_ne.or (op_neD hu)) fun x y H Q h => by
  obtain ⟨A, d, e, o, lA, tA, hx, hy, hp, post⟩ := h
  unfold pNe eqD at hp
  split at hp
  · rename_i b hb
    cases hp
    obtain ⟨h1, h2⟩ := eqS_rep hb hx hy
    exact .inl ⟨h1, by rw [h2]; exact post _ H [] (New.fz (by rw [Rep]))⟩
  · split at hp
    · rename_i hs
      cases hp
      rw [Bool.and_eq_true] at hs
      exact .inr ⟨_, _, hx.dp, hy.dp, hs.1, hs.2, post _ H [] (New.fz (by rw [Rep]))⟩
    · cases hp

/-! ### is None -/
@[simp] def isNon : D → Bool
  | .non => true
  | _ => false
theorem isNon_rep : ∀ {d : D} {x : V}, Rep0 K H A d x → decide (x = V.non) = isNon d
  | .non, x, h => by cases (show x = _ from h); rfl
  | .bl b, x, h => by cases (show x = _ from h); rfl
  | .int b, x, h => by cases (show x = _ from h); rfl
  | .str b, x, h => by cases (show x = _ from h); rfl
  | .tup b, x, h => by have h : Rep K H A (.tup b) x := h; rw [Rep] at h; obtain ⟨a, vs, rfl, _⟩ := h; rfl
  | .lst b, x, h => by obtain ⟨a, vs, rfl, _⟩ := h; rfl
  | .scr b, x, h => by have h : Rep K H A (.scr b) x := h; rw [Rep] at h; obtain ⟨a, rfl, _⟩ := h; rfl
@[simp] def pIsN (d : D) (e : D) : Option O := match e with
  | .non => some (.fz (.bl (isNon d)))
  | _ => none
@[simp] def pNotN (d : D) (e : D) : Option O := match e with
  | .non => some (.fz (.bl (!isNon d)))
  | _ => none
theorem od_isN : OpR X (compareOp .Is) (rP2 X.K T pIsN) := OpR.imp op_isN fun x y H Q h => by
  obtain ⟨A, d, e, o, lA, tA, hx, hy, hp, post⟩ := h
  unfold pIsN at hp
  split at hp
  · cases hp
    exact ⟨hy, by rw [isNon_rep hx]; exact post _ H [] (New.fz (by rw [Rep]))⟩
  · cases hp
theorem od_notN : OpR X (compareOp .IsNot) (rP2 X.K T pNotN) := OpR.imp op_notN fun x y H Q h => by
  obtain ⟨A, d, e, o, lA, tA, hx, hy, hp, post⟩ := h
  unfold pNotN at hp
  split at hp
  · cases hp
    exact ⟨hy, by rw [isNon_rep hx]; exact post _ H [] (New.fz (by rw [Rep]))⟩
  · cases hp

/-! ### items and cuts -/
@[simp] def pIx : D → D → Option O
  | .tup l, .int n => (atI l n).map O.fz
  | .lst l, .int n => (atI l n).map O.fz
  | .scr l, .int n => (atI l n).map fun i => O.fz (.int i)
  | _, _ => none
theorem id_ix : IxR X (rP2 X.K T pIx) := IxR.imp ix_seq fun x y H Q h => by
  obtain ⟨A, d, e, o, lA, tA, hx, hy, hp, post⟩ := h
  unfold pIx at hp
  split at hp
  · rename_i l n
    have hx : Rep X.K H A (.tup l) x := hx
    rw [Rep] at hx
    obtain ⟨a, vs, rfl, h1, h2⟩ := hx
    cases q : atI l n with
    | none => rw [q] at hp; cases hp
    | some d =>
      rw [q] at hp
      cases hp
      obtain ⟨k, e1, e2⟩ := atI_some q
      obtain ⟨v, g1, g2⟩ := h2.get' e2
      exact .inr (.inl ⟨a, vs, n, v, rfl, hy, h1, atI_of e1 h2.length g1, post _ H [] (New.fz g2)⟩)
  · rename_i l n
    obtain ⟨a, vs, rfl, h1, h2⟩ := hx
    cases q : atI l n with
    | none => rw [q] at hp; cases hp
    | some d =>
      rw [q] at hp
      cases hp
      obtain ⟨k, e1, e2⟩ := atI_some q
      obtain ⟨v, g1, g2⟩ := h2.get' e2
      exact .inl ⟨a, vs, n, v, rfl, hy, SqL.of h1, atI_of e1 h2.length g1, post _ H [] (New.fz g2)⟩
  · rename_i l n
    have hx : Rep X.K H A (.scr l) x := hx
    rw [Rep] at hx
    obtain ⟨a, rfl, h1⟩ := hx
    cases q : atI l n with
    | none => rw [q] at hp; cases hp
    | some i =>
      rw [q] at hp
      cases hp
      obtain ⟨k, e1, e2⟩ := atI_some q
      refine .inl ⟨a, _, n, .int i, rfl, hy, h1.sq, atI_of e1 (List.length_map _) ?_, post _ H [] (New.fz (by rw [Rep]))⟩
      rw [List.getElem?_map, e2]
      rfl
  · cases hp
/-- the cut of a list of anything -/
def cutD {α : Type} (l : List α) (lo hi : Option Int) : List α := (l.drop (HT.sIx l.length 0 lo)).take (HT.sIx l.length l.length hi - HT.sIx l.length 0 lo)
theorem cutD_all {α : Type} {l : List α} {lo hi : Option Int} (h : HT.sIx l.length 0 lo = 0 ∧ HT.sIx l.length l.length hi = l.length) : cutD l lo hi = l := by
  unfold cutD
  rw [h.1, h.2]
  simp
theorem Reps.cut {l : List D} {vs : List V} (h : Reps K H A l vs) (lo hi : Option Int) : Reps K H A (cutD l lo hi) (cutV vs lo hi) := by
  unfold cutD cutV
  rw [h.length]
  exact (h.drop _).take _
/-- x[lo:hi] -/
@[simp] def pSl (d : D) (lo hi : Option Int) : Option O := match d with
  | .tup l => some (.fz (.tup (cutD l lo hi)))
  | .lst l => some (.own ((cutD l lo hi).map O.fz))
  | .scr l => some (.own ((cutD l lo hi).map fun i => O.fz (.int i)))
  | _ => none
def rSl (K : PySem.W.Frag) (T : List TK) : V → Option Int → Option Int → Hp → VK → Prop := fun x lo hi H Q => ∃ A d o, Lists H A ∧ Tabs T H ∧ Rep0 K H A d x ∧ pSl d lo hi = some o ∧ ∀ v H' F, New K H A o v H' F → Q v H'
theorem SlR.imp {r r' : V → Option Int → Option Int → Hp → VK → Prop} (h : SlR X r) (i : ∀ x lo hi H Q, r' x lo hi H Q → r x lo hi H Q) : SlR X r' := fun pins s σ H x v vl vu lo hi sl Q I rx hs pl pu q => h pins s σ H x v vl vu lo hi sl Q I rx hs pl pu (i x lo hi H Q q)
theorem sd_sl : SlR X (rSl X.K T) := SlR.imp (sl_tupA.or sl_list) fun x lo hi H Q h => by
  obtain ⟨A, d, o, lA, tA, hx, hp, post⟩ := h
  unfold pSl at hp
  split at hp
  · rename_i l
    cases hp
    have hx' : Rep X.K H A (.tup l) x := hx
    have hx := hx'
    rw [Rep] at hx
    obtain ⟨a, vs, rfl, h1, h2⟩ := hx
    refine .inl ⟨a, vs, rfl, h1, fun hw => ?_, fun _ p hp => post _ _ [] (New.tup (h2.cut lo hi) lA tA hp)⟩
    rw [h2.length] at hw
    rw [cutD_all hw] at post
    exact post _ H [] (New.fz hx')
  · rename_i l
    cases hp
    obtain ⟨a, vs, rfl, h1, h2⟩ := hx
    exact .inr ⟨a, vs, rfl, SqL.of h1, fun p hp => post _ _ [p] (New.lst (h2.cut lo hi) lA tA hp)⟩
  · rename_i l
    cases hp
    have hx : Rep X.K H A (.scr l) x := hx
    rw [Rep] at hx
    obtain ⟨a, rfl, h1⟩ := hx
    refine .inr ⟨a, _, rfl, h1.sq, fun p hp => ?_⟩
    have hr : Reps X.K H A ((cutD l lo hi).map D.int) (cutV (l.map V.int) lo hi) := by
      have : cutV (l.map V.int) lo hi = (cutD l lo hi).map V.int := by
        unfold cutD cutV
        rw [List.length_map, List.map_take, List.map_drop]
      rw [this]
      exact Reps.ints
    have := New.lst hr lA tA hp
    rw [List.map_map] at this
    exact post _ _ [p] this
  · cases hp
/-- a part of a cut -/
structure VO (X : Cx) (T : List TK) (e : Option Expr) (f : Option VF) : Prop where
  po : match f with
    | none => e = none
    | some f => ∃ e', e = some e' ∧ VE X T e' f
@[simp] def evO (f : Option VF) : Env' → Option (Option Int × Env') := fun ε => match f with
  | none => some (none, ε)
  | some f => match f ε with
    | some (.o (.fz (.int i)), ε1) => some (some i, ε1)
    | _ => none
@[simp] def vSl (f : VF) (lo hi : Option VF) : VF := fun ε => match f ε with
  | some (.o o, ε1) => match evO lo ε1 with
    | some (l, ε2) => match evO hi ε2 with
      | some (h, ε3) => match pSl o.val l h with
        | some r => some (.o r, ε3)
        | none => none
      | none => none
    | none => none
  | _ => none
def tPt (K : PySem.W.Frag) (T : List TK) (f : Option VF) : L2.St → Hp → (Option Int → Hp → Prop) → Prop := fun σ H Q => ∃ M R ε i ε', Ok K T H M R ε σ ∧ evO f ε = some (i, ε') ∧ ∀ H' M', Ok K T H' M' R ε' σ → Stp T H M H' M' → Q i H'
theorem po_of {e : Option Expr} {f : Option VF} (h : VO X T e f) : PO X e (tPt X.K T f) := by
  cases f with
  | none =>
    have e0 : e = none := h.po
    subst e0
    refine ⟨fun pins s σ H Q I hh => ?_⟩
    obtain ⟨M, R, ε, i, ε', ok, hf, post⟩ := hh
    cases hf
    exact po_none.run pins s σ H Q I (post H M ok .refl)
  | some f =>
    obtain ⟨e', rfl, hv⟩ := h.po
    refine ⟨fun pins s σ H Q I hh => ?_⟩
    obtain ⟨M, R, ε, i, ε', ok, hf, post⟩ := hh
    unfold evO at hf
    dsimp only at hf
    split at hf
    · rename_i j ε1 h1
      cases hf
      refine (po_some hv.pe).run pins s σ H Q I ⟨M, R, ε, _, _, ok, h1, fun v H' M' F p => ?_⟩
      obtain ⟨rfl, rfl, ok', st⟩ := Post.int p
      exact ⟨j, rfl, post H' M' ok' st⟩
    · cases hf
theorem ve_sl {e : Expr} {lo hi : Option Expr} {p2 pos : Pos} {f : VF} {l h : Option VF} (he : VE X T e f) (hl : VO X T lo l) (hh : VO X T hi h) : VE X T (.Subscript e (.Slice lo hi none p2) pos) (vSl f l h) := by
  refine ⟨PE.imp (pe_slice (sd_sl (T := T)) he.pe (po_of hl) (po_of hh)) fun σ H Q q => ?_⟩
  obtain ⟨M, R, ε, r, ε', ok, hf, post⟩ := q
  unfold vSl at hf
  split at hf
  · rename_i o ε1 h1
    split at hf
    · rename_i li ε2 h2
      split at hf
      · rename_i hi ε3 h3
        split at hf
        · rename_i r h4
          cases hf
          refine ⟨M, R, ε, _, _, ok, h1, fun v H1 M1 F1 p1 => ⟨M1, F1 ++ R, ε1, li, ε2, p1.ok, h2, fun H2 M2 ok2 st2 => ⟨M2, F1 ++ R, ε2, hi, ε', ok2, h3, fun H3 M3 ok3 st3 => ?_⟩⟩⟩
          have p1 : Post _ T H M R ε1 σ o v H1 M1 F1 := p1
          have st : Stp T H1 M1 H3 M3 := st2.trans st3
          have r3 : RepO X.K H3 (M3 ++ (F1 ++ R)) o v F1 := RepO.later (F2 := []) p1.ok (by rw [List.append_nil]; exact st) p1.rep
          have hd : Rep X.K H3 (M3 ++ R) o.val v := r3.freeze sub3 _ _ _ (Nodup.left2 ok3.nd)
          refine ⟨M3 ++ R, o.val, r, ok3.drop.ls, ok3.tab, hd.rep0, h4, fun v2 H4 F4 n => post v2 H4 M3 F4 ?_⟩
          exact (n.post ok3.drop).before ((p1.stp').trans st)
        · cases hf
      · cases hf
    · cases hf
  · cases hf
theorem vo_none : VO X T none none := ⟨rfl⟩
theorem vo_some {e : Expr} {f : VF} (h : VE X T e f) : VO X T (some e) (some f) := ⟨⟨e, rfl, h⟩⟩

/-! ### built-in functions -/
@[simp] def pLen : List D → Option O
  | [.tup l] => some (.fz (.int l.length))
  | [.lst l] => some (.fz (.int l.length))
  | [.scr l] => some (.fz (.int l.length))
  | _ => none
theorem Rep0s.one {d : D} {vs : List V} (h : Rep0s K H A [d] vs) : ∃ v, vs = [v] ∧ Rep0 K H A d v := by
  obtain ⟨v, r, rfl, h1, rfl⟩ := h
  exact ⟨v, rfl, h1⟩
theorem Rep0s.two {d e : D} {vs : List V} (h : Rep0s K H A [d, e] vs) : ∃ v w, vs = [v, w] ∧ Rep0 K H A d v ∧ Rep0 K H A e w := by
  obtain ⟨v, r, rfl, h1, w, r', rfl, h2, rfl⟩ := h
  exact ⟨v, w, rfl, h1, h2⟩
theorem cd_len : CallR X (.builtin "len") (rP X.K T pLen) := CallR.imp call_len_seq fun vs H Q h => by
  obtain ⟨A, ds, o, lA, tA, hx, hp, post⟩ := h
  unfold pLen at hp
  split at hp
  · rename_i l
    cases hp
    obtain ⟨v, rfl, hv⟩ := hx.one
    have hv : Rep X.K H A (.tup l) v := hv
    rw [Rep] at hv
    obtain ⟨a, ws, rfl, h1, h2⟩ := hv
    exact ⟨a, ws, rfl, .inr h1, by rw [h2.length]; exact post _ H [] (New.fz (by rw [Rep]))⟩
  · rename_i l
    cases hp
    obtain ⟨v, rfl, hv⟩ := hx.one
    obtain ⟨a, ws, rfl, h1, h2⟩ := hv
    exact ⟨a, ws, rfl, .inl (SqL.of h1), by rw [h2.length]; exact post _ H [] (New.fz (by rw [Rep]))⟩
  · rename_i l
    cases hp
    obtain ⟨v, rfl, hv⟩ := hx.one
    have hv : Rep X.K H A (.scr l) v := hv
    rw [Rep] at hv
    obtain ⟨a, rfl, h1⟩ := hv
    exact ⟨a, _, rfl, .inl h1.sq, by rw [List.length_map]; exact post _ H [] (New.fz (by rw [Rep]))⟩
  · cases hp
@[simp] def pAbs : List D → Option O
  | [.int i] => some (.fz (.int (if i < 0 then -i else i)))
  | _ => none
theorem cd_abs : CallR X (.builtin "abs") (rP X.K T pAbs) := CallR.imp call_abs fun vs H Q h => by
  obtain ⟨A, ds, o, lA, tA, hx, hp, post⟩ := h
  unfold pAbs at hp
  split at hp
  · cases hp
    obtain ⟨v, rfl, hv⟩ := hx.one
    cases (show v = _ from hv)
    exact ⟨_, rfl, post _ H [] (New.fz (by rw [Rep]))⟩
  · cases hp
@[simp] def pMin2 : List D → Option O
  | [.int i, .int j] => some (.fz (.int (if j < i then j else i)))
  | _ => none
@[simp] def pMax2 : List D → Option O
  | [.int i, .int j] => some (.fz (.int (if j > i then j else i)))
  | _ => none
theorem cd_min2 (hc : X.calm = true) : CallR X (.builtin "min") (rP X.K T pMin2) := CallR.imp (call_min2 hc) fun vs H Q h => by
  obtain ⟨A, ds, o, lA, tA, hx, hp, post⟩ := h
  unfold pMin2 at hp
  split at hp
  · cases hp
    obtain ⟨v, w, rfl, hv, hw⟩ := hx.two
    cases (show v = _ from hv)
    cases (show w = _ from hw)
    exact ⟨_, _, rfl, post _ H [] (New.fz (by rw [Rep]))⟩
  · cases hp
theorem cd_max2 (hc : X.calm = true) : CallR X (.builtin "max") (rP X.K T pMax2) := CallR.imp (call_max2 hc) fun vs H Q h => by
  obtain ⟨A, ds, o, lA, tA, hx, hp, post⟩ := h
  unfold pMax2 at hp
  split at hp
  · cases hp
    obtain ⟨v, w, rfl, hv, hw⟩ := hx.two
    cases (show v = _ from hv)
    cases (show w = _ from hw)
    exact ⟨_, _, rfl, post _ H [] (New.fz (by rw [Rep]))⟩
  · cases hp
@[simp] def pInt : List D → Option O
  | [.int i] => some (.fz (.int i))
  | [.bl b] => some (.fz (.int (if b then 1 else 0)))
  | _ => none
theorem cd_int : CallR X (.type "int") (rP X.K T pInt) := CallR.imp call_int1 fun vs H Q h => by
  obtain ⟨A, ds, o, lA, tA, hx, hp, post⟩ := h
  unfold pInt at hp
  split at hp
  · cases hp
    obtain ⟨v, rfl, hv⟩ := hx.one
    cases (show v = _ from hv)
    exact .inl ⟨_, rfl, post _ H [] (New.fz (by rw [Rep]))⟩
  · cases hp
    obtain ⟨v, rfl, hv⟩ := hx.one
    cases (show v = _ from hv)
    exact .inr ⟨_, rfl, post _ H [] (New.fz (by rw [Rep]))⟩
  · cases hp
@[simp] def pList : List D → Option O
  | [.tup l] => some (.own (l.map O.fz))
  | [.lst l] => some (.own (l.map O.fz))
  | [.scr l] => some (.own (l.map fun i => O.fz (.int i)))
  | _ => none
theorem cd_list : CallR X (.type "list") (rP X.K T pList) := CallR.imp call_list_of fun vs H Q h => by
  obtain ⟨A, ds, o, lA, tA, hx, hp, post⟩ := h
  unfold pList at hp
  split at hp
  · rename_i l
    cases hp
    obtain ⟨v, rfl, hv⟩ := hx.one
    have hv : Rep X.K H A (.tup l) v := hv
    rw [Rep] at hv
    obtain ⟨a, ws, rfl, h1, h2⟩ := hv
    exact ⟨a, ws, rfl, .inr h1, fun p hp => post _ _ [p] (New.lst h2 lA tA hp)⟩
  · rename_i l
    cases hp
    obtain ⟨v, rfl, hv⟩ := hx.one
    obtain ⟨a, ws, rfl, h1, h2⟩ := hv
    exact ⟨a, ws, rfl, .inl (SqL.of h1), fun p hp => post _ _ [p] (New.lst h2 lA tA hp)⟩
  · rename_i l
    cases hp
    obtain ⟨v, rfl, hv⟩ := hx.one
    have hv : Rep X.K H A (.scr l) v := hv
    rw [Rep] at hv
    obtain ⟨a, rfl, h1⟩ := hv
    refine ⟨a, _, rfl, .inl h1.sq, fun p hp => ?_⟩
    have := New.lst (K := X.K) (Reps.ints (ns := l)) lA tA hp
    rw [List.map_map] at this
    exact post _ _ [p] this
  · cases hp
@[simp] def pTuple : D → Option O
  | .tup l => some (.fz (.tup l))
  | .lst l => some (.fz (.tup l))
  | .scr l => some (.fz (.tup (l.map D.int)))
  | _ => none
theorem ve_tuple {a : Expr} {f : VF} {p pos : Pos} (hg : Gl X "tuple") (hm : X.mg "tuple" = none) (ha : VE X T a f) (na : starEach [a] X.env = (false, eval a X.env) :: starEach [] X.env := by rfl) : VE X T (.Call (.Name "tuple" p) [a] [] pos) (vUn pTuple f) := by
  refine ⟨PE.imp (pe_tupleOf hg hm ha.pe na) fun σ H Q h => ?_⟩
  have q := tUn_of h
  obtain ⟨M, R, ε, r, ε', ok, hf, post⟩ := q
  refine ⟨M, R, ε, r, ε', ok, hf, fun v H' M' F p => ?_⟩
  obtain ⟨A, d, o, lA, tA, hx, hp, pst⟩ := post v H' M' F p
  unfold pTuple at hp
  split at hp
  · rename_i l
    cases hp
    have hx' : Rep X.K H' A (.tup l) v := hx
    have hx := hx'
    rw [Rep] at hx
    obtain ⟨a, ws, rfl, h1, h2⟩ := hx
    exact .inr ⟨a, ws, rfl, h1, pst _ H' [] (New.fz hx')⟩
  · rename_i l
    cases hp
    obtain ⟨a, ws, rfl, h1, h2⟩ := hx
    exact .inl ⟨a, ws, rfl, SqL.of h1, fun q hq => pst _ _ [] (New.tup h2 lA tA hq)⟩
  · rename_i l
    cases hp
    have hx : Rep X.K H' A (.scr l) v := hx
    rw [Rep] at hx
    obtain ⟨a, rfl, h1⟩ := hx
    exact .inl ⟨a, _, rfl, h1.sq, fun q hq => pst _ _ [] (New.tup Reps.ints lA tA hq)⟩
  · cases hp

/-! ### isinstance -/
@[simp] def tyOf : D → String
  | .non => "NoneType"
  | .bl _ => "bool"
  | .int _ => "int"
  | .str _ => "str"
  | .tup _ => "tuple"
  | .lst _ => "list"
  | .scr _ => "list"
theorem tyOf_rep : ∀ {d : D} {x : V}, Rep0 K H A d x → TyX K H x (.type (tyOf d))
  | .non, x, h => by cases (show x = _ from h); exact .base .non
  | .bl b, x, h => by cases (show x = _ from h); exact .base (.bl b)
  | .int b, x, h => by cases (show x = _ from h); exact .base (.int b)
  | .str b, x, h => by cases (show x = _ from h); exact .base (.str b)
  | .tup b, x, h => by
    have h : Rep K H A (.tup b) x := h
    rw [Rep] at h
    obtain ⟨a, vs, rfl, h1, _⟩ := h
    rcases h1 with (h1 | ⟨o, h1⟩) | ⟨o, its, n, h1, h2, _⟩
    · exact .base (.tup h1)
    · exact .fTuple h1
    · exact .kTuple h1 h2
  | .lst b, x, h => by obtain ⟨a, vs, rfl, h1, _⟩ := h; exact .base (.lst h1)
  | .scr b, x, h => by
    have h : Rep K H A (.scr b) x := h
    rw [Rep] at h
    obtain ⟨a, rfl, h1⟩ := h
    rcases h1.sq with (h1 | ⟨o, h1⟩) | ⟨o, its, n, h1, h2, _⟩
    · exact .base (.lst h1)
    · exact .base (.frz h1)
    · exact .kList h1 h2
@[simp] def pIsi (t : String) (d : D) : Option O := if t = "int" then some (.fz (.bl (tyOf d == "int" || tyOf d == "bool"))) else some (.fz (.bl (tyOf d == t)))
/-- what isinstance says of the six kinds -/
def isiOk (t : String) : Prop := ∀ s ∈ ["NoneType", "bool", "int", "str", "tuple", "list"], kitB s t = some (if t = "int" then (s == "int" || s == "bool") else s == t)
theorem isi_int : isiOk "int" := by unfold isiOk; decide +kernel
theorem isi_bool : isiOk "bool" := by unfold isiOk; decide +kernel
theorem isi_str : isiOk "str" := by unfold isiOk; decide +kernel
theorem isi_tuple : isiOk "tuple" := by unfold isiOk; decide +kernel
theorem isi_list : isiOk "list" := by unfold isiOk; decide +kernel
theorem tyOf_mem (d : D) : tyOf d ∈ ["NoneType", "bool", "int", "str", "tuple", "list"] := by cases d <;> simp [tyOf]
theorem ve_isi {a : Expr} {x : Str} {t : String} {f : VF} {p p2 pos : Pos} (hg : Gl X "isinstance") (hm : X.mg "isinstance" = none) (hg2 : Gl X x) (hm2 : X.mg x = none) (hv : bootBuiltins x = some (.type t)) (ht : isiOk t) (ha : VE X T a f) (hn : x ≠ "__name__") (hdb : (x == ("__debug__" : Str)) = false)
    (he : starEach [a, .Name x p2] X.env = (false, eval a X.env) :: starEach [.Name x p2] X.env := by rfl) (he2 : starEach [.Name x p2] X.env = (false, eval (.Name x p2) X.env) :: starEach [] X.env := by rfl) (hpl : (backTo pos (starEach [.Name x p2] X.env)).any (·.1) = false := by rfl) : VE X T (.Call (.Name "isinstance" p) [a, .Name x p2] [] pos) (vUn (pIsi t) f) := by
  refine ⟨PE.imp (pe_callB call_isi hg hm (by decide +kernel) (pa_cons ha.pe (pa_cons (pe_bltn (v := .ty t) hg2 hm2 hv rfl hn hdb) pa_nil he2) he) (by decide) (by decide) he hpl) fun σ H Q h => ?_⟩
  have q := tUn_of h
  obtain ⟨M, R, ε, r, ε', ok, hf, post⟩ := q
  refine ⟨M, R, ε, r, ε', ok, hf, fun v H' M' F p => ?_⟩
  obtain ⟨A, d, o, lA, tA, hx, hp, pst⟩ := post v H' M' F p
  refine ⟨v, .ty t, .type (tyOf d), .type t, _, rfl, .ty t, tyOf_rep hx, kit_ty (ht _ (tyOf_mem d)), ?_⟩
  unfold pIsi at hp
  split at hp
  · rename_i e
    cases hp
    rw [if_pos e]
    exact pst _ H' [] (New.fz (by rw [Rep]))
  · rename_i e
    cases hp
    rw [if_neg e]
    exact pst _ H' [] (New.fz (by rw [Rep]))
end
end
end VS


set_option Elab.async false
set_option linter.all false
/-! VS8: calls with keywords; items popped and stored; the end of a law. -/
namespace VS
noncomputable section
open PySem PySem.Spec PyProof.Rows L2
section
variable {K : PySem.W.Frag} {T : List TK} {P : List Nat} {H H' H'' : Hp} {M M' M'' R R' F F' A A' : List Addr} {ε ε' : Env'} {σ σ' σ'' : L2.St} {X : Cx}

/-! ### calls whose arguments are data -/
@[simp] def permL {α : Type} (idx : List Nat) (l : List α) : List α := idx.filterMap fun i => l[i]?
theorem Reps.perm {ds : List D} {vs : List V} (h : Reps K H A ds vs) : ∀ idx : List Nat, Reps K H A (permL idx ds) (permL idx vs)
  | [] => by simp [permL, Reps]
  | i :: idx => by
    have ih := Reps.perm h idx
    unfold permL at ih ⊢
    rw [List.filterMap_cons, List.filterMap_cons]
    cases q : ds[i]? with
    | none =>
      have : vs[i]? = none := by
        rw [List.getElem?_eq_none_iff] at q ⊢
        rw [h.length]; exact q
      rw [this]
      exact ih
    | some d =>
      obtain ⟨v, h1, h2⟩ := h.get' q
      rw [h1]
      show Reps K H A (d :: _) (v :: _)
      rw [Reps]
      exact ⟨v, _, rfl, h2, ih⟩
theorem evs_length : ∀ {fs : List VF} {ε ε' : Env'} {rs : List Ro}, evs fs ε = some (rs, ε') → rs.length = fs.length
  | [], ε, ε', rs, h => by cases h; rfl
  | f :: fs, ε, ε', rs, h => by
    rw [evs] at h
    split at h
    · split at h
      · rename_i rs' ε3 h5
        cases h
        rw [List.length_cons, List.length_cons, evs_length h5]
      · cases h
    · cases h
theorem allO_length : ∀ {rs : List Ro} {os : List O}, allO rs = some os → rs.length = os.length
  | [], os, h => by cases h; rfl
  | .o o :: rs, os, h => by
    rw [allO] at h
    split at h
    · rename_i os' h6
      cases h
      rw [List.length_cons, List.length_cons, allO_length h6]
    · cases h
  | .b i :: rs, os, h => by cases h
@[simp] def vCallD (G : Fn) (idx : List Nat) (fs : List VF) : VF := fun ε => match evs fs ε with
  | some (rs, ε1) => match allO rs with
    | some os => match G ((permL idx (O.vals os)).map O.fz) with
      | some (r, _) => some (.o r, ε1)
      | none => none
    | none => none
  | none => none
theorem callD_of {G : Fn} {n : Nat} {idx : List Nat} {fs : List VF} {H : Hp} {Q : VK} {E : XK} (hl : ∀ l : List V, l.length = fs.length → (permL idx l).length = n) (h : tV K T (vCallD G idx fs) σ H Q) : chain K T fs σ H fun vs H1 => vs.length = fs.length ∧ spF K T n G (permL idx vs) H1 Q E := by
  obtain ⟨M, R, ε, r, ε', ok, hf, post⟩ := h
  unfold vCallD at hf
  split at hf
  · rename_i rs ε1 h1
    split at hf
    · rename_i os h2
      split at hf
      · rename_i rr fin h3
        cases hf
        refine chain_of ok h1 fun vs H1 M1 F1 p => ?_
        have hr := Held.all p.rep h2
        have hd : Reps _ H1 (M1 ++ R) (O.vals os) vs := hr.freeze sub3 _ _ _ (Nodup.left2 p.ok.nd)
        have hlen : vs.length = fs.length := by
          rw [hr.length]
          rw [← allO_length h2, evs_length h1]
        have ok1 : Ok K T H1 M1 R ε' σ := p.ok.drop
        have okc : Ok K T H1 [] (M1 ++ R) ((((permL idx (O.vals os)).map O.fz)).map some) ((permL idx vs).map some) := ⟨(RepOs.data (hd.perm idx)).slots, ok1.nd, ok1.ls, ok1.tab⟩
        refine ⟨hlen, M1 ++ R, _, [], rr, fin, okc, hl vs hlen, h3, fun v H2 Ff Fr q => ?_⟩
        have kp : Keep T H1 [] H2 := q.stp.keep
        have fresh : ∀ a ∈ Ff ++ Fr, H1 a = none := fun a ha => (q.stp.sub a ha).elim (fun z => by cases z) id
        have ok2 : Ok K T H2 M1 (Fr ++ R) ε' σ := by
          have mem : ∀ a ∈ M1 ++ (Fr ++ R), a ∈ Ff ++ (Fr ++ (M1 ++ R)) := fun a ha => by
            simp only [List.mem_append] at ha ⊢
            rcases ha with z | z | z <;> simp [z]
          refine ⟨ok1.rep.mono kp ok1.tab .nil (fun a h => by cases h) (fun a ha => ?_) (fun a _ z => by cases z), ?_, q.ok.ls.sub mem, q.ok.tab⟩
          · rcases List.mem_append.mp ha with z | z
            · exact .inl (List.mem_append_left _ z)
            · rcases List.mem_append.mp z with z | z
              · exact .inr (fresh a (List.mem_append_right _ z))
              · exact .inl (List.mem_append_right _ z)
          · have nd := (List.nodup_append.mp q.ok.nd).2.1
            exact (sw Fr M1 R).nodup_iff.mp nd
        refine post v H2 M1 Fr ⟨ok2, ⟨fun b o e hm ht => kp b o (p.stp.keep b o e hm ht) (by simp) ht, fun b o e => ?_, fun a ha => ?_, grow2 p.stp.grow q.stp.grow⟩, q.rep.anti (fun a ha => ?_) _ _ _⟩
        · obtain ⟨o', e'⟩ := p.stp.live b o e
          exact q.stp.live b o' e'
        · rcases List.mem_append.mp ha with z | z
          · exact p.stp.sub a (List.mem_append_left _ z)
          · exact .inr (p.stp.back (fresh a (List.mem_append_right _ z)))
        · simp only [List.mem_append] at ha ⊢
          rcases ha with z | z | z <;> simp [z]
      · cases hf
    · cases hf
  · cases hf
theorem chain_app : ∀ {fs gs : List VF} {H : Hp} {k : List V → Hp → Prop}, chain K T (fs ++ gs) σ H k → chain K T fs σ H fun vs H1 => chain K T gs σ H1 fun zs H2 => k (vs ++ zs) H2
  | [], gs, H, k, h => h
  | f :: fs, gs, H, k, ⟨M, R, ε, r, ε', ok, hf, post⟩ => ⟨M, R, ε, r, ε', ok, hf, fun v H' M' F p => chain_app (post v H' M' F p)⟩
theorem chain_len : ∀ {fs : List VF} {H : Hp} {k : List V → Hp → Prop}, chain K T fs σ H k → chain K T fs σ H fun vs H1 => vs.length = fs.length ∧ k vs H1
  | [], H, k, h => ⟨rfl, h⟩
  | f :: fs, H, k, ⟨M, R, ε, r, ε', ok, hf, post⟩ => ⟨M, R, ε, r, ε', ok, hf, fun v H' M' F p => chain_mono (chain_len (post v H' M' F p)) fun vs H2 q => ⟨by rw [List.length_cons, List.length_cons, q.1], q.2⟩⟩
/-- keywords -/
structure VK (X : Cx) (T : List TK) (kws : List Keyword) (fs : List VF) : Prop where
  pk : PK X kws (fun σ H Q => chain X.K T fs σ H Q)
theorem PK.imp {kws : List Keyword} {t t' : TA} (h : PK X kws t) (i : ∀ σ H Q, t' σ H Q → t σ H Q) : PK X kws t' := ⟨fun p pins s σ H Q I q => h.run p pins s σ H Q I (i σ H Q q)⟩
theorem vk_nil : VK X T [] [] := ⟨PK.imp pk_nil fun _ _ _ h => h⟩
theorem vk_cons {e : Expr} {nm : Option Str} {kpos : Pos} {kws : List Keyword} {f : VF} {fs : List VF} (ha : VE X T e f) (hr : VK X T kws fs) : VK X T (⟨nm, e, kpos⟩ :: kws) (f :: fs) := ⟨PK.imp (pk_cons ha.pe hr.pk) fun _ _ _ h => h⟩
/-- f(a, .., k = b, ..), all data -/
theorem ve_callKN {x : Str} {f : Addr} {fd : FuncData} {ps ks : List Str} {n k : Nat} {G : Fn} {e : Expr} {es : List Expr} {kws : List Keyword} {fs gs : List VF} {p pos : Pos} {idx : List Nat} (Fk : FnOk X.prog X.w X.K X.mg X.base CX0 k f fd ps (spF X.K T n G)) (hr : Room k X.A) (hg : Gl X x) (hm : X.mg x = some (.ref f)) (hk : PySem.W.keepIn X.K (.ref f) = true)
    (hb : KBn X.K fd ps fs.length ks (fun us ws => permL idx (us ++ ws)) (fun vs zs => permL idx (vs ++ zs))) (ha : VA X T (e :: es) fs) (hkw : VK X T kws gs) (hl : ∀ l : List V, l.length = (fs ++ gs).length → (permL idx l).length = n) (hgl : gs.length = ks.length)
    (hall : (backToKw pos (keywordEach kws X.env)).all (·.1.isSome) = true := by rfl) (hks : (backToKw pos (keywordEach kws X.env)).filterMap (·.1) = ks := by rfl)
    (hdb : (x == ("__debug__" : Str)) = false := by decide) (he : starEach (e :: es) X.env = (false, eval e X.env) :: starEach es X.env := by rfl)
    (hpl : ((backTo pos (starEach (e :: es) X.env)).any (·.1) || (backToKw pos (keywordEach kws X.env)).any (·.1.isNone)) = false := by rfl) : VE X T (.Call (.Name x p) (e :: es) kws pos) (vCallD G idx (fs ++ gs)) := by
  refine ⟨PE.imp (pe_callN Fk hr hg hm hk hb pass0 ha.pa hkw.pk hall hks hdb he hpl) fun σ H Q h => ?_⟩
  refine chain_mono (chain_len (chain_app (callD_of (E := E0) hl h))) fun vs H1 q => ?_
  refine chain_mono (chain_len q.2) fun zs H2 q2 => ⟨q.1, q2.1.trans hgl, q2.2.2⟩
/-- f(k = b, ..), all data -/
theorem ve_callK0 {x : Str} {f : Addr} {fd : FuncData} {ps ks : List Str} {n k : Nat} {G : Fn} {kws : List Keyword} {gs : List VF} {p pos : Pos} {idx : List Nat} (Fk : FnOk X.prog X.w X.K X.mg X.base CX0 k f fd ps (spF X.K T n G)) (hr : Room k X.A) (hg : Gl X x) (hm : X.mg x = some (.ref f)) (hk : PySem.W.keepIn X.K (.ref f) = true)
    (hb : KBn X.K fd ps 0 ks (fun us ws => permL idx (us ++ ws)) (fun vs zs => permL idx (vs ++ zs))) (hkw : VK X T kws gs) (hl : ∀ l : List V, l.length = gs.length → (permL idx l).length = n) (hgl : gs.length = ks.length)
    (hall : (backToKw pos (keywordEach kws X.env)).all (·.1.isSome) = true := by rfl) (hks : (backToKw pos (keywordEach kws X.env)).filterMap (·.1) = ks := by rfl)
    (hdb : (x == ("__debug__" : Str)) = false := by decide)
    (hpl : ((backTo pos (starEach [] X.env)).any (·.1) || (backToKw pos (keywordEach kws X.env)).any (·.1.isNone)) = false := by rfl) : VE X T (.Call (.Name x p) [] kws pos) (vCallD G idx gs) := by
  refine ⟨⟨fun pins s σ H Q I h => ?_⟩⟩
  refine wpAny_Call_Name_kw (ld_glob I hg hm ?_ hdb)
  refine PySem.W.callWith_KW0 (h₀ := X.base) I.ok.mod.kin hk hall ?_ hpl
  have q := chain_len (callD_of (E := E0) hl h)
  refine thn (hkw.pk.run pos pins s σ H _ I q) fun ws s2 ⟨zs, H2, I2, rz, l1, l2, q2⟩ => ⟨I2.kIn, ?_⟩
  rw [hks]
  exact run_fnN (us := []) (vs := []) Fk hr hb pass0 I2 .nil rz rfl (l1.trans hgl) q2

/-! ### items popped, items stored -/
@[simp] def vPop (i : Nat) (f : VF) : VF := fun ε => match ε[i]? with
  | some (some (.own _)) => match f ε with
    | some (.o (.fz (.int n)), ε1) => match ε1[i]? with
      | some (some (.own l)) => if room l.length then match ixN l.length n with
          | some k => match l[k]? with
            | some o => some (.o o, ε1.set i (some (.own (l.eraseIdx k))))
            | none => none
          | none => none
        else none
      | _ => none
    | _ => none
  | _ => none
theorem Nodup.perm3 {a b c d : List Addr} (h : (a ++ b).Nodup) (p : a.Perm (c ++ d)) : (d ++ (b ++ c)).Nodup := by
  have q : (d ++ (b ++ c)).Perm (a ++ b) := by
    refine (List.Perm.append_left d List.perm_append_comm).trans ?_
    rw [← List.append_assoc]
    exact List.Perm.append_right b (List.perm_append_comm.trans p.symm)
  exact q.nodup_iff.mpr h
theorem ixN_63 {n : Nat} {i : Int} {k : Nat} (h : ixN n i = some k) (hr : room n = true) : -(2 ^ 63) ≤ i ∧ i < 2 ^ 63 ∧ seqIndex? i n = some k ∧ k < n := by
  obtain ⟨h1, h2, h3, h4⟩ := ixN_seq h
  have h := of_decide_eq_true ((room_eq n).symm.trans hr)
  refine ⟨by omega, by omega, h1, h2⟩
/-- the item at k leaves slot i's list -/
theorem Ok.popped {i k : Nat} {l : List O} {o : O} (ok : Ok K T H M R ε σ) (e : ε[i]? = some (some (.own l))) (hk : l[k]? = some o) : ∃ a vs y, σ[i]? = some (some (.ref a)) ∧ H a = some (.lst vs) ∧ vs.length = l.length ∧ vs[k]? = some y ∧
    ∃ M3 Fk, Post K T H M R (ε.set i (some (.own (l.eraseIdx k)))) σ o y (L2.upd H a (.lst (vs.eraseIdx k))) M3 Fk := by
  obtain ⟨a, vs, F', c1, c2, c3, c4, c5, c6, c7⟩ := Ok.change (F := []) (Fr := []) ok e
  obtain ⟨y, Fk, G, g1, g2, g3, g4⟩ := c4.at hk
  refine ⟨a, vs, y, c1, c2, c4.length, g1, ?_⟩
  have nda : a ∉ F' := fun z => (List.nodup_cons.mp c5).1 (List.mem_append_left _ z)
  have ndF : F'.Nodup := by
    have := (List.nodup_cons.mp c5).2
    rw [List.append_nil] at this
    exact this
  have hA : a ∈ M ++ ([] ++ R) := List.mem_append_left _ c3
  have nG : a ∉ G := fun z => nda (g2.mem_iff.mpr (List.mem_append_right _ z))
  have nK : a ∉ Fk := fun z => nda (g2.mem_iff.mpr (List.mem_append_left _ z))
  obtain ⟨M3, k3, s3, s4⟩ := c7 (l.eraseIdx k) (vs.eraseIdx k) G Fk ((g2.trans List.perm_append_comm).nodup_iff.mp ndF) (fun b hb => by
    rw [List.append_nil]
    exact (g2.trans List.perm_append_comm).mem_iff.mpr hb) (g4.upd (vs' := vs) ok.tab (lists1 c2) hA nG)
  have inM : ∀ b ∈ M3 ++ Fk, b ∈ M := fun b hb => (List.mem_append.mp hb).elim (fun z => by simpa using s3 b z) fun z => c6 b (g2.mem_iff.mpr (List.mem_append_left _ z))
  refine ⟨M3, Fk, k3, Stp.upd c3 c2 inM, (g3.upd ok.tab (lists1 c2) hA nK).anti (fun b hb => ?_) _ _ _⟩
  rcases List.mem_append.mp hb with z | z
  · exact List.mem_append_left _ (inM b (List.mem_append_left _ z))
  · rcases List.mem_append.mp z with z | z
    · exact List.mem_append_left _ (inM b (List.mem_append_right _ z))
    · exact List.mem_append_right _ z
theorem ve_pop {i : Nat} {o e : Expr} {f : VF} {apos cpos : Pos} (he : PE X (.Call (.Attribute o "pop" apos) [e] [] cpos) (tBM X.K "list" rPopAt (tVar i) (fun σ H Q => chain X.K T [f] σ H Q))) : VE X T (.Call (.Attribute o "pop" apos) [e] [] cpos) (vPop i f) := by
  refine ⟨PE.imp he fun σ H Q h => ?_⟩
  obtain ⟨M, R, ε, r, ε', ok, hf, post⟩ := h
  unfold vPop at hf
  split at hf
  · rename_i l0 e0
    split at hf
    · rename_i n ε1 h1
      split at hf
      · rename_i l e1
        split at hf
        · rename_i hr
          split at hf
          · rename_i k hk
            split at hf
            · rename_i o1 ho
              cases hf
              obtain ⟨v, F0, g1, g2, g3⟩ := ok.rep.get e0
              rw [RepO] at g2
              obtain ⟨a0, vs0, _, rfl, ha0, _, _⟩ := g2
              refine ⟨_, g1, .inl ⟨rfl, vs0, SqL.of ha0⟩, ?_⟩
              refine ⟨M, R, ε, _, ε1, ok, h1, fun y H1 M1 F1 p1 => ?_⟩
              obtain ⟨rfl, rfl, ok1, st1⟩ := Post.int p1
              obtain ⟨a, vs, y, c1, c2, c3, c4, M3, Fk, c5⟩ := ok1.popped e1 ho
              rw [g1] at c1
              cases c1
              obtain ⟨b1, b2, b3, b4⟩ := ixN_63 hk hr
              rw [← c3] at b3
              exact ⟨a0, vs, n, k, y, rfl, rfl, c2, b1, b2, b3, c4, post _ _ M3 Fk (c5.before st1)⟩
            · cases hf
          · cases hf
        · cases hf
      · cases hf
    · cases hf
  · cases hf
/-- x.pop() -/
@[simp] def vPop0 (i : Nat) : VF := fun ε => match ε[i]? with
  | some (some (.own l)) => match l[l.length - 1]? with
    | some o => some (.o o, ε.set i (some (.own (l.eraseIdx (l.length - 1)))))
    | none => none
  | _ => none
theorem eraseIdx_last {α : Type} : ∀ l : List α, l.eraseIdx (l.length - 1) = l.dropLast
  | [] => rfl
  | [_] => rfl
  | x :: y :: l => by
    have ih := eraseIdx_last (y :: l)
    rw [List.length_cons, Nat.add_sub_cancel]
    rw [List.length_cons, Nat.add_sub_cancel] at ih
    show (x :: y :: l).eraseIdx (l.length + 1) = x :: (y :: l).dropLast
    rw [List.eraseIdx_cons_succ, ih]
theorem ve_pop0 {i : Nat} {o : Expr} {apos cpos : Pos} (he : PE X (.Call (.Attribute o "pop" apos) [] [] cpos) (tBM0 X.K "list" rPop (tVar i))) : VE X T (.Call (.Attribute o "pop" apos) [] [] cpos) (vPop0 i) := by
  refine ⟨PE.imp he fun σ H Q h => ?_⟩
  obtain ⟨M, R, ε, r, ε', ok, hf, post⟩ := h
  unfold vPop0 at hf
  split at hf
  · rename_i l e0
    split at hf
    · rename_i o1 ho
      cases hf
      obtain ⟨a, vs, y, c1, c2, c3, c4, M3, Fk, c5⟩ := ok.popped e0 ho
      refine ⟨_, c1, .inl ⟨rfl, vs, SqL.of c2⟩, a, vs, y, rfl, rfl, c2, by rw [c3]; exact c4, ?_⟩
      have e2 : vs.eraseIdx (l.length - 1) = vs.dropLast := by rw [← c3, eraseIdx_last]
      rw [e2] at c5
      exact post _ _ M3 Fk c5
    · cases hf
  · cases hf
/-- slot i's list gets o at k -/
theorem Ok.stored {i k : Nat} {l : List O} {o : O} {y : V} (ok : Ok K T H M (F ++ R) ε σ) (ho : RepO K H (M ++ (F ++ R)) o y F) (e : ε[i]? = some (some (.own l))) (hk : k < l.length) : ∃ a vs, σ[i]? = some (some (.ref a)) ∧ H a = some (.lst vs) ∧ vs.length = l.length ∧ a ∈ M ∧
    ∃ M3, Ok K T (L2.upd H a (.lst (vs.set k y))) M3 R (ε.set i (some (.own (l.set k o)))) σ ∧ ∀ b ∈ M3, b ∈ M ++ F := by
  obtain ⟨a, vs, F', c1, c2, c3, c4, c5, c6, c7⟩ := Ok.change (Fr := []) ok e
  obtain ⟨z, Fk, G, g1, g2, g3, g4⟩ := c4.at (List.getElem?_eq_getElem hk)
  refine ⟨a, vs, c1, c2, c4.length, c3, ?_⟩
  have nda : a ∉ F' ++ F := (List.nodup_cons.mp c5).1
  have ndF : (F' ++ F).Nodup := (List.nodup_cons.mp c5).2
  have hA : a ∈ M ++ (F ++ R) := List.mem_append_left _ c3
  have nG : a ∉ G := fun z => nda (List.mem_append_left _ (g2.mem_iff.mpr (List.mem_append_right _ z)))
  have nF : a ∉ F := fun z => nda (List.mem_append_right _ z)
  have kv : k < vs.length := by rw [c4.length]; exact hk
  obtain ⟨G', p', r'⟩ := RepOs.back (g4.upd (vs' := vs) (ws := vs.set k y) ok.tab (lists1 c2) hA nG) (ho.upd ok.tab (lists1 c2) hA nF) hk kv
  have mem : ∀ b ∈ G' ++ [], b ∈ F' ++ F := fun b hb => by
    rw [List.append_nil] at hb
    rcases List.mem_append.mp (p'.mem_iff.mp hb) with z | z
    · exact List.mem_append_right _ z
    · exact List.mem_append_left _ (g2.mem_iff.mpr (List.mem_append_right _ z))
  have nd' : (G' ++ []).Nodup := by
    rw [List.append_nil]
    refine p'.nodup_iff.mpr ?_
    have h1 := List.nodup_append.mp ndF
    have h2 := List.nodup_append.mp (g2.nodup_iff.mp h1.1)
    refine List.nodup_append.mpr ⟨h1.2.1, h2.2.1, fun x hx z hz e => ?_⟩
    subst e
    exact h1.2.2 x (g2.mem_iff.mpr (List.mem_append_right _ hz)) x hx rfl
  obtain ⟨M3, k3, s3, _⟩ := c7 (l.set k o) (vs.set k y) G' [] nd' mem r'
  exact ⟨M3, k3, s3⟩
/-- x[h] = f -/
@[simp] def sSetI (i : Nat) (h : Pl) (f : VF) : SF := fun ε => match f ε with
  | some (.o o, ε1) => match ε1[i]?, h ε1 with
    | some (some (.own l)), some (.fz (.int n)) => match ixN l.length n with
      | some k => some (.nx, ε1.set i (some (.own (l.set k o))))
      | none => none
    | _, _ => none
  | _ => none
theorem vs_setI {i : Nat} {o j e : Expr} {h : Pl} {f : VF} {pos spos : Pos} (hs : PS X (.Assign [.Subscript o j pos] e spos) (tAsg (tV X.K T f) (gSub (tVar i) (tP X.K T h) rSetL))) : VS X T P (.Assign [.Subscript o j pos] e spos) (sSetI i h f) := by
  refine ⟨PS.imp hs fun D σ H hh => ?_⟩
  obtain ⟨M, R, ε, fl, ε', ok, hf, post⟩ := hh
  unfold sSetI at hf
  split at hf
  · rename_i o1 ε1 h1
    split at hf
    · rename_i l n e1 e2
      split at hf
      · rename_i k hk
        cases hf
        refine ⟨M, R, ε, _, _, ok, h1, fun v H1 M1 F1 p1 => ?_⟩
        have p1 : Post _ T H M R ε1 σ o1 v H1 M1 F1 := p1
        obtain ⟨_, hk1, _, _⟩ := ixN_seq hk
        obtain ⟨a, vs, c1, c2, c3, c4, M3, c5, c6⟩ := p1.ok.stored p1.rep e1 hk1
        refine ⟨_, c1, M1, F1 ++ R, ε1, _, p1.ok, e2, fun w F2 r2 _ => ?_⟩
        rw [RepO, Rep] at r2
        obtain ⟨_, rfl⟩ := r2
        exact ⟨a, vs, n, k, rfl, rfl, c2, by rw [c3]; exact hk, post σ _ M3 ⟨c5, p1.stp.trans (Stp.upd (List.mem_append_left _ c4) c2 c6), .refl⟩⟩
      · cases hf
    · cases hf
  · cases hf
end
end
end VS


set_option Elab.async false
set_option linter.all false
/-! VS9: the rules where a def's body stands (its facts by one look each); the end of a law. -/
namespace VS
noncomputable section
open PySem PySem.Spec PyProof.Rows L2

/-- where a body (or a block in it) stands -/
structure CF (Pg : Program) (w : World) (K : PySem.W.Frag) (mg : Str → Option Value) (base : Heap) (N : List Str) (k : Nat) (X : Cx) (sc : Scope) (fb : Str → Bool) (cv : Value) : Prop where
  eP : X.prog = Pg
  eW : X.w = w
  eK : X.K = K
  eM : X.mg = mg
  eB : X.base = base
  eN : X.N = N
  nd : N.Nodup
  eS : X.env.scope = sc
  calm : X.calm = true
  room : Room k X.A
  xe : X.xe = fun _ _ => False
  fn : X.fn = fb
  cde : X.env.code = cv
def okName (x : Str) : Bool := !(x == ("__debug__" : Str)) && !(x == ("__classdict__" : Str)) && !(x == ("__name__" : Str))
def rdB (N : List Str) (sc : Scope) (i : Nat) (x : Str) : Bool := (N[i]? == some x) && okName x && (match sc.names.lookup x with
  | some .local => true
  | some .cell => true
  | some .free => true
  | _ => false)
def stB (N : List Str) (sc : Scope) (fb : Str → Bool) (i : Nat) (x : Str) : Bool := (N[i]? == some x) && (match sc.names.lookup x with
  | some .local => true
  | some .cell => fb x
  | _ => false)
def glB (sc : Scope) (x : Str) : Bool := okName x && (sc.names.lookup x == some .globalImplicit)
theorem okName_iff {x : Str} (h : okName x = true) : (x == ("__debug__" : Str)) = false ∧ (x == ("__classdict__" : Str)) = false ∧ x ≠ "__name__" := by
  unfold okName at h
  rw [Bool.and_eq_true, Bool.and_eq_true] at h
  refine ⟨by simpa using h.1.1, by simpa using h.1.2, by simpa using h.2⟩
section
variable {Pg : Program} {w : World} {K : PySem.W.Frag} {mg : Str → Option Value} {base : Heap} {N : List Str} {k : Nat} {X : Cx} {sc : Scope} {fb : Str → Bool} {cv : Value} {T : List TK} {P : List Nat}
theorem rdB_iff {i : Nat} {x : Str} (h : rdB N sc i x = true) : N[i]? = some x ∧ okName x = true ∧ (sc.names.lookup x = some .local ∨ sc.names.lookup x = some .cell ∨ sc.names.lookup x = some .free) := by
  unfold rdB at h
  rw [Bool.and_eq_true, Bool.and_eq_true] at h
  refine ⟨by simpa using h.1.1, h.1.2, ?_⟩
  have q := h.2
  split at q
  · exact .inl (by assumption)
  · exact .inr (.inl (by assumption))
  · exact .inr (.inr (by assumption))
  · cases q
theorem stB_iff {i : Nat} {x : Str} (h : stB N sc fb i x = true) : N[i]? = some x ∧ (sc.names.lookup x = some .local ∨ (sc.names.lookup x = some .cell ∧ fb x = true)) := by
  unfold stB at h
  rw [Bool.and_eq_true] at h
  refine ⟨by simpa using h.1, ?_⟩
  have q := h.2
  split at q
  · exact .inl (by assumption)
  · exact .inr ⟨by assumption, q⟩
  · cases q
theorem CF.hu (c : CF Pg w K mg base N k X sc fb cv) : X.A.units + 64 < cLine := c.room.units
theorem CF.gl (c : CF Pg w K mg base N k X sc fb cv) {x : Str} (h : glB sc x = true) : Gl X x ∧ okName x = true := by
  unfold glB at h
  rw [Bool.and_eq_true] at h
  refine ⟨?_, h.1⟩
  show X.env.scope.names.lookup x = some .globalImplicit
  rw [c.eS]
  simpa using h.2
theorem CF.tv (c : CF Pg w K mg base N k X sc fb cv) {i : Nat} {x : Str} {pos : Pos} (h : rdB N sc i x = true) : PE X (.Name x pos) (tVar i) := by
  obtain ⟨h1, h2, h3⟩ := rdB_iff h
  obtain ⟨o1, o2, o3⟩ := okName_iff h2
  exact pe_var (by rw [c.eN]; exact h1) (by unfold Vis; rw [c.eS]; exact h3) o1 o2
theorem CF.rd (c : CF Pg w K mg base N k X sc fb cv) {i : Nat} {x : Str} {pos : Pos} (h : rdB N sc i x = true) : VE X T (.Name x pos) (vRd i) := by
  obtain ⟨h1, h2, h3⟩ := rdB_iff h
  obtain ⟨o1, o2, o3⟩ := okName_iff h2
  exact ve_rd (by rw [c.eN]; exact h1) (by unfold Vis; rw [c.eS]; exact h3) o1 o2
theorem CF.mv (c : CF Pg w K mg base N k X sc fb cv) {i : Nat} {x : Str} {pos : Pos} (h : rdB N sc i x = true) : VE X T (.Name x pos) (vMv i) := by
  obtain ⟨h1, h2, h3⟩ := rdB_iff h
  obtain ⟨o1, o2, o3⟩ := okName_iff h2
  exact ve_mv (by rw [c.eN]; exact h1) (by unfold Vis; rw [c.eS]; exact h3) o1 o2
theorem CF.bw (c : CF Pg w K mg base N k X sc fb cv) {i : Nat} {x : Str} {pos : Pos} (h : rdB N sc i x = true) : VE X T (.Name x pos) (vBw i) := by
  obtain ⟨h1, h2, h3⟩ := rdB_iff h
  obtain ⟨o1, o2, o3⟩ := okName_iff h2
  exact ve_bw (by rw [c.eN]; exact h1) (by unfold Vis; rw [c.eS]; exact h3) o1 o2
theorem CF.pn (c : CF Pg w K mg base N k X sc fb cv) {i : Nat} {x : Str} {pos : Pos} (h : rdB N sc i x = true) : VP X T (.Name x pos) (gN i) := by
  obtain ⟨h1, h2, h3⟩ := rdB_iff h
  obtain ⟨o1, o2, o3⟩ := okName_iff h2
  exact vp_name (by rw [c.eN]; exact h1) (by unfold Vis; rw [c.eS]; exact h3) o1 o2
theorem CF.loc (c : CF Pg w K mg base N k X sc fb cv) {i : Nat} {x : Str} (h : stB N sc fb i x = true) : X.N.Nodup ∧ X.N[i]? = some x ∧ Loc X.env.scope x ∧ (X.fn x = true ∨ X.env.scope.names.lookup x = some .local) := by
  obtain ⟨h1, h2⟩ := stB_iff h
  refine ⟨by rw [c.eN]; exact c.nd, by rw [c.eN]; exact h1, ?_, ?_⟩
  · unfold L2.Loc
    rw [c.eS]
    exact h2.elim .inl fun z => .inr z.1
  · rw [c.eS, c.fn]
    exact h2.elim .inr fun z => .inl z.2
theorem CF.set (c : CF Pg w K mg base N k X sc fb cv) {i : Nat} {x : Str} {e : Expr} {f : VF} {pos pos' : Pos} (h : stB N sc fb i x = true) (hP : i ∉ P) (he : VE X T e f) (hs : swapsWith e (some (.Name x pos')) pos.line X.env = pure false := by rfl) : VS X T P (.Assign [.Name x pos'] e pos) (sSet i f) := by
  obtain ⟨h1, h2, h3, h4⟩ := c.loc h
  exact vs_set h1 h2 h3 hP he (ps_set h1 h2 h3 he.pe hs h4)
theorem CF.gn (c : CF Pg w K mg base N k X sc fb cv) {i : Nat} {x : Str} {pos : Pos} (h : stB N sc fb i x = true) (hP : i ∉ P) : VG X T P (.Name x pos) (bName i) := by
  obtain ⟨h1, h2, h3, h4⟩ := c.loc h
  exact vg_name h1 h2 h3 hP (pg_name h1 h2 h3 h4)
theorem CF.gt (c : CF Pg w K mg base N k X sc fb cv) {tgs : List Expr} {j : Nat} {pos : Pos} {bs : List BF} (h : VGs X T P tgs bs) (hn : (assignEach tgs X.env).length = bs.length := by rfl) (hst : (assignEach tgs X.env).findIdx? (·.1) = none := by rfl) : VG X T P (.Tuple tgs j pos) (bTup bs) :=
  vg_tup (pg_tup c.calm h.pg hn hst)
theorem CF.asg (c : CF Pg w K mg base N k X sc fb cv) {tg e : Expr} {f : VF} {b : BF} {pos : Pos} (he : VE X T e f) (hg : VG X T P tg b) (hs : swapsWithSole [tg] e pos.line X.env = pure false := by rfl) (hw : swappedStores [tg] e X.env = pure none := by rfl)
    (h1 : (assignEach [tg] X.env).map (·.2) = [assign tg X.env] := by rfl) : VS X T P (.Assign [tg] e pos) (sAsg f b) := vs_asg hg (ps_asg he.pe hg.pg hs hw h1)
theorem CF.for (c : CF Pg w K mg base N k X sc fb cv) {tg e : Expr} {body : List Stmt} {it : Env' → Option (List D × Env')} {b : BF} {f : SF} {pos : Pos} (hi : VI X T tg e it) (hg : VG X T P tg b) (hb : VSs X T P body f)
    (hs : ∀ x, foldedSetIterable e X.env x = pure x := by intro _; rfl) : VS X T P (.For tg e body [] pos) (sFor it b f) :=
  vs_for (by rw [c.xe]; exact PassesOwn.never) c.calm hi hg hb hs
theorem vex {e : Expr} {f : VF} {pos : Pos} (h : VE X T e f) (hs : swapsWith e none pos.line X.env = pure false := by rfl) : VS X T P (.Expr e pos) (sExpr f) := vs_expr h (ps_expr h.pe hs)
/-- a built-in's call -/
theorem CF.cb (c : CF Pg w K mg base N k X sc fb cv) {x : Str} {id : String} {p : List D → Option O} {e : Expr} {es : List Expr} {fs : List VF} {pn pos : Pos} (hc : CallR X (.builtin id) (rP X.K T p)) (hg : glB sc x = true) (hm : mg x = none) (hv : bootBuiltins x = some (.builtin id)) (ha : VA X T (e :: es) fs)
    (he : starEach (e :: es) X.env = (false, eval e X.env) :: starEach es X.env := by rfl) (hpl : (backTo pos (starEach es X.env)).any (·.1) = false := by rfl) : VE X T (.Call (.Name x pn) (e :: es) [] pos) (vPrim p fs) := by
  obtain ⟨h1, h2⟩ := c.gl hg
  obtain ⟨o1, o2, o3⟩ := okName_iff h2
  exact ve_callB hc h1 (by rw [c.eM]; exact hm) hv ha o3 o1 he hpl
theorem CF.cbp (c : CF Pg w K mg base N k X sc fb cv) {x : Str} {id : String} {p : List D → Option O} {e : Expr} {g : Pl} {pn pos : Pos} (hc : CallR X (.builtin id) (rP X.K T p)) (hg : glB sc x = true) (hm : mg x = none) (hv : bootBuiltins x = some (.builtin id)) (ha : VP X T e g)
    (he : starEach [e] X.env = (false, eval e X.env) :: starEach [] X.env := by rfl) (hpl : (backTo pos (starEach [] X.env)).any (·.1) = false := by rfl) : VE X T (.Call (.Name x pn) [e] [] pos) (vPrP p g) := by
  obtain ⟨h1, h2⟩ := c.gl hg
  obtain ⟨o1, o2, o3⟩ := okName_iff h2
  exact ve_callBP hc h1 (by rw [c.eM]; exact hm) hv ha o3 o1 he hpl
theorem CF.ct (c : CF Pg w K mg base N k X sc fb cv) {x : Str} {ty : String} {p : List D → Option O} {e : Expr} {es : List Expr} {fs : List VF} {pn pos : Pos} (hc : CallR X (.type ty) (rP X.K T p)) (hg : glB sc x = true) (hm : mg x = none) (hv : bootBuiltins x = some (.type ty)) (ha : VA X T (e :: es) fs)
    (he : starEach (e :: es) X.env = (false, eval e X.env) :: starEach es X.env := by rfl) (hpl : (backTo pos (starEach es X.env)).any (·.1) = false := by rfl) : VE X T (.Call (.Name x pn) (e :: es) [] pos) (vPrim p fs) := by
  obtain ⟨h1, h2⟩ := c.gl hg
  obtain ⟨o1, o2, o3⟩ := okName_iff h2
  exact ve_callTy hc h1 (by rw [c.eM]; exact hm) hv ha o3 o1 he hpl
theorem CF.tuple (c : CF Pg w K mg base N k X sc fb cv) {a : Expr} {f : VF} {p pos : Pos} (hg : glB sc "tuple" = true) (hm : mg "tuple" = none) (ha : VE X T a f) (na : starEach [a] X.env = (false, eval a X.env) :: starEach [] X.env := by rfl) : VE X T (.Call (.Name "tuple" p) [a] [] pos) (vUn pTuple f) :=
  ve_tuple (c.gl hg).1 (by rw [c.eM]; exact hm) ha na
theorem CF.isi (c : CF Pg w K mg base N k X sc fb cv) {a : Expr} {x : Str} {t : String} {f : VF} {p p2 pos : Pos} (hg : glB sc "isinstance" = true) (hm : mg "isinstance" = none) (hg2 : glB sc x = true) (hm2 : mg x = none) (hv : bootBuiltins x = some (.type t)) (ht : isiOk t) (ha : VE X T a f)
    (he : starEach [a, .Name x p2] X.env = (false, eval a X.env) :: starEach [.Name x p2] X.env := by rfl) (he2 : starEach [.Name x p2] X.env = (false, eval (.Name x p2) X.env) :: starEach [] X.env := by rfl) (hpl : (backTo pos (starEach [.Name x p2] X.env)).any (·.1) = false := by rfl) : VE X T (.Call (.Name "isinstance" p) [a, .Name x p2] [] pos) (vUn (pIsi t) f) := by
  obtain ⟨h1, h2⟩ := c.gl hg2
  obtain ⟨o1, o2, o3⟩ := okName_iff h2
  exact ve_isi (c.gl hg).1 (by rw [c.eM]; exact hm) h1 (by rw [c.eM]; exact hm2) hv ht ha o3 o1 he he2 hpl
theorem CF.r1 (c : CF Pg w K mg base N k X sc fb cv) {tg a : Expr} {f : VF} {p pos : Pos} (hg : glB sc "range" = true) (hm : mg "range" = none) (ha : VE X T a f) (hs : starEach [a] X.env = [(false, eval a X.env)] := by rfl) : VI X T tg (.Call (.Name "range" p) [a] [] pos) (itR1 f) :=
  vi_range1 (c.gl hg).1 (by rw [c.eM]; exact hm) (va_cons ha va_nil hs) hs
theorem CF.r2 (c : CF Pg w K mg base N k X sc fb cv) {tg a b : Expr} {f g : VF} {p pos : Pos} (hg : glB sc "range" = true) (hm : mg "range" = none) (ha : VE X T a f) (hb : VE X T b g) (hs : starEach [a, b] X.env = [(false, eval a X.env), (false, eval b X.env)] := by rfl) (hs2 : starEach [b] X.env = [(false, eval b X.env)] := by rfl) : VI X T tg (.Call (.Name "range" p) [a, b] [] pos) (itR2 f g) :=
  vi_range2 (c.gl hg).1 (by rw [c.eM]; exact hm) (va_cons ha (va_cons hb va_nil hs2) (by rw [hs, hs2])) hs hs2
/-- a def's call -/
theorem CF.call (c : CF Pg w K mg base N k X sc fb cv) {x : Str} {f : Addr} {fd : FuncData} {ps : List Str} {n j : Nat} {G : Fn} {e : Expr} {es : List Expr} {fs : List VF} {p pos : Pos} (Fk : FnOk Pg w K mg base CX0 j f fd ps (spF K T n G)) (hj : j ≤ k) (hg : glB sc x = true) (hm : mg x = some (.ref f)) (hk : PySem.W.keepIn K (.ref f) = true) (hb : L2.Binds K fd ps [])
    (ha : VA X T (e :: es) fs) (hl : fs.length = n) (he : starEach (e :: es) X.env = (false, eval e X.env) :: starEach es X.env := by rfl) (hpl : (backTo pos (starEach es X.env)).any (·.1) = false := by rfl) : VE X T (.Call (.Name x p) (e :: es) [] pos) (vCall G fs) := by
  obtain ⟨h1, h2⟩ := c.gl hg
  obtain ⟨o1, o2, o3⟩ := okName_iff h2
  obtain ⟨rfl, rfl, rfl, rfl, rfl, _, _, _, _, rm, _, _, _⟩ := c
  exact ve_call Fk (rm.mono hj) h1 hm hk hb ha hl o1 he hpl
theorem CF.callK0 (c : CF Pg w K mg base N k X sc fb cv) {x : Str} {f : Addr} {fd : FuncData} {ps ks : List Str} {n j : Nat} {G : Fn} {kws : List Keyword} {gs : List VF} {p pos : Pos} {idx : List Nat} (Fk : FnOk Pg w K mg base CX0 j f fd ps (spF K T n G)) (hj : j ≤ k) (hg : glB sc x = true) (hm : mg x = some (.ref f)) (hk : PySem.W.keepIn K (.ref f) = true)
    (hb : KBn K fd ps 0 ks (fun us ws => permL idx (us ++ ws)) (fun vs zs => permL idx (vs ++ zs))) (hkw : VK X T kws gs) (hl : ∀ l : List V, l.length = gs.length → (permL idx l).length = n) (hgl : gs.length = ks.length)
    (hall : (backToKw pos (keywordEach kws X.env)).all (·.1.isSome) = true := by rfl) (hks : (backToKw pos (keywordEach kws X.env)).filterMap (·.1) = ks := by rfl)
    (hpl : ((backTo pos (starEach [] X.env)).any (·.1) || (backToKw pos (keywordEach kws X.env)).any (·.1.isNone)) = false := by rfl) : VE X T (.Call (.Name x p) [] kws pos) (vCallD G idx gs) := by
  obtain ⟨h1, h2⟩ := c.gl hg
  obtain ⟨o1, o2, o3⟩ := okName_iff h2
  obtain ⟨rfl, rfl, rfl, rfl, rfl, _, _, _, _, rm, _, _, _⟩ := c
  exact ve_callK0 Fk (rm.mono hj) h1 hm hk hb hkw hl hgl hall hks o1 hpl
/-- a block's place -/
theorem CF.blk (c : CF Pg w K mg base N k X sc fb cv) (scope : Scope) (s : Shared) (H : Hp) (C : Addr) (cl : List (Str × Addr)) (fp : List Addr) : CF Pg w K mg base N k (X.blk s H scope (compEnvC scope cl C X.env) fp) (relS scope sc) (fun x => scope.names.lookup x == some .cell) cv := by
  refine ⟨c.eP, c.eW, c.eK, c.eM, c.eB, c.eN, c.nd, ?_, c.calm, c.room, rfl, rfl, c.cde⟩
  have := c.eS
  subst this
  rfl
theorem CF.lc (c : CF Pg w K mg base N k X sc fb cv) {elt tg iter : Expr} {ifs : List Expr} {scope : Scope} {own : List (Str × Nat)} {pos : Pos} {it : Env' → Option (List D × Env')} {b : BF} {cc : TF} {f : VF} {n : Nat} (ok : blkC N sc scope own = true) (hi : VI X T tg iter it)
    (hg : ∀ X', CF Pg w K mg base N k X' (relS scope sc) (fun x => scope.names.lookup x == some .cell) cv → VG X' T (notIn (own.map (·.2)) n) tg b) (ht : ∀ X', CF Pg w K mg base N k X' (relS scope sc) (fun x => scope.names.lookup x == some .cell) cv → VTs X' T ifs cc)
    (he : ∀ X', CF Pg w K mg base N k X' (relS scope sc) (fun x => scope.names.lookup x == some .cell) cv → VE X' T elt f) (hs : ∀ x, foldedSetIterable iter X.env x = pure x := by intro _; rfl) : VE X T (.ListComp elt [⟨tg, iter, ifs, 0⟩] scope pos) (vLc n (own.map (·.2)) it b cc f) :=
  ve_lc c.calm (by rw [c.eN]; exact c.nd) hi (by rw [c.eN, c.eS]; exact blkOk_by ok) (fun s H C cl fp => hg _ (c.blk scope s H C cl fp)) (fun s H C cl fp => ht _ (c.blk scope s H C cl fp)) (fun s H C cl fp => he _ (c.blk scope s H C cl fp)) hs
def swB (sc scope : Scope) (y : Str) (l l2 : Nat) : Bool := decide (sc.kind = .function) && (sc.names.lookup y == some .local) && (l == l2) && !(scope.names.any fun (n, k) => n == y && (k == .local || k == .cell))
theorem CF.setLc (c : CF Pg w K mg base N k X sc fb cv) {i : Nat} {y : Str} {py : Pos} {elt tg iter : Expr} {ifs : List Expr} {scope : Scope} {own : List (Str × Nat)} {pos spos : Pos} {it : Env' → Option (List D × Env')} {b : BF} {cc : TF} {f : VF} {n : Nat} (h : stB N sc fb i y = true) (hP : i ∉ P) (hsw : swB sc scope y py.line pos.line = true) (ok : blkC N sc scope own = true) (hi : VI X T tg iter it)
    (hg : ∀ X', CF Pg w K mg base N k X' (relS scope sc) (fun x => scope.names.lookup x == some .cell) cv → VG X' T (notIn (own.map (·.2)) n) tg b) (ht : ∀ X', CF Pg w K mg base N k X' (relS scope sc) (fun x => scope.names.lookup x == some .cell) cv → VTs X' T ifs cc)
    (he : ∀ X', CF Pg w K mg base N k X' (relS scope sc) (fun x => scope.names.lookup x == some .cell) cv → VE X' T elt f) (hs : ∀ x, foldedSetIterable iter X.env x = pure x := by intro _; rfl) : VS X T P (.Assign [.Name y py] (.ListComp elt [⟨tg, iter, ifs, 0⟩] scope pos) spos) (sSet i (vLc n (own.map (·.2)) it b cc f)) := by
  obtain ⟨h1, h2, h3, h4⟩ := c.loc h
  unfold swB at hsw
  rw [Bool.and_eq_true, Bool.and_eq_true, Bool.and_eq_true] at hsw
  obtain ⟨⟨⟨s1, s2⟩, s3⟩, s4⟩ := hsw
  have hyl : X.env.scope.names.lookup y = some .local := by rw [c.eS]; simpa using s2
  refine vs_setLc c.calm h1 h2 hyl h3 hP (sw_true (by rw [c.eS]; exact of_decide_eq_true s1) hyl s3 (by simpa using s4)) hi (by rw [c.eN, c.eS]; exact blkOk_by ok) (fun s H C cl fp => hg _ (c.blk scope s H C cl fp)) (fun s H C cl fp => ht _ (c.blk scope s H C cl fp)) (fun s H C cl fp => he _ (c.blk scope s H C cl fp)) hs
/-- y = [..] where the block's own store is no swap: y is a cell -/
def swN (sc : Scope) (y : Str) : Bool := !(sc.names.lookup y == some .local)
theorem CF.setLcN (c : CF Pg w K mg base N k X sc fb cv) {i : Nat} {y : Str} {py : Pos} {elt : Expr} {gens : List Comprehension} {scope : Scope} {pos spos : Pos} {f : VF} (h : stB N sc fb i y = true) (hP : i ∉ P) (hsw : swN sc y = true) (he : VE X T (.ListComp elt gens scope pos) f) : VS X T P (.Assign [.Name y py] (.ListComp elt gens scope pos) spos) (sSet i f) := by
  refine c.set h hP he ?_
  have e : (X.env.kindOf y == some .local) = false := by
    show (X.env.scope.names.lookup y == some .local) = false
    rw [c.eS]
    simpa [swN] using hsw
  unfold swapsWith
  simp only [e]
  simp
theorem CF.app (c : CF Pg w K mg base N k X sc fb cv) {i : Nat} {x : Str} {e : Expr} {f : VF} {np apos cpos : Pos} (h : rdB N sc i x = true) (he : VE X T e f) (hs : starEach [e] X.env = (false, eval e X.env) :: starEach [] X.env := by rfl) (hbase : attributeBase (.Name x np) "append" X.env (eval (.Name x np) X.env) = eval (.Name x np) X.env := by rfl)
    (hfew : ((backTo cpos (starEach [e] X.env)).all (fun x => !x.1) && (backToKw cpos (keywordEach [] X.env)).all (fun x => x.1.isSome) && decide (([e] : List Expr).length + ([] : List Keyword).length + (if ([] : List Keyword).isEmpty then 0 else 1) < 30)) = true := by rfl)
    (hline : (apos.endLine == cpos.line) = true := by rfl) (hplain : (backTo cpos (starEach [] X.env)).any (·.1) = false := by rfl) : VE X T (.Call (.Attribute (.Name x np) "append" apos) [e] [] cpos) (vApp i f) :=
  ve_app (x := x) (c.tv h) (pe_bm PySem.F.plainAttrs_list PySem.F.slot_list_append PySem.F.type_list_append mt_append (c.tv h) (va_cons he va_nil hs).pa hbase hfew hline hs hplain)
theorem CF.pop (c : CF Pg w K mg base N k X sc fb cv) {i : Nat} {x : Str} {e : Expr} {f : VF} {np apos cpos : Pos} (h : rdB N sc i x = true) (he : VE X T e f) (hs : starEach [e] X.env = (false, eval e X.env) :: starEach [] X.env := by rfl) (hbase : attributeBase (.Name x np) "pop" X.env (eval (.Name x np) X.env) = eval (.Name x np) X.env := by rfl)
    (hfew : ((backTo cpos (starEach [e] X.env)).all (fun x => !x.1) && (backToKw cpos (keywordEach [] X.env)).all (fun x => x.1.isSome) && decide (([e] : List Expr).length + ([] : List Keyword).length + (if ([] : List Keyword).isEmpty then 0 else 1) < 30)) = true := by rfl)
    (hline : (apos.endLine == cpos.line) = true := by rfl) (hplain : (backTo cpos (starEach [] X.env)).any (·.1) = false := by rfl) : VE X T (.Call (.Attribute (.Name x np) "pop" apos) [e] [] cpos) (vPop i f) :=
  ve_pop (pe_bm PySem.F.plainAttrs_list PySem.F.slot_list_pop PySem.F.type_list_pop mt_popAt (c.tv h) (va_cons he va_nil hs).pa hbase hfew hline hs hplain)
theorem CF.setI (c : CF Pg w K mg base N k X sc fb cv) {i : Nat} {x : Str} {j e : Expr} {g : Pl} {f : VF} {np pos spos : Pos} (h : rdB N sc i x = true) (hj : VP X T j g) (he : VE X T e f)
    (ha : ∀ v, assign (.Subscript (.Name x np) j pos) X.env v = (do
      let ov ← holding [v] (eval (.Name x np) X.env)
      let iv ← holding [v, ov] (eval j X.env)
      standAt pos
      holding [v, ov, iv] (setItem ov iv v)
      release [v, ov, iv] []) := by intro _; rfl)
    (hs : swapsWithSole [.Subscript (.Name x np) j pos] e spos.line X.env = pure false := by rfl) (hw : swappedStores [.Subscript (.Name x np) j pos] e X.env = pure none := by rfl)
    (h1 : (assignEach [.Subscript (.Name x np) j pos] X.env).map (·.2) = [assign (.Subscript (.Name x np) j pos) X.env] := by rfl) : VS X T P (.Assign [.Subscript (.Name x np) j pos] e spos) (sSetI i g f) :=
  vs_setI (ps_asg he.pe (pg_sub (c.tv h) hj.pe set_list ha) hs hw h1)
end
end
end VS


set_option Elab.async false
set_option linter.all false
/-! VS10: lists in lists changed; several names stored at once; the end of a law. -/
namespace VS
noncomputable section
open PySem PySem.Spec PyProof.Rows L2
section
variable {K : PySem.W.Frag} {T : List TK} {P : List Nat} {H H' H'' : Hp} {M M' M'' R R' F F' A A' : List Addr} {ε ε' : Env'} {σ σ' σ'' : L2.St} {X : Cx}

theorem Ok.change2 {i j : Nat} {l l2 : List O} (k : Ok K T H M (F ++ R) ε σ) (e : ε[i]? = some (some (.own l))) (hj : l[j]? = some (.own l2)) : ∃ a vs a2 vs2 F2, σ[i]? = some (some (.ref a)) ∧ H a = some (.lst vs) ∧ vs.length = l.length ∧ vs[j]? = some (.ref a2) ∧ H a2 = some (.lst vs2) ∧ a2 ∈ M ∧ RepOs K H (M ++ (F ++ R)) l2 vs2 F2 ∧ (a2 :: (F2 ++ F)).Nodup ∧ (∀ b ∈ F2, b ∈ M) ∧
    ∀ l' vs' G Fr, (G ++ Fr).Nodup → (∀ b ∈ G ++ Fr, b ∈ F2 ++ F) → RepOs K (L2.upd H a2 (.lst vs')) (M ++ (F ++ R)) l' vs' G → ∃ M3, Ok K T (L2.upd H a2 (.lst vs')) M3 (Fr ++ R) (ε.set i (some (.own (l.set j (.own l'))))) σ ∧ (∀ b ∈ M3, b ∈ M ++ F) ∧ (∀ b ∈ M3, b ∉ Fr) := by
  obtain ⟨v, Fi, M1, h1, h2, h3, h4⟩ := k.take e
  have h3' := h3
  rw [RepO] at h3'
  obtain ⟨a, vs, F', rfl, ha, rfl, rl⟩ := h3'
  obtain ⟨y, Fk, G0, g1, g2, g3, g4⟩ := rl.at hj
  have g3' := g3
  rw [RepO] at g3'
  obtain ⟨a2, vs2, F2, rfl, ha2, rfl, r2⟩ := g3'
  have hjl : j < l.length := (List.getElem?_eq_some_iff.mp hj).1
  have hjv : j < vs.length := by rw [rl.length]; exact hjl
  have nd4 : ((a :: F') ++ (F ++ R)).Nodup := (List.nodup_append.mp h4.nd).2.1
  have inM : ∀ b ∈ a :: F', b ∈ M := fun b hb => h2.mem_iff.mpr (List.mem_append_left _ hb)
  have inF' : ∀ b ∈ (a2 :: F2) ++ G0, b ∈ F' := fun b hb => g2.mem_iff.mpr hb
  have ndF' : ((a2 :: F2) ++ G0).Nodup := g2.nodup_iff.mp (List.nodup_cons.mp (List.nodup_append.mp nd4).1).2
  have naF' : a ∉ F' := (List.nodup_cons.mp (List.nodup_append.mp nd4).1).1
  have a2F' : a2 ∈ F' := inF' a2 (List.mem_append_left _ List.mem_cons_self)
  have nea : a ≠ a2 := fun z => naF' (z ▸ a2F')
  have disF : ∀ b ∈ F', b ∉ F := fun b hb z => (List.nodup_append.mp nd4).2.2 b (List.mem_cons_of_mem _ hb) b (List.mem_append_left _ z) rfl
  have ndFR : (F ++ R).Nodup := (List.nodup_append.mp nd4).2.1
  refine ⟨a, vs, a2, vs2, F2, h1, ha, rl.length, g1, ha2, inM a2 (List.mem_cons_of_mem _ a2F'), r2, ?_, fun b hb => inM b (List.mem_cons_of_mem _ (inF' b (List.mem_append_left _ (List.mem_cons_of_mem _ hb)))), fun l' vs' G Fr hn hs hr => ?_⟩
  · refine List.nodup_cons.mpr ⟨fun z => ?_, List.nodup_append.mpr ⟨(List.nodup_cons.mp (List.nodup_append.mp ndF').1).2, (List.nodup_append.mp ndFR).1, fun x hx z hz e => ?_⟩⟩
    · rcases List.mem_append.mp z with z | z
      · exact (List.nodup_cons.mp (List.nodup_append.mp ndF').1).1 z
      · exact disF a2 a2F' z
    · subst e
      exact disF x (inF' x (List.mem_append_left _ (List.mem_cons_of_mem _ hx))) hz
  · have k5 : Ok K T (L2.upd H a2 (.lst vs')) M1 ((a :: F') ++ (F ++ R)) (ε.set i none) σ := h4.upd (List.mem_append_left _ (List.mem_cons_of_mem _ a2F'))
    have na2G0 : a2 ∉ G0 := fun z => (List.nodup_append.mp ndF').2.2 a2 List.mem_cons_self a2 z rfl
    have hAA : a2 ∈ M ++ (F ++ R) := List.mem_append_left _ (inM a2 (List.mem_cons_of_mem _ a2F'))
    have r4 := g4.upd (vs' := vs) (ws := vs') k.tab (lists1 ha2) hAA na2G0
    have ro : RepO K (L2.upd H a2 (.lst vs')) (M ++ (F ++ R)) (.own l') (.ref a2) (a2 :: G) := by
      rw [RepO]
      exact ⟨a2, vs', G, rfl, upd_same, rfl, hr⟩
    obtain ⟨G', p', r'⟩ := RepOs.back r4 ro hjl hjv
    rw [set_back g1] at r'
    have m1 : ∀ b ∈ G', b = a2 ∨ b ∈ G ∨ b ∈ G0 := fun b hb => by
      rcases List.mem_append.mp (p'.mem_iff.mp hb) with z | z
      · exact (List.mem_cons.mp z).elim .inl fun z => .inr (.inl z)
      · exact .inr (.inr z)
    have inS : ∀ b ∈ G ++ Fr, b ∈ F' ∨ b ∈ F := fun b hb => (List.mem_append.mp (hs b hb)).elim (fun z => .inl (inF' b (List.mem_append_left _ (List.mem_cons_of_mem _ z)))) .inr
    have na2S : ∀ b ∈ G ++ Fr, b ≠ a2 := fun b hb z => by
      subst z
      rcases List.mem_append.mp (hs b hb) with z | z
      · exact (List.nodup_cons.mp (List.nodup_append.mp ndF').1).1 z
      · exact disF b a2F' z
    have nG0S : ∀ b ∈ G ++ Fr, b ∉ G0 := fun b hb z => by
      rcases List.mem_append.mp (hs b hb) with y | y
      · exact (List.nodup_append.mp ndF').2.2 b (List.mem_cons_of_mem _ y) b z rfl
      · exact disF b (inF' b (List.mem_append_right _ z)) y
    have sub : ∀ b ∈ (a :: G') ++ (Fr ++ R), b ∈ (a :: F') ++ (F ++ R) := fun b hb => by
      rcases List.mem_append.mp hb with z | z
      · rcases List.mem_cons.mp z with rfl | z
        · exact List.mem_append_left _ List.mem_cons_self
        · rcases m1 b z with rfl | z | z
          · exact List.mem_append_left _ (List.mem_cons_of_mem _ a2F')
          · rcases inS b (List.mem_append_left _ z) with z | z
            · exact List.mem_append_left _ (List.mem_cons_of_mem _ z)
            · exact List.mem_append_right _ (List.mem_append_left _ z)
          · exact List.mem_append_left _ (List.mem_cons_of_mem _ (inF' b (List.mem_append_right _ z)))
      · rcases List.mem_append.mp z with z | z
        · rcases inS b (List.mem_append_right _ z) with z | z
          · exact List.mem_append_left _ (List.mem_cons_of_mem _ z)
          · exact List.mem_append_right _ (List.mem_append_left _ z)
        · exact List.mem_append_right _ (List.mem_append_right _ z)
    have ndG' : (G' ++ Fr).Nodup := by
      have hn' := List.nodup_append.mp hn
      refine List.nodup_append.mpr ⟨p'.nodup_iff.mpr (List.nodup_append.mpr ⟨List.nodup_cons.mpr ⟨fun z => na2S a2 (List.mem_append_left _ z) rfl, hn'.1⟩, (List.nodup_append.mp ndF').2.1, fun x hx z hz e => ?_⟩), hn'.2.1, fun x hx z hz e => ?_⟩
      · subst e
        rcases List.mem_cons.mp hx with rfl | hx
        · exact na2G0 hz
        · exact nG0S x (List.mem_append_left _ hx) hz
      · subst e
        rcases m1 x hx with rfl | y | y
        · exact na2S x (List.mem_append_right _ hz) rfl
        · exact hn'.2.2 x y x hz rfl
        · exact nG0S x (List.mem_append_right _ hz) y
    have ndR : ((a :: G') ++ (Fr ++ R)).Nodup := by
      have q1 := List.nodup_append.mp nd4
      show (a :: (G' ++ (Fr ++ R))).Nodup
      rw [← List.append_assoc]
      refine List.nodup_cons.mpr ⟨fun z => ?_, List.nodup_append.mpr ⟨ndG', (List.nodup_append.mp ndFR).2.1, fun x hx y hy e => ?_⟩⟩
      · rcases List.mem_append.mp z with z | z
        · rcases List.mem_append.mp z with z | z
          · rcases m1 a z with z | z | z
            · exact nea z
            · rcases inS a (List.mem_append_left _ z) with z | z
              · exact naF' z
              · exact q1.2.2 a List.mem_cons_self a (List.mem_append_left _ z) rfl
            · exact naF' (inF' a (List.mem_append_right _ z))
          · rcases inS a (List.mem_append_right _ z) with z | z
            · exact naF' z
            · exact q1.2.2 a List.mem_cons_self a (List.mem_append_left _ z) rfl
        · exact q1.2.2 a List.mem_cons_self a (List.mem_append_right _ z) rfl
      · subst e
        have fromF' : x ∈ F' → False := fun z => q1.2.2 x (List.mem_cons_of_mem _ z) x (List.mem_append_right _ hy) rfl
        have fromF : x ∈ F → False := fun z => (List.nodup_append.mp ndFR).2.2 x z x hy rfl
        rcases List.mem_append.mp hx with z | z
        · rcases m1 x z with rfl | z | z
          · exact fromF' a2F'
          · exact (inS x (List.mem_append_left _ z)).elim fromF' fromF
          · exact fromF' (inF' x (List.mem_append_right _ z))
        · exact (inS x (List.mem_append_right _ z)).elim fromF' fromF
    have k6 : Ok K T (L2.upd H a2 (.lst vs')) M1 ((a :: G') ++ (Fr ++ R)) (ε.set i none) σ := k5.other sub ndR
    have memA : ∀ b ∈ M1 ++ ((a :: G') ++ (Fr ++ R)), b ∈ M ++ (F ++ R) := fun b hb => by
      rcases List.mem_append.mp hb with z | z
      · exact List.mem_append_left _ (h2.mem_iff.mpr (List.mem_append_right _ z))
      · rcases List.mem_append.mp (sub b z) with z | z
        · exact List.mem_append_left _ (inM b z)
        · exact List.mem_append_right _ z
    obtain ⟨M3, p3, k7⟩ := k6.put' (o := .own (l.set j (.own l'))) (v := .ref a) (by
      rw [RepO]
      exact ⟨a, vs, G', rfl, by rw [upd_ne nea]; exact ha, rfl, r'.anti memA _ _ _⟩) h1
    refine ⟨M3, k7, fun b hb => ?_, fun b hb z => k7.apart (List.mem_append_left _ z) hb⟩
    rcases List.mem_append.mp (p3.mem_iff.mp hb) with z | z
    · rcases List.mem_cons.mp z with rfl | z
      · exact List.mem_append_left _ (inM _ List.mem_cons_self)
      · rcases m1 b z with rfl | z | z
        · exact List.mem_append_left _ (inM _ (List.mem_cons_of_mem _ a2F'))
        · exact (inS b (List.mem_append_left _ z)).elim (fun z => List.mem_append_left _ (inM b (List.mem_cons_of_mem _ z))) fun z => List.mem_append_right _ z
        · exact List.mem_append_left _ (inM b (List.mem_cons_of_mem _ (inF' b (List.mem_append_right _ z))))
    · exact List.mem_append_left _ (h2.mem_iff.mpr (List.mem_append_right _ z))

/-- x[h].pop(g) -/
@[simp] def vPop2 (i : Nat) (h g : Pl) : VF := fun ε => match ε[i]?, h ε, g ε with
  | some (some (.own l)), some (.fz (.int n)), some (.fz (.int m)) => match ixN l.length n with
    | some k => match l[k]? with
      | some (.own l2) => if room l2.length then match ixN l2.length m with
          | some j => match l2[j]? with
            | some o => some (.o o, ε.set i (some (.own (l.set k (.own (l2.eraseIdx j))))))
            | none => none
          | none => none
        else none
      | _ => none
    | none => none
  | _, _, _ => none
theorem ve_pop2 {i : Nat} {o e : Expr} {h g : Pl} {apos cpos : Pos} (he : PE X (.Call (.Attribute o "pop" apos) [e] [] cpos) (tBM X.K "list" rPopAt (tOp (rIxL X.K) (tVar i) (tP X.K T h)) (tCons (tP X.K T g) tNil))) : VE X T (.Call (.Attribute o "pop" apos) [e] [] cpos) (vPop2 i h g) := by
  refine ⟨PE.imp he fun σ H Q hh => ?_⟩
  obtain ⟨M, R, ε, r, ε', ok, hf, post⟩ := hh
  unfold vPop2 at hf
  split at hf
  · rename_i l n m e1 e2 e3
    split at hf
    · rename_i k hk
      split at hf
      · rename_i l2 hl2
        split at hf
        · rename_i hr
          split at hf
          · rename_i j hj
            split at hf
            · rename_i o1 ho
              cases hf
              obtain ⟨a, vs, a2, vs2, F2, c1, c2, c3, c4, c5, c6, c7, c8, c9, c10⟩ := Ok.change2 (F := []) ok e1 hl2
              refine ⟨_, c1, M, R, ε, _, ok, e2, fun w Fw rw_ _ => ?_⟩
              rw [RepO, Rep] at rw_
              obtain ⟨_, rfl⟩ := rw_
              refine ⟨a, vs, n, .ref a2, rfl, rfl, SqL.of c2, atI_of hk c3 c4, .inl ⟨rfl, vs2, SqL.of c5⟩, M, R, ε, _, ok, e3, fun w2 Fw2 rw2 _ => ?_⟩
              rw [RepO, Rep] at rw2
              obtain ⟨_, rfl⟩ := rw2
              obtain ⟨y, Fk, G, g1, g2, g3, g4⟩ := c7.at ho
              obtain ⟨b1, b2, b3, b4⟩ := ixN_63 hj hr
              have nda : a2 ∉ F2 := fun z => (List.nodup_cons.mp c8).1 (List.mem_append_left _ z)
              have ndF : F2.Nodup := by
                have := (List.nodup_cons.mp c8).2
                rw [List.append_nil] at this
                exact this
              have hA : a2 ∈ M ++ ([] ++ R) := List.mem_append_left _ c6
              have nG : a2 ∉ G := fun z => nda (g2.mem_iff.mpr (List.mem_append_right _ z))
              have nK : a2 ∉ Fk := fun z => nda (g2.mem_iff.mpr (List.mem_append_left _ z))
              obtain ⟨M3, k3, s3, s4⟩ := c10 (l2.eraseIdx j) (vs2.eraseIdx j) G Fk ((g2.trans List.perm_append_comm).nodup_iff.mp ndF) (fun b hb => by
                rw [List.append_nil]
                exact (g2.trans List.perm_append_comm).mem_iff.mpr hb) (g4.upd (vs' := vs2) ok.tab (lists1 c5) hA nG)
              have inM : ∀ b ∈ M3 ++ Fk, b ∈ M := fun b hb => (List.mem_append.mp hb).elim (fun z => by simpa using s3 b z) fun z => c9 b (g2.mem_iff.mpr (List.mem_append_left _ z))
              refine ⟨a2, vs2, m, j, y, rfl, rfl, c5, b1, b2, by rw [c7.length]; exact b3, g1, post _ _ M3 Fk ⟨k3, Stp.upd c6 c5 inM, (g3.upd ok.tab (lists1 c5) hA nK).anti (fun b hb => ?_) _ _ _⟩⟩
              rcases List.mem_append.mp hb with z | z
              · exact List.mem_append_left _ (inM b (List.mem_append_left _ z))
              · rcases List.mem_append.mp z with z | z
                · exact List.mem_append_left _ (inM b (List.mem_append_right _ z))
                · exact List.mem_append_right _ z
            · cases hf
          · cases hf
        · cases hf
      · cases hf
    · cases hf
  · cases hf
/-- x[h1][h2] = f -/
@[simp] def sSetI2 (i : Nat) (h g : Pl) (f : VF) : SF := fun ε => match f ε with
  | some (.o o, ε1) => match ε1[i]?, h ε1, g ε1 with
    | some (some (.own l)), some (.fz (.int n)), some (.fz (.int m)) => match ixN l.length n with
      | some k => match l[k]? with
        | some (.own l2) => match ixN l2.length m with
          | some j => some (.nx, ε1.set i (some (.own (l.set k (.own (l2.set j o))))))
          | none => none
        | _ => none
      | none => none
    | _, _, _ => none
  | _ => none
theorem vs_setI2 {i : Nat} {o j e : Expr} {h g : Pl} {f : VF} {pos spos : Pos} (hs : PS X (.Assign [.Subscript o j pos] e spos) (tAsg (tV X.K T f) (gSub (tOp (rIxL X.K) (tVar i) (tP X.K T h)) (tP X.K T g) rSetL))) : VS X T P (.Assign [.Subscript o j pos] e spos) (sSetI2 i h g f) := by
  refine ⟨PS.imp hs fun D σ H hh => ?_⟩
  obtain ⟨M, R, ε, fl, ε', ok, hf, post⟩ := hh
  unfold sSetI2 at hf
  split at hf
  · rename_i o1 ε1 h1
    split at hf
    · rename_i l n m e1 e2 e3
      split at hf
      · rename_i k hk
        split at hf
        · rename_i l2 hl2
          split at hf
          · rename_i j2 hj
            cases hf
            refine ⟨M, R, ε, _, _, ok, h1, fun v H1 M1 F1 p1 => ?_⟩
            have p1 : Post _ T H M R ε1 σ o1 v H1 M1 F1 := p1
            obtain ⟨a, vs, a2, vs2, F2, c1, c2, c3, c4, c5, c6, c7, c8, c9, c10⟩ := Ok.change2 p1.ok e1 hl2
            refine ⟨_, c1, M1, F1 ++ R, ε1, _, p1.ok, e2, fun w Fw rw_ _ => ?_⟩
            rw [RepO, Rep] at rw_
            obtain ⟨_, rfl⟩ := rw_
            refine ⟨a, vs, n, .ref a2, rfl, rfl, SqL.of c2, atI_of hk c3 c4, M1, F1 ++ R, ε1, _, p1.ok, e3, fun w2 Fw2 rw2 _ => ?_⟩
            rw [RepO, Rep] at rw2
            obtain ⟨_, rfl⟩ := rw2
            obtain ⟨_, hj1, _, _⟩ := ixN_seq hj
            obtain ⟨z, Fk, G, g1, g2, g3, g4⟩ := c7.at (List.getElem?_eq_getElem hj1)
            have nda : a2 ∉ F2 ++ F1 := (List.nodup_cons.mp c8).1
            have ndF : (F2 ++ F1).Nodup := (List.nodup_cons.mp c8).2
            have hA : a2 ∈ M1 ++ (F1 ++ R) := List.mem_append_left _ c6
            have nG : a2 ∉ G := fun z => nda (List.mem_append_left _ (g2.mem_iff.mpr (List.mem_append_right _ z)))
            have nF : a2 ∉ F1 := fun z => nda (List.mem_append_right _ z)
            have kv : j2 < vs2.length := by rw [c7.length]; exact hj1
            obtain ⟨G', p', r'⟩ := RepOs.back (g4.upd (vs' := vs2) (ws := vs2.set j2 v) p1.ok.tab (lists1 c5) hA nG) (p1.rep.upd p1.ok.tab (lists1 c5) hA nF) hj1 kv
            have mem : ∀ b ∈ G' ++ [], b ∈ F2 ++ F1 := fun b hb => by
              rw [List.append_nil] at hb
              rcases List.mem_append.mp (p'.mem_iff.mp hb) with z | z
              · exact List.mem_append_right _ z
              · exact List.mem_append_left _ (g2.mem_iff.mpr (List.mem_append_right _ z))
            have nd' : (G' ++ []).Nodup := by
              rw [List.append_nil]
              refine p'.nodup_iff.mpr ?_
              have h1 := List.nodup_append.mp ndF
              have h2 := List.nodup_append.mp (g2.nodup_iff.mp h1.1)
              refine List.nodup_append.mpr ⟨h1.2.1, h2.2.1, fun x hx z hz e => ?_⟩
              subst e
              exact h1.2.2 x (g2.mem_iff.mpr (List.mem_append_right _ hz)) x hx rfl
            obtain ⟨M3, k3, s3, _⟩ := c10 (l2.set j2 o1) (vs2.set j2 v) G' [] nd' mem r'
            exact ⟨a2, vs2, m, j2, rfl, rfl, c5, by rw [c7.length]; exact hj, post σ _ M3 ⟨k3, p1.stp.trans (Stp.upd (List.mem_append_left _ c6) c5 s3), .refl⟩⟩
          · cases hf
        · cases hf
      · cases hf
    · cases hf
  · cases hf

/-! ### several names at once -/
@[simp] def setAll : List Nat → List O → Env' → Option Env'
  | [], [], ε => some ε
  | i :: is, o :: os, ε => if i < ε.length then setAll is os (ε.set i (some o)) else none
  | _, _, _ => none
def setAllV : List Nat → List V → L2.St → L2.St
  | i :: is, v :: vs, σ => setAllV is vs (σ.set i (some v))
  | _, _, σ => σ
/-- a, b = e1, e2 -/
@[simp] def sPar (is : List Nat) (fs : List VF) : SF := fun ε => match evs fs ε with
  | some (rs, ε1) => match allO rs with
    | some os => if room os.length then match setAll is os ε1 with
        | some ε2 => some (.nx, ε2)
        | none => none
      else none
    | none => none
  | none => none
theorem setAll_ok : ∀ {is : List Nat} {os : List O} {vs : List V} {F M : List Addr} {ε ε' : Env'} {σ : L2.St}, Ok K T H M (F ++ R) ε σ → RepOs K H A os vs F → (∀ a ∈ M ++ (F ++ R), a ∈ A) → setAll is os ε = some ε' → (∀ i ∈ is, i ∉ P) → ∃ M', Ok K T H M' R ε' (setAllV is vs σ) ∧ (∀ a ∈ M', a ∈ M ++ F) ∧ Same' P σ (setAllV is vs σ)
  | [], [], vs, F, M, ε, ε', σ, ok, h, hA, e, _ => by
    cases e
    rw [RepOs] at h
    obtain ⟨rfl, rfl⟩ := h
    exact ⟨M, ok, fun a h => List.mem_append_left _ h, .refl⟩
  | [], o :: os, vs, F, M, ε, ε', σ, ok, h, hA, e, _ => by cases e
  | i :: is, [], vs, F, M, ε, ε', σ, ok, h, hA, e, _ => by cases e
  | i :: is, o :: os, vs, F, M, ε, ε', σ, ok, h, hA, e, hP => by
    rw [setAll] at e
    split at e
    · rename_i hl
      rw [RepOs] at h
      obtain ⟨v, r, F1, F2, rfl, rfl, h1, h2⟩ := h
      rw [List.append_assoc] at ok
      obtain ⟨M1, s1, k1⟩ := ok.setNone i
      have memA : ∀ a ∈ M1 ++ (F1 ++ (F2 ++ R)), a ∈ A := fun a ha => hA a (by
        rw [List.append_assoc]
        exact (List.mem_append.mp ha).elim (fun z => List.mem_append_left _ (s1 a z)) fun z => List.mem_append_right _ z)
      obtain ⟨M2, p2, k2⟩ := k1.put (i := i) (h1.anti memA _ _ _) hl
      have m2 : ∀ a ∈ M2, a ∈ M ++ F1 := fun a ha => (List.mem_append.mp (p2.mem_iff.mp ha)).elim (fun z => List.mem_append_right _ z) fun z => List.mem_append_left _ (s1 a z)
      obtain ⟨M3, k3, s3, q3⟩ := setAll_ok k2 h2 (fun a ha => hA a (by
        rcases List.mem_append.mp ha with z | z
        · rcases List.mem_append.mp (m2 a z) with z | z
          · exact List.mem_append_left _ z
          · exact List.mem_append_right _ (List.mem_append_left _ (List.mem_append_left _ z))
        · rcases List.mem_append.mp z with z | z
          · exact List.mem_append_right _ (List.mem_append_left _ (List.mem_append_right _ z))
          · exact List.mem_append_right _ (List.mem_append_right _ z))) e fun j hj => hP j (List.mem_cons_of_mem _ hj)
      refine ⟨M3, k3, fun a ha => ?_, (Same'.set (hP i List.mem_cons_self)).trans q3⟩
      rcases List.mem_append.mp (s3 a ha) with z | z
      · rcases List.mem_append.mp (m2 a z) with z | z
        · exact List.mem_append_left _ z
        · exact List.mem_append_right _ (List.mem_append_left _ z)
      · exact List.mem_append_right _ (List.mem_append_right _ z)
    · cases e
def gNm : List Nat → TGs
  | [] => gNil
  | i :: is => gCons (gName i) (gNm is)
theorem gNm_of : ∀ {is : List Nat} {vs : List V} {σ : L2.St} {H : Hp} {Q : L2.St → Hp → Prop}, vs.length = is.length → Q (setAllV is vs σ) H → gNm is vs σ H Q
  | [], [], σ, H, Q, _, q => ⟨rfl, q⟩
  | i :: is, v :: vs, σ, H, Q, hl, q => ⟨v, vs, rfl, gNm_of (by simpa using hl) q⟩
  | [], v :: vs, σ, H, Q, hl, q => by simp at hl
  | i :: is, [], σ, H, Q, hl, q => by simp at hl
theorem setAll_len : ∀ {is : List Nat} {os : List O} {ε ε' : Env'}, setAll is os ε = some ε' → os.length = is.length
  | [], [], ε, ε', _ => rfl
  | i :: is, o :: os, ε, ε', h => by
    rw [setAll] at h
    split at h
    · rw [List.length_cons, List.length_cons, setAll_len h]
    · cases h
  | [], o :: os, ε, ε', h => by cases h
  | i :: is, [], ε, ε', h => by cases h
/-- the stores, behind the values -/
theorem sPar_of {is : List Nat} {fs : List VF} {D : Ends} {H : Hp} (hP : ∀ i ∈ is, i ∉ P) (h : tS K T P (sPar is fs) D σ H) : chain K T fs σ H fun vs H1 => vs.length = is.length ∧ vs.length ≤ sizeLine ∧ ∀ H2, Same H1 H2 → D.nx (setAllV is vs σ) H2 := by
  obtain ⟨M, R, ε, fl, ε', ok, hf, post⟩ := h
  unfold sPar at hf
  split at hf
  · rename_i rs ε1 h1
    split at hf
    · rename_i os h2
      split at hf
      · rename_i hr
        split at hf
        · rename_i ε2 h3
          cases hf
          refine chain_of ok h1 fun vs H1 M1 F1 p => ?_
          have ho := Held.all p.rep h2
          refine ⟨ho.length.trans (setAll_len h3), by rw [ho.length]; exact room_line hr, fun H2 sm => ?_⟩
          have ok2 := p.ok.same sm
          have ho2 : RepOs K H2 (M1 ++ (F1 ++ R)) os vs F1 := ho.mono (T := T) (M := []) (Keep.ofSame sm) p.ok.tab .nil (fun a h => by cases h) (fun a h => .inl h) _ _ _ fun a _ z => by cases z
          obtain ⟨M3, k3, s3, q3⟩ := setAll_ok ok2 ho2 (fun a h => h) h3 hP
          exact post _ H2 M3 ⟨k3, (p.stp.trans (Stp.ofSame sm)).less s3, q3⟩
        · cases hf
      · cases hf
    · cases hf
  · cases hf
theorem vs_par {tgs es : List Expr} {is : List Nat} {fs : List VF} {k1 k2 : Nat} {p1 p2 pos : Pos} (hP : ∀ i ∈ is, i ∉ P) (hs : PS X (.Assign [.Tuple tgs k1 p1] (.Tuple es k2 p2) pos) (tAsg (tTup (fun σ H Q => chain X.K T fs σ H Q)) (gTup X.K is.length (gNm is)))) : VS X T P (.Assign [.Tuple tgs k1 p1] (.Tuple es k2 p2) pos) (sPar is fs) := by
  refine ⟨PS.imp hs fun D σ H h => chain_mono (sPar_of hP h) fun vs H1 q => ⟨q.2.1, fun p hp => ⟨p, vs, rfl, SqT.of upd_same, q.1, gNm_of q.1 (q.2.2 _ fun b o e => by rw [upd_ne (ne_of_none e hp)]; exact e)⟩⟩⟩
theorem vs_par2 {x y : Str} {px py pt pt2 pos : Pos} {kt k2 : Nat} {a b : Expr} {i j : Nat} {f g : VF} (hP : ∀ k ∈ [i, j], k ∉ P) (hs : PS X (.Assign [.Tuple [.Name x px, .Name y py] kt pt] (.Tuple [a, b] k2 pt2) pos) (tPar i j (fun σ H Q => chain X.K T [f, g] σ H Q))) : VS X T P (.Assign [.Tuple [.Name x px, .Name y py] kt pt] (.Tuple [a, b] k2 pt2) pos) (sPar [i, j] [f, g]) := by
  refine ⟨PS.imp hs fun D σ H h => chain_mono (sPar_of hP h) fun vs H1 q => ?_⟩
  obtain ⟨hl, _, q⟩ := q
  match vs, hl with
  | [v, w], _ => exact ⟨v, w, rfl, q H1 (.refl _)⟩
/-- a list unpacked -/
@[simp] def bUnl (bs : List BF) : BF := fun d ε => match d with
  | .lst ds => if ds.length = bs.length then bAll bs ds ε else none
  | _ => none
theorem vg_unl {tgs : List Expr} {k : Nat} {pos : Pos} {bs : List BF} (hpg : PG X (.Tuple tgs k pos) (gUnl X.K bs.length (gBs X.K T P bs))) : VG X T P (.Tuple tgs k pos) (bUnl bs) := by
  refine ⟨PG.imp hpg fun v σ H Q h => ?_⟩
  obtain ⟨M, R, ε, d, ε', ok, hr, hf, post⟩ := h
  unfold bUnl at hf
  split at hf
  · rename_i ds
    split at hf
    · rename_i hl
      rw [Rep] at hr
      obtain ⟨a, vs, e, h1, _, h2⟩ := hr
      exact ⟨a, vs, e, SqL.of h1, h2.length.trans hl, M, R, ε, ds, ε', ok, h2, hf, post⟩
    · cases hf
  · cases hf
end
section
variable {Pg : Program} {w : World} {K : PySem.W.Frag} {mg : Str → Option Value} {base : Heap} {N : List Str} {k : Nat} {X : Cx} {sc : Scope} {fb : Str → Bool} {cv : Value} {T : List TK} {P : List Nat}
theorem CF.pop2 (c : CF Pg w K mg base N k X sc fb cv) {i : Nat} {x : Str} {e j : Expr} {h g : Pl} {np sp apos cpos : Pos} (hx : rdB N sc i x = true) (hj : VP X T j h) (hpl : PlainIx j) (he : VP X T e g) (hs : starEach [e] X.env = (false, eval e X.env) :: starEach [] X.env := by rfl) (hbase : attributeBase (.Subscript (.Name x np) j sp) "pop" X.env (eval (.Subscript (.Name x np) j sp) X.env) = eval (.Subscript (.Name x np) j sp) X.env := by rfl)
    (hfew : ((backTo cpos (starEach [e] X.env)).all (fun x => !x.1) && (backToKw cpos (keywordEach [] X.env)).all (fun x => x.1.isSome) && decide (([e] : List Expr).length + ([] : List Keyword).length + (if ([] : List Keyword).isEmpty then 0 else 1) < 30)) = true := by rfl)
    (hline : (apos.endLine == cpos.line) = true := by rfl) (hplain : (backTo cpos (starEach [] X.env)).any (·.1) = false := by rfl) : VE X T (.Call (.Attribute (.Subscript (.Name x np) j sp) "pop" apos) [e] [] cpos) (vPop2 i h g) :=
  ve_pop2 (pe_bm PySem.F.plainAttrs_list PySem.F.slot_list_pop PySem.F.type_list_pop mt_popAt (pe_ix ix_list (c.tv hx) hj.pe hpl) (pa_cons he.pe pa_nil hs) hbase hfew hline hs hplain)
theorem CF.setI2 (c : CF Pg w K mg base N k X sc fb cv) {i : Nat} {x : Str} {j j2 e : Expr} {g g2 : Pl} {f : VF} {np pos pos2 spos : Pos} (h : rdB N sc i x = true) (hj : VP X T j g) (hpl : PlainIx j) (hj2 : VP X T j2 g2) (he : VE X T e f)
    (ha : ∀ v, assign (.Subscript (.Subscript (.Name x np) j pos2) j2 pos) X.env v = (do
      let ov ← holding [v] (eval (.Subscript (.Name x np) j pos2) X.env)
      let iv ← holding [v, ov] (eval j2 X.env)
      standAt pos
      holding [v, ov, iv] (setItem ov iv v)
      release [v, ov, iv] []) := by intro _; rfl)
    (hs : swapsWithSole [.Subscript (.Subscript (.Name x np) j pos2) j2 pos] e spos.line X.env = pure false := by rfl) (hw : swappedStores [.Subscript (.Subscript (.Name x np) j pos2) j2 pos] e X.env = pure none := by rfl)
    (h1 : (assignEach [.Subscript (.Subscript (.Name x np) j pos2) j2 pos] X.env).map (·.2) = [assign (.Subscript (.Subscript (.Name x np) j pos2) j2 pos) X.env] := by rfl) : VS X T P (.Assign [.Subscript (.Subscript (.Name x np) j pos2) j2 pos] e spos) (sSetI2 i g g2 f) :=
  vs_setI2 (ps_asg he.pe (pg_sub (pe_ix ix_list (c.tv h) hj.pe hpl) hj2.pe set_list ha) hs hw h1)
/-- names of a parallel store -/
inductive Nms (X : Cx) : List Expr → List Nat → Prop where
  | nil : Nms X [] []
  | cons {x : Str} {p : Pos} {es : List Expr} {i : Nat} {is : List Nat} (h : PG X (.Name x p) (gName i)) (r : Nms X es is) (hs : (assignEach (.Name x p :: es) X.env).map (·.2) = assign (.Name x p) X.env :: (assignEach es X.env).map (·.2)) : Nms X (.Name x p :: es) (i :: is)
theorem Nms.pgs {es : List Expr} {is : List Nat} (h : Nms X es is) : PGs X es (gNm is) := by
  induction h with
  | nil => exact pgs_nil
  | cons h r hs ih => exact pgs_cons h ih hs
theorem CF.nm (c : CF Pg w K mg base N k X sc fb cv) {i : Nat} {x : Str} {pos : Pos} (h : stB N sc fb i x = true) {es : List Expr} {is : List Nat} (r : Nms X es is) (hs : (assignEach (.Name x pos :: es) X.env).map (·.2) = assign (.Name x pos) X.env :: (assignEach es X.env).map (·.2) := by rfl) : Nms X (.Name x pos :: es) (i :: is) := by
  obtain ⟨h1, h2, h3, h4⟩ := c.loc h
  exact .cons (pg_name h1 h2 h3 h4) r hs
/-- a, b, .. = e1, e2, .. where the machine makes the tuple -/
theorem CF.par (c : CF Pg w K mg base N k X sc fb cv) {tgs es : List Expr} {is : List Nat} {fs : List VF} {k1 k2 : Nat} {p1 p2 pos : Pos} (hP : ∀ i ∈ is, i ∉ P) (hn : Nms X tgs is) (he : VA X T es fs) (hw : swappedStores [.Tuple tgs k1 p1] (.Tuple es k2 p2) X.env = pure none)
    (hl : (assignEach tgs X.env).length = is.length := by rfl) (hst : (assignEach tgs X.env).findIdx? (·.1) = none := by rfl) (hs : swapsWithSole [.Tuple tgs k1 p1] (.Tuple es k2 p2) pos.line X.env = pure false := by rfl)
    (h1 : (assignEach [.Tuple tgs k1 p1] X.env).map (·.2) = [assign (.Tuple tgs k1 p1) X.env] := by rfl) : VS X T P (.Assign [.Tuple tgs k1 p1] (.Tuple es k2 p2) pos) (sPar is fs) :=
  vs_par hP (ps_asg (pe_tup he.pa) (pg_tup c.calm hn.pgs hl hst) hs hw h1)
/-- two names, both plain locals: the machine swaps the stores -/
theorem CF.par2 (c : CF Pg w K mg base N k X sc fb cv) {x y : Str} {px py pt pt2 pos : Pos} {kt k2 : Nat} {a b : Expr} {i j : Nat} {f g : VF} (hP : ∀ k ∈ [i, j], k ∉ P) (hx : stB N sc fb i x = true) (hy : stB N sc fb j y = true) (hxl : (sc.names.lookup x == some .local) = true) (hyl : (sc.names.lookup y == some .local) = true) (hij : i ≠ j) (he : VA X T [a, b] [f, g])
    (hw : swappedStores [.Tuple [.Name x px, .Name y py] kt pt] (.Tuple [a, b] k2 pt2) X.env = pure (some [x, y])) : VS X T P (.Assign [.Tuple [.Name x px, .Name y py] kt pt] (.Tuple [a, b] k2 pt2) pos) (sPar [i, j] [f, g]) := by
  obtain ⟨h1, h2, h3, h4⟩ := c.loc hx
  obtain ⟨g1, g2, g3, g4⟩ := c.loc hy
  exact vs_par2 hP (ps_par c.calm h1 h2 g2 hij (by rw [c.eS]; simpa using hxl) (by rw [c.eS]; simpa using hyl) he.pa hw)
theorem CF.gu (c : CF Pg w K mg base N k X sc fb cv) {tgs : List Expr} {j : Nat} {pos : Pos} {bs : List BF} (h : VGs X T P tgs bs) (hn : (assignEach tgs X.env).length = bs.length := by rfl) (hst : (assignEach tgs X.env).findIdx? (·.1) = none := by rfl) : VG X T P (.Tuple tgs j pos) (bUnl bs) :=
  vg_unl (pg_unl c.calm h.pg hn hst)
/-- a def of the text -/
theorem fnOk_c {x qual : Str} {st : Stmt} {f : Addr} {fd : FuncData} {ps : List Str} {n : Nat} {body : SF} (Fu : Fun K x qual st f fd) (S : FnScope N ps (defScope st)) (hn : ps.length = n)
    (h : ∀ X : Cx, CF Pg w K mg base N k X (defScope st) (fun _ => true) fd.code → VSs X T P (defBody st) body) : FnOk Pg w K mg base CX0 (k + 1) f fd ps (spF K T n (mkFn n N.length P body)) :=
  fnOk_of Fu S hn fun X h1 h2 h3 h4 h5 h6 h7 h8 h9 h10 h11 h12 => h X ⟨h1, h2, h3, h4, h5, h6, S.nd, h7, h8, h9, h10, h11, h12⟩
theorem fnOk_no {f : Addr} {fd : FuncData} {ps : List Str} {n : Nat} : FnOk Pg w K mg base CX0 k f fd ps (spF K T n (fun _ => none)) where
  len := fun vs H Q E h => by
    obtain ⟨_, _, _, _, _, _, _, h, _⟩ := h
    cases h
  run := fun A outer s H args us vs Q E _ _ _ _ h => by
    obtain ⟨_, _, _, _, _, _, _, h, _⟩ := h
    cases h
/-- the parallel store looks at the scope alone -/
def envOf (sc : Scope) : Env := { scope := sc, locals := 0, globals := 0, cells := [], qual := ⟨#[]⟩, func := none, code := .none, frame := none, builtins := 0 }
theorem swapped_env {ts : List Expr} {v : Expr} {e e2 : Env} (h : e.scope = e2.scope) : swappedStores ts v e = swappedStores ts v e2 := by
  have h1 : e.kindOf = e2.kindOf := by funext x; unfold Env.kindOf; rw [h]
  have h2 : e.blockKind = e2.blockKind := by unfold Env.blockKind; rw [h]
  unfold swappedStores
  simp only [h1, h2]
theorem CF.swp (c : CF Pg w K mg base N k X sc fb cv) {ts : List Expr} {v : Expr} {r : Sem (Option (List Str))} (h : swappedStores ts v (envOf sc) = r) : swappedStores ts v X.env = r := (swapped_env (e2 := envOf sc) c.eS).trans h
/-- the law's own def at the script -/
theorem law_sp {F : Fn} {fin : List (Option O)} {H : Hp} {a : Addr} {ns : List Int} (hF : F [.fz (.scr ns)] = some (.fz (.bl true), fin)) (hS : SqL K H a (ns.map V.int)) (hT : ∀ t ∈ T, t.dyn = false ∧ H t.P = some (.tbl #[])) : spF K T 1 F [.ref a] H (fun v _ => v = .bl true) fun _ _ _ => False := by
  have tab : Tabs T H := by
    refine ⟨fun P => H P = some (.tbl #[]), fun P hP => ⟨#[], hP, trivial, fun pos cv h => by cases h⟩, ?_⟩
    clear hF hS
    induction T with
    | nil => trivial
    | cons t T ih => exact ⟨ih fun u hu => hT u (List.mem_cons_of_mem _ hu), (hT t List.mem_cons_self).2, fun d => by rw [(hT t List.mem_cons_self).1] at d; cases d⟩
  refine ⟨[], [.fz (.scr ns)], [], _, fin, ⟨?_, List.nodup_nil, .nil, tab⟩, rfl, hF, fun v H' Ff Fr p => (Post.bool p).1⟩
  rw [List.map_cons, List.map_cons, RepE]
  refine ⟨_, _, [], [], rfl, rfl, ?_, by rw [List.map_nil, List.map_nil, RepE]; exact ⟨rfl, rfl⟩⟩
  rw [RepO, Rep]
  exact ⟨rfl, a, rfl, ScrAt.of hS (by simp)⟩
theorem vals_perm {vs : List V} {us : List Value} (r : Vals vs us) : ∀ idx : List Nat, Vals (permL idx vs) (permL idx us)
  | [] => .nil
  | i :: idx => by
    have ih := vals_perm r idx
    unfold permL at ih ⊢
    rw [List.filterMap_cons, List.filterMap_cons]
    cases q : vs[i]? with
    | none => rw [Vals.none_of r q]; exact ih
    | some v =>
      obtain ⟨u, h1, h2⟩ := Vals.get r q
      rw [h1]
      exact .cons h2 ih
end
end
end VS


set_option linter.all false
set_option Elab.async false
namespace VS
noncomputable section
open PySem PySem.Spec PyProof.Rows L2
@[simp] theorem logOk_of {j : Int} (h : 0 < j) (h2 : j < 4611686018427387904) : logOk j = true := by
  rw [logOk_eq, decide_eq_true_eq]
  have := (Nat.log2_lt (n := j.natAbs) (k := 62) (by omega)).2 (by omega)
  omega
@[simp] theorem s64_of {i : Int} (h : -18446744073709551616 < i) (h2 : i < 18446744073709551616) : s64 i = true := by
  rw [s64_eq, Bool.and_eq_true, decide_eq_true_eq, decide_eq_true_eq]
  omega
@[simp] theorem powOk_of {i j : Int} (h : 0 ≤ j) (h2 : j ≤ 1000000) (h3 : -18446744073709551616 < i) (h4 : i < 18446744073709551616) : powOk (i, j) = true := by
  rw [powOk_eq, Bool.and_eq_true, Bool.and_eq_true, decide_eq_true_eq, decide_eq_true_eq, decide_eq_true_eq]
  omega
theorem natAbs_ok {m : Int} (h1 : 0 < m) (h2 : m < 2 ^ 62) : m.natAbs < 4611686018427387904 := by omega
end
end VS
namespace VS
noncomputable section
open PySem PySem.Spec PyProof.Rows L2
@[simp] theorem flatD_ints {α : Type} (f : α → D) (l : List α) : flatD (l.map fun i => O.fz (f i)) = some (l.map f) := by
  induction l with
  | nil => rfl
  | cons x l ih => simp [ih]
theorem ix0 {n : Nat} (h : 0 < n) : ixN n 0 = some 0 := by simp [ixN, h]
end
end VS
namespace VS
noncomputable section
open PySem PySem.Spec PyProof.Rows L2
theorem for_nx {b : BF} {body : SF} {d : D} {ε ε1 : Env'} (h : (match b d ε with | some e => body e | none => none) = some (.nx, ε1)) {ds : List D} :
    forRun b body (d :: ds) ε = forRun b body ds ε1 := by
  rw [forRun]
  revert h
  cases b d ε with
  | none => simp
  | some e => simp only; intro h; rw [h]
end
end VS
namespace VS
noncomputable section
open PySem PySem.Spec PyProof.Rows L2
theorem cut_to {α : Type} (l : List α) (k : Nat) : cutD l none (some (k : Int)) = l.take k := by
  unfold cutD
  rw [HT.sIx_none, HT.sIx_nat, List.drop_zero, Nat.sub_zero]
  by_cases h : k ≤ l.length
  · rw [Nat.min_eq_left h]
  · rw [Nat.min_eq_right (by omega), List.take_of_length_le (Nat.le_refl _), List.take_of_length_le (by omega)]
theorem cut_from {α : Type} (l : List α) (k : Nat) : cutD l (some (k : Int)) none = l.drop k := by
  unfold cutD
  rw [HT.sIx_none, HT.sIx_nat]
  by_cases h : k ≤ l.length
  · rw [Nat.min_eq_left h, List.take_of_length_le (by simp)]
  · rw [Nat.min_eq_right (by omega), List.drop_of_length_le (Nat.le_refl _), List.drop_of_length_le (by omega)]; simp
theorem atI_ofNat {α : Type} (l : List α) (k : Nat) : atI l (k : Int) = l[k]? := by
  unfold atI
  by_cases h : k < l.length
  · simp [ixN, h]
  · simp [ixN, h]
theorem set_cut {α : Type} (l : List α) (k : Nat) (x : α) (h : k < l.length) : l.take k ++ x :: l.drop (k + 1) = l.set k x := (List.set_eq_take_append_cons_drop (l := l) (i := k) (a := x)).symm ▸ by rw [if_pos h]
theorem for_inv {b : BF} {body : SF} (Inv : List D → Env' → Prop) (step : ∀ d ds ε, Inv (d :: ds) ε → ∃ ε1 ε2, b d ε = some ε1 ∧ (body ε1 = some (.nx, ε2) ∨ body ε1 = some (.ct, ε2)) ∧ Inv ds ε2) :
    ∀ ds ε, Inv ds ε → ∃ ε', forRun b body ds ε = some (.nx, ε') ∧ Inv [] ε'
  | [], ε, h => ⟨ε, rfl, h⟩
  | d :: ds, ε, h => by
    obtain ⟨ε1, ε2, h1, h2, h3⟩ := step d ds ε h
    obtain ⟨ε3, h4, h5⟩ := for_inv Inv step ds ε2 h3
    refine ⟨ε3, ?_, h5⟩
    rw [forRun]
    rcases h2 with h2 | h2 <;> simp only [h1, h2, h4]
inductive All2 {α β : Type} (R : α → β → Prop) : List α → List β → Prop
  | nil : All2 R [] []
  | cons {a : α} {b : β} {l : List α} {m : List β} : R a b → All2 R l m → All2 R (a :: l) (b :: m)
/-- a comprehension without a test -/
theorem lc_inv {own : List Nat} {b : BF} {f : VF} (Inv : List D → Env' → Prop) (P : D → O → Prop) (step : ∀ d ds ε, Inv (d :: ds) ε → ∃ ε1 o ε2, b d ε = some ε1 ∧ f ε1 = some (.o o, ε2) ∧ P d o ∧ Inv ds (wipeE ε2 own)) :
    ∀ ds ε, Inv ds ε → ∃ os ε', lcRun own b tYes' f ds ε = some (os, ε') ∧ All2 P ds os ∧ Inv [] ε'
  | [], ε, h => ⟨[], ε, rfl, .nil, h⟩
  | d :: ds, ε, h => by
    obtain ⟨ε1, o, ε2, h1, h2, h3, h4⟩ := step d ds ε h
    obtain ⟨os, ε3, h5, h6, h7⟩ := lc_inv Inv P step ds _ h4
    refine ⟨o :: os, ε3, ?_, .cons h3 h6, h7⟩
    rw [lcRun]
    simp only [h1, tYes', h2, h5]
/-- a comprehension with a test, of which nothing but what it keeps is asked -/
theorem lc_invT {own : List Nat} {b : BF} {c : TF} {f : VF} (Inv : List D → Env' → Prop) (P : O → Prop) (step : ∀ d ds ε, Inv (d :: ds) ε → ∃ ε1 t ε2, b d ε = some ε1 ∧ c ε1 = some (t, ε2) ∧ (t = false → Inv ds (wipeE ε2 own)) ∧ (t = true → ∃ o ε3, f ε2 = some (.o o, ε3) ∧ P o ∧ Inv ds (wipeE ε3 own))) :
    ∀ ds ε, Inv ds ε → ∃ os ε', lcRun own b c f ds ε = some (os, ε') ∧ (∀ o ∈ os, P o) ∧ os.length ≤ ds.length ∧ Inv [] ε'
  | [], ε, h => ⟨[], ε, rfl, by simp, by simp, h⟩
  | d :: ds, ε, h => by
    obtain ⟨ε1, t, ε2, h1, h2, h3, h4⟩ := step d ds ε h
    rw [lcRun]
    cases t with
    | false =>
      obtain ⟨os, ε3, h5, h6, h6', h7⟩ := lc_invT Inv P step ds _ (h3 rfl)
      exact ⟨os, ε3, by simp only [h1, h2, h5], h6, by simp; omega, h7⟩
    | true =>
      obtain ⟨o, ε3, k1, k2, k3⟩ := h4 rfl
      obtain ⟨os, ε4, h5, h6, h6', h7⟩ := lc_invT Inv P step ds _ k3
      refine ⟨o :: os, ε4, by simp only [h1, h2, k1, h5], ?_, by simp; omega, h7⟩
      intro x hx
      rcases List.mem_cons.1 hx with rfl | hx
      · exact k2
      · exact h6 x hx
/-- a comprehension that changes nothing -/
theorem lc_map {own : List Nat} {b : BF} {c : TF} {f : VF} {ε : Env'} (t : D → Bool) (g : D → O) : ∀ {ds : List D}, (∀ d ∈ ds, ∃ ε1, b d ε = some ε1 ∧ c ε1 = some (t d, ε1) ∧ (t d = true → f ε1 = some (.o (g d), ε1)) ∧ wipeE ε1 own = ε) →
    lcRun own b c f ds ε = some ((ds.filter t).map g, ε)
  | [], _ => rfl
  | d :: ds, h => by
    obtain ⟨ε1, h1, h2, h3, h4⟩ := h d (by simp)
    have ih := lc_map (own := own) (b := b) (c := c) (f := f) (ε := ε) t g (ds := ds) fun x hx => h x (by simp [hx])
    rw [lcRun]
    simp only [h1, h2]
    cases ht : t d with
    | false => simp only [ht, h4, ih]; simp [ht]
    | true => simp only [ht, h3 ht, h4, ih]; simp [ht]
theorem rng_length (lo : Int) (n : Nat) : (rng lo n).length = n := by simp [rng]
theorem rng_mem {lo : Int} {n : Nat} {d : D} (h : d ∈ rng lo n) : ∃ k : Nat, k < n ∧ d = .int (lo + k) := by
  simp only [rng, List.mem_map, List.mem_range] at h
  obtain ⟨k, h1, rfl⟩ := h
  exact ⟨k, h1, rfl⟩
theorem all2_len {α β : Type} {R : α → β → Prop} {l : List α} {m : List β} (h : All2 R l m) : l.length = m.length := by
  induction h <;> simp [*]
end
end VS
namespace VS
noncomputable section
open PySem PySem.Spec PyProof.Rows L2
@[simp] theorem vals_fz (l : List D) : O.vals (l.map O.fz) = l := by
  induction l with
  | nil => rfl
  | cons x l ih => simp [ih]
@[simp] theorem flatD_fz' (l : List D) : flatD (l.map O.fz) = some l := flatD_fz l
theorem room_of {n : Nat} (h : n ≤ 1000000) : room n = true := (room_eq n).trans (decide_eq_true h)
@[simp] theorem small_of {n : Int} (h : -4611686018427387904 ≤ n) (h2 : n < 4611686018427387904) : small n = true := by
  rw [small_eq, Bool.and_eq_true, decide_eq_true_eq, decide_eq_true_eq]
  omega
end
end VS
namespace VS
noncomputable section
open PySem PySem.Spec PyProof.Rows L2
@[simp] theorem room_small {n : Nat} (h : n < 1000) : room n = true := room_of (by omega)
end
end VS
namespace VS
noncomputable section
open PySem PySem.Spec PyProof.Rows L2
theorem eq_pair (i j k l : Int) : eqD (.tup [.int i, .int j]) (.tup [.int k, .int l]) = some (decide (i = k ∧ j = l)) := by
  have h1 : ∀ i j, SeqAt.shaped (PyData.tuple [PyData.int i, PyData.int j]) = true := fun _ _ => rfl
  simp [eqD, D.toP, D.toPs, h1, PyData.eqv, PyData.eqvAll]
  rfl
theorem eq_nil : eqD (.lst []) (.lst []) = some true := by
  have h1 : SeqAt.shaped (PyData.list []) = true := rfl
  simp [eqD, D.toP, D.toPs, h1, PyData.eqv, PyData.eqvAll]
theorem seq_nx {f g : SF} {ε ε1 : Env'} {r : Option (Fl × Env')} (h : f ε = some (.nx, ε1)) (k : g ε1 = r) : sSeq f g ε = r := by simp [h, k]
theorem if_no {c : TF} {f : SF} {ε ε1 : Env'} (h : c ε = some (false, ε1)) : sIf c f sNx ε = some (.nx, ε1) := by simp [h]
theorem ret_of {f : VF} {ε ε1 : Env'} {o : O} (h : f ε = some (.o o, ε1)) : sRet f ε = some (.rt o, ε1) := by simp [h]
end
end VS
namespace VS
noncomputable section
open PySem PySem.Spec PyProof.Rows L2
theorem splice1 (l : List D) (k : Nat) (x : D) (h : l.length ≤ 100000) : pAdd (.tup (l.take k)) (.tup [x]) = some (.fz (.tup (l.take k ++ [x]))) := by
  have h2 : room ((l.take k).length + [x].length) = true := room_of (by simp; omega)
  rw [pAdd, if_pos h2]
theorem splice2 (l : List D) (k : Nat) (x : D) (h : l.length ≤ 100000) (hk : k < l.length) : pAdd (.tup (l.take k ++ [x])) (.tup (l.drop (k + 1))) = some (.fz (.tup (l.set k x))) := by
  have h2 : room ((l.take k ++ [x]).length + (l.drop (k + 1)).length) = true := room_of (by simp; omega)
  rw [pAdd, if_pos h2, List.append_assoc, List.singleton_append, set_cut l k x hk]
end
end VS
namespace VS
noncomputable section
open PySem PySem.Spec PyProof.Rows L2
theorem cut_from1 {α : Type} (l : List α) (k : Nat) : cutD l (some ((k : Int) + 1)) none = l.drop (k + 1) := cut_from l (k + 1)
theorem pAdd_int (i j : Int) : pAdd (.int i) (.int j) = some (.fz (.int (i + j))) := rfl
end
end VS
namespace VS
noncomputable section
open PySem PySem.Spec PyProof.Rows L2
@[simp] theorem eqD_int (i j : Int) : eqD (.int i) (.int j) = some (decide (i = j)) := rfl
@[simp] theorem eqD_str (i j : Str) : eqD (.str i) (.str j) = some (decide (i = j)) := rfl
@[simp] theorem eqD_bl (i j : Bool) : eqD (.bl i) (.bl j) = some (decide (i = j)) := rfl
@[simp] theorem eqD_nn : eqD .non .non = some true := rfl
@[simp] theorem eqD_in (i : Int) : eqD (.int i) .non = some false := rfl
@[simp] theorem eqD_ni (i : Int) : eqD .non (.int i) = some false := rfl
@[simp] theorem eqD_lnil : eqD (.lst []) (.lst []) = some true := eq_nil
end
end VS
namespace VS
noncomputable section
open PySem PySem.Spec PyProof.Rows L2
@[simp] theorem vals_ints {α : Type} (f : α → D) (l : List α) : O.vals (l.map fun i => O.fz (f i)) = l.map f := by
  induction l with
  | nil => rfl
  | cons x l ih => simp [ih]
/-- a comprehension without a test that changes nothing -/
theorem lc_all {α : Type} {own : List Nat} {b : BF} {f : VF} {ε : Env'} (d : α → D) (g : α → O) : ∀ {l : List α}, (∀ x ∈ l, ∃ ε1, b (d x) ε = some ε1 ∧ f ε1 = some (.o (g x), ε1) ∧ wipeE ε1 own = ε) →
    lcRun own b tYes' f (l.map d) ε = some (l.map g, ε)
  | [], _ => rfl
  | x :: l, h => by
    obtain ⟨ε1, h1, h2, h3⟩ := h x (by simp)
    have ih := lc_all (own := own) (b := b) (f := f) (ε := ε) d g (l := l) fun y hy => h y (by simp [hy])
    rw [List.map_cons, lcRun]
    simp only [h1, tYes', h2, h3, ih, List.map_cons]
/-- a comprehension with a test that changes nothing -/
theorem lc_some {α : Type} {own : List Nat} {b : BF} {c : TF} {f : VF} {ε : Env'} (d : α → D) (t : α → Bool) (g : α → O) : ∀ {l : List α}, (∀ x ∈ l, ∃ ε1, b (d x) ε = some ε1 ∧ c ε1 = some (t x, ε1) ∧ (t x = true → f ε1 = some (.o (g x), ε1)) ∧ wipeE ε1 own = ε) →
    lcRun own b c f (l.map d) ε = some ((l.filter t).map g, ε)
  | [], _ => rfl
  | x :: l, h => by
    obtain ⟨ε1, h1, h2, h3, h4⟩ := h x (by simp)
    have ih := lc_some (own := own) (b := b) (c := c) (f := f) (ε := ε) d t g (l := l) fun y hy => h y (by simp [hy])
    rw [List.map_cons, lcRun]
    simp only [h1, h2]
    cases ht : t x with
    | false => simp only [ht, h4, ih]; simp [ht]
    | true => simp only [ht, h3 ht, h4, ih]; simp [ht]
end
end VS
namespace VS
noncomputable section
open PySem PySem.Spec PyProof.Rows L2
theorem rng0 (n : Nat) : rng 0 n = (List.range n).map fun (k : Nat) => D.int (k : Int) := by
  unfold rng
  congr 1
  funext k
  simp
/-- a loop over a list, what is left in sight -/
theorem for_list {α : Type} {b : BF} {body : SF} (d : α → D) (Inv : List α → Env' → Prop) (step : ∀ x l ε, Inv (x :: l) ε → ∃ ε1 ε2, b (d x) ε = some ε1 ∧ (body ε1 = some (.nx, ε2) ∨ body ε1 = some (.ct, ε2)) ∧ Inv l ε2) :
    ∀ l ε, Inv l ε → ∃ ε', forRun b body (l.map d) ε = some (.nx, ε') ∧ Inv [] ε'
  | [], ε, h => ⟨ε, rfl, h⟩
  | x :: l, ε, h => by
    obtain ⟨ε1, ε2, h1, h2, h3⟩ := step x l ε h
    obtain ⟨ε3, h4, h5⟩ := for_list d Inv step l ε2 h3
    refine ⟨ε3, ?_, h5⟩
    rw [List.map_cons, forRun]
    rcases h2 with h2 | h2 <;> simp only [h1, h2, h4]
/-- how a search ends -/
def flO (r : Option O) (ε : Env') : Fl × Env' := match r with
  | some o => (.rt o, ε)
  | none => (.nx, ε)
@[simp] theorem flO_some (o : O) (ε : Env') : flO (some o) ε = (.rt o, ε) := rfl
@[simp] theorem flO_none (ε : Env') : flO none ε = (.nx, ε) := rfl
/-- a loop that hands back the first that it finds -/
theorem for_find {α : Type} {b : BF} {body : SF} (d : α → D) (Inv : Env' → Prop) (f : α → Option O) : ∀ (l : List α), (∀ x ∈ l, ∀ ε, Inv ε → ∃ ε1 ε2, b (d x) ε = some ε1 ∧ body ε1 = some (flO (f x) ε2) ∧ Inv ε2) →
    ∀ ε, Inv ε → ∃ ε', forRun b body (l.map d) ε = some (flO (l.findSome? f) ε') ∧ Inv ε'
  | [], _, ε, h => ⟨ε, rfl, h⟩
  | x :: l, step, ε, h => by
    obtain ⟨ε1, ε2, h1, h2, h3⟩ := step x (by simp) ε h
    rw [List.map_cons, forRun, List.findSome?_cons]
    cases hf : f x with
    | some o =>
      rw [hf, flO_some] at h2
      exact ⟨ε2, by simp only [h1, h2, flO_some], h3⟩
    | none =>
      rw [hf, flO_none] at h2
      obtain ⟨ε3, h4, h5⟩ := for_find d Inv f l (fun y hy => step y (by simp [hy])) ε2 h3
      exact ⟨ε3, by simp only [h1, h2, h4], h5⟩
/-- a table as data -/
def cellD : Option Int → D
  | none => .non
  | some i => .int i
def tabD (t : List (List (Option Int))) : D := .tup (t.map fun r => .tup (r.map cellD))
def tget (t : List (List (Option Int))) (i j : Nat) : Option Int := (t.getD i []).getD j none
structure Tab (m n : Nat) (t : List (List (Option Int))) : Prop where
  len : t.length = m
  row : ∀ r ∈ t, r.length = n
theorem Tab.rowAt {m n : Nat} {t : List (List (Option Int))} (h : Tab m n t) {i : Nat} (hi : i < m) : ∃ r, t[i]? = some r ∧ r.length = n ∧ t.getD i [] = r := by
  have hi' : i < t.length := by rw [h.len]; exact hi
  exact ⟨t[i], by simp [hi'], h.row _ (List.getElem_mem hi'), by simp [hi']⟩
theorem gIx_row {m n : Nat} {t : List (List (Option Int))} (h : Tab m n t) {ε : Env'} {a b : Pl} {i : Nat} (hi : i < m) (ha : a ε = some (.fz (tabD t))) (hb : b ε = some (.fz (.int i))) :
    gIx a b ε = some (.fz (.tup ((t.getD i []).map cellD))) := by
  obtain ⟨r, h1, h2, h3⟩ := h.rowAt hi
  rw [h3]
  simp [ha, hb, tabD, atI_ofNat, h1]
theorem gIx_cell {m n : Nat} {t : List (List (Option Int))} (h : Tab m n t) {ε : Env'} {a b c : Pl} {i j : Nat} (hi : i < m) (hj : j < n) (ha : a ε = some (.fz (tabD t))) (hb : b ε = some (.fz (.int i))) (hc : c ε = some (.fz (.int j))) :
    gIx (gIx a b) c ε = some (.fz (cellD (tget t i j))) := by
  obtain ⟨r, h1, h2, h3⟩ := h.rowAt hi
  have hr := gIx_row h hi ha hb
  rw [h3] at hr
  have hj' : j < r.length := by omega
  rw [gIx, hr, hc]
  unfold tget
  rw [h3]
  simp [atI_ofNat, hj']
@[simp] theorem cellD_none : cellD none = .non := rfl
@[simp] theorem cellD_some (i : Int) : cellD (some i) = .int i := rfl
theorem len_tab {m n : Nat} {t : List (List (Option Int))} (h : Tab m n t) : pLen [tabD t] = some (.fz (.int m)) := by simp [tabD, h.len]
theorem len_row {m n : Nat} {t : List (List (Option Int))} (h : Tab m n t) (hm : 0 < m) {ε : Env'} {a : Pl} (ha : a ε = some (.fz (tabD t))) : vPrP pLen (gIx a (gC (.int 0))) ε = some (.o (.fz (.int n)), ε) := by
  have hr := gIx_row h (i := 0) (b := gC (.int 0)) hm ha rfl
  obtain ⟨r, h1, h2, h3⟩ := h.rowAt hm
  rw [vPrP, hr, h3]
  simp [h2]
end
end VS


set_option Elab.async false
set_option linter.all false
/-! VS12: membership; min, max, sum of a list of ints. -/
namespace VS
noncomputable section
open PySem PySem.Spec PyProof.Rows L2
section
variable {K : PySem.W.Frag} {T : List TK} {P : List Nat} {H H' H'' : Hp} {M M' M'' R R' F F' A A' : List Addr} {ε ε' : Env'} {σ σ' σ'' : L2.St} {X : Cx}
def rInT (K : PySem.W.Frag) : R2 := fun x y H Q => ∃ d ds, Dp K H x d ∧ Dp K H y (.tuple ds) ∧ SeqAt.shaped d = true ∧ SeqAt.shaped (.tuple ds) = true ∧ Q (.bl (ds.any fun z => PyData.eqv z d)) H
def rNotInT (K : PySem.W.Frag) : R2 := fun x y H Q => ∃ d ds, Dp K H x d ∧ Dp K H y (.tuple ds) ∧ SeqAt.shaped d = true ∧ SeqAt.shaped (.tuple ds) = true ∧ Q (.bl (!ds.any fun z => PyData.eqv z d)) H
theorem op_inT (hu : X.A.units + 65 < cLine) : OpR X (compareOp .In) (rInT X.K) := by
  intro pins s σ H x y v u Q I rx ry h
  obtain ⟨d, ds, hd, he, sd, se, q⟩ := h
  obtain ⟨as, r1⟩ := Dp.reads I d x v hd rx
  obtain ⟨bs, r2⟩ := Dp.reads I (.tuple ds) y u he ry
  exact SeqAt.in_tuple_reads r2 r1 (SeqAt.canLay_of_shaped se) (SeqAt.canLay_of_shaped sd) (room_in_shaped sd hu) ⟨.bl _, H, I, rfl, q⟩
theorem op_notInT (hu : X.A.units + 65 < cLine) : OpR X (compareOp .NotIn) (rNotInT X.K) := by
  intro pins s σ H x y v u Q I rx ry h
  obtain ⟨d, ds, hd, he, sd, se, q⟩ := h
  obtain ⟨as, r1⟩ := Dp.reads I d x v hd rx
  obtain ⟨bs, r2⟩ := Dp.reads I (.tuple ds) y u he ry
  exact SeqAt.notIn_tuple_reads r2 r1 (SeqAt.canLay_of_shaped se) (SeqAt.canLay_of_shaped sd) (room_in_shaped sd hu) ⟨.bl _, H, I, rfl, q⟩
/-- d in e -/
def inD (d e : D) : Option Bool := match e with
  | .lst l => if SeqAt.shaped d.toP && SeqAt.shaped (D.lst l).toP then some ((D.toPs l).any fun z => PyData.eqv z d.toP) else none
  | .tup l => if SeqAt.shaped d.toP && SeqAt.shaped (D.tup l).toP then some ((D.toPs l).any fun z => PyData.eqv z d.toP) else none
  | _ => none
@[simp] def pIn (d e : D) : Option O := (inD d e).map fun b => .fz (.bl b)
@[simp] def pNotIn (d e : D) : Option O := (inD d e).map fun b => .fz (.bl (!b))
theorem od_in (hu : X.A.units + 65 < cLine) : OpR X (compareOp .In) (rP2 X.K T pIn) := OpR.imp ((op_inD hu).or (op_inT hu)) fun x y H Q h => by
  obtain ⟨A, d, e, o, lA, tA, hx, hy, hp, post⟩ := h
  unfold pIn inD at hp
  split at hp
  · split at hp
    · rename_i hs
      cases hp
      rw [Bool.and_eq_true] at hs
      exact .inl ⟨_, _, hx.dp, hy.dp, hs.1, hs.2, post _ H [] (New.fz (by rw [Rep]))⟩
    · cases hp
  · split at hp
    · rename_i hs
      cases hp
      rw [Bool.and_eq_true] at hs
      exact .inr ⟨_, _, hx.dp, hy.dp, hs.1, hs.2, post _ H [] (New.fz (by rw [Rep]))⟩
    · cases hp
  · cases hp
theorem od_notIn (hu : X.A.units + 65 < cLine) : OpR X (compareOp .NotIn) (rP2 X.K T pNotIn) := OpR.imp ((op_notInD hu).or (op_notInT hu)) fun x y H Q h => by
  obtain ⟨A, d, e, o, lA, tA, hx, hy, hp, post⟩ := h
  unfold pNotIn inD at hp
  split at hp
  · split at hp
    · rename_i hs
      cases hp
      rw [Bool.and_eq_true] at hs
      exact .inl ⟨_, _, hx.dp, hy.dp, hs.1, hs.2, post _ H [] (New.fz (by rw [Rep]))⟩
    · cases hp
  · split at hp
    · rename_i hs
      cases hp
      rw [Bool.and_eq_true] at hs
      exact .inr ⟨_, _, hx.dp, hy.dp, hs.1, hs.2, post _ H [] (New.fz (by rw [Rep]))⟩
    · cases hp
  · cases hp
/-- a list of ints -/
def intsOf : List D → Option (List Int)
  | [] => some []
  | .int i :: l => match intsOf l with
    | some ns => some (i :: ns)
    | none => none
  | _ => none
theorem intsOf_map : ∀ ns : List Int, intsOf (ns.map D.int) = some ns
  | [] => rfl
  | n :: ns => by rw [List.map_cons, intsOf, intsOf_map ns]
theorem intsOf_eq : ∀ {l : List D} {ns : List Int}, intsOf l = some ns → l = ns.map D.int
  | [], _, h => by cases h; rfl
  | .int i :: l, ns, h => by
    rw [intsOf] at h
    split at h
    · rename_i ms hm
      cases h
      rw [intsOf_eq hm, List.map_cons]
    · cases h
  | .non :: _, _, h => by cases h
  | .bl _ :: _, _, h => by cases h
  | .str _ :: _, _, h => by cases h
  | .tup _ :: _, _, h => by cases h
  | .lst _ :: _, _, h => by cases h
  | .scr _ :: _, _, h => by cases h
theorem Reps.intsV : ∀ {ns : List Int} {vs : List V}, Reps K H A (ns.map D.int) vs → vs = ns.map V.int
  | [], vs, h => by
    rw [List.map_nil, Reps] at h
    rw [h, List.map_nil]
  | n :: ns, vs, h => by
    rw [List.map_cons, Reps] at h
    obtain ⟨v, r, rfl, h1, h2⟩ := h
    rw [Rep] at h1
    rw [h1, Reps.intsV h2, List.map_cons]
@[simp] def pMinL : List D → Option O
  | [.lst l] => match intsOf l with
    | some ns => match ns.min? with
      | some m => some (.fz (.int m))
      | none => none
    | none => none
  | _ => none
@[simp] def pMaxL : List D → Option O
  | [.lst l] => match intsOf l with
    | some ns => match ns.max? with
      | some m => some (.fz (.int m))
      | none => none
    | none => none
  | _ => none
@[simp] def pSumL : List D → Option O
  | [.lst l] => match intsOf l with
    | some ns => some (.fz (.int ns.sum))
    | none => none
  | _ => none
theorem cd_minL (hc : X.calm = true) : CallR X (.builtin "min") (rP X.K T pMinL) := CallR.imp (cr_min hc) fun vs H Q h => by
  obtain ⟨A, ds, o, lA, tA, hx, hp, post⟩ := h
  unfold pMinL at hp
  split at hp
  · rename_i l
    split at hp
    · rename_i ns hns
      split at hp
      · rename_i m hm
        cases hp
        obtain ⟨v, rfl, hv⟩ := hx.one
        obtain ⟨a, ws, rfl, h1, h2⟩ := hv
        rw [intsOf_eq hns] at h2
        rw [h2.intsV] at h1
        obtain ⟨m1, m2⟩ := List.min?_eq_some_iff.1 hm
        refine ⟨a, ns, rfl, SqL.of h1, List.length_pos_of_mem m1, fun m' k1 k2 => ?_⟩
        have : m' = m := Int.le_antisymm (k2 m m1) (m2 m' k1)
        rw [this]
        exact post _ H [] (New.fz (by rw [Rep]))
      · cases hp
    · cases hp
  · cases hp
theorem cd_maxL (hc : X.calm = true) : CallR X (.builtin "max") (rP X.K T pMaxL) := CallR.imp (cr_max hc) fun vs H Q h => by
  obtain ⟨A, ds, o, lA, tA, hx, hp, post⟩ := h
  unfold pMaxL at hp
  split at hp
  · rename_i l
    split at hp
    · rename_i ns hns
      split at hp
      · rename_i m hm
        cases hp
        obtain ⟨v, rfl, hv⟩ := hx.one
        obtain ⟨a, ws, rfl, h1, h2⟩ := hv
        rw [intsOf_eq hns] at h2
        rw [h2.intsV] at h1
        obtain ⟨m1, m2⟩ := List.max?_eq_some_iff.1 hm
        refine ⟨a, ns, rfl, SqL.of h1, List.length_pos_of_mem m1, fun m' k1 k2 => ?_⟩
        have : m' = m := Int.le_antisymm (m2 m' k1) (k2 m m1)
        rw [this]
        exact post _ H [] (New.fz (by rw [Rep]))
      · cases hp
    · cases hp
  · cases hp
theorem cd_sumL (hc : X.calm = true) : CallR X (.builtin "sum") (rP X.K T pSumL) := CallR.imp (cr_sum hc) fun vs H Q h => by
  obtain ⟨A, ds, o, lA, tA, hx, hp, post⟩ := h
  unfold pSumL at hp
  split at hp
  · rename_i l
    split at hp
    · rename_i ns hns
      cases hp
      obtain ⟨v, rfl, hv⟩ := hx.one
      obtain ⟨a, ws, rfl, h1, h2⟩ := hv
      rw [intsOf_eq hns] at h2
      rw [h2.intsV] at h1
      exact ⟨a, ns, rfl, SqL.of h1, post _ H [] (New.fz (by rw [Rep]))⟩
    · cases hp
  · cases hp
end
section
variable {Pg : Program} {w : World} {K : PySem.W.Frag} {mg : Str → Option Value} {base : Heap} {N : List Str} {k : Nat} {X : Cx} {sc : Scope} {fb : Str → Bool} {cv : Value}
theorem CF.hu5 (c : CF Pg w K mg base N k X sc fb cv) : X.A.units + 65 < cLine := by
  have := c.room.un
  omega
end
end
end VS


set_option Elab.async false
set_option linter.all false
set_option maxRecDepth 100000
/-! VS13: plain facts about tables. -/
namespace VS
noncomputable section
open PySem PySem.Spec PyProof.Rows L2
/-- a pair of places as data -/
def wayD (p : Nat × Nat) : D := .tup [.int p.1, .int p.2]
def tput (t : List (List (Option Int))) (i j : Nat) (x : Option Int) : List (List (Option Int)) := t.set i ((t.getD i []).set j x)
theorem Tab.put {m n : Nat} {t : List (List (Option Int))} (h : Tab m n t) {i j : Nat} {x : Option Int} (hi : i < m) : Tab m n (tput t i j x) := by
  obtain ⟨r, h1, h2, h3⟩ := h.rowAt hi
  refine ⟨by simp [tput, h.len], fun l hl => ?_⟩
  unfold tput at hl
  rcases List.mem_or_eq_of_mem_set hl with hl | rfl
  · exact h.row l hl
  · rw [h3]; simpa using h2
/-- x[:j] + (p,) + x[j + 1:] of a row, then of the table -/
theorem splice_row {r : List (Option Int)} {j : Nat} {x : Option Int} (hj : j < r.length) (hr : r.length ≤ 100000) :
    pAdd (.tup ((r.map cellD).take j)) (.tup [cellD x]) = some (.fz (.tup ((r.map cellD).take j ++ [cellD x]))) ∧
    pAdd (.tup ((r.map cellD).take j ++ [cellD x])) (.tup ((r.map cellD).drop (j + 1))) = some (.fz (.tup ((r.set j x).map cellD))) := by
  refine ⟨splice1 _ _ _ (by simpa using hr), ?_⟩
  rw [splice2 _ _ _ (by simpa using hr) (by simpa using hj), List.map_set]
theorem splice_tab {t : List (List (Option Int))} {i : Nat} {r : List (Option Int)} (hi : i < t.length) (ht : t.length ≤ 100000) :
    pAdd (.tup ((t.map fun r => D.tup (r.map cellD)).take i)) (.tup [.tup (r.map cellD)]) = some (.fz (.tup ((t.map fun r => D.tup (r.map cellD)).take i ++ [.tup (r.map cellD)]))) ∧
    pAdd (.tup ((t.map fun r => D.tup (r.map cellD)).take i ++ [.tup (r.map cellD)])) (.tup ((t.map fun r => D.tup (r.map cellD)).drop (i + 1))) = some (.fz (tabD (t.set i r))) := by
  refine ⟨splice1 _ _ _ (by simpa using ht), ?_⟩
  rw [splice2 _ _ _ (by simpa using ht) (by simpa using hi), tabD, List.map_set]
theorem non_in3 (x y z : Option Int) : inD .non (.lst [cellD x, cellD y, cellD z]) = some (x.isNone || y.isNone || z.isNone) := by
  have h1 : SeqAt.shaped D.non.toP = true := rfl
  have h2 : SeqAt.shaped (D.lst [cellD x, cellD y, cellD z]).toP = true := by
    cases x <;> cases y <;> cases z <;> rfl
  rw [inD, h1, h2]
  cases x <;> cases y <;> cases z <;> rfl
end
end VS
namespace VS
noncomputable section
open PySem PySem.Spec PyProof.Rows L2
theorem it_row {m n : Nat} {t : List (List (Option Int))} (h : Tab m n t) (hm : 0 < m) (hn : n ≤ 100000) {ε : Env'} {a : Pl} (ha : a ε = some (.fz (tabD t))) : itR1 (vPrP pLen (gIx a (gC (.int 0)))) ε = some ((List.range n).map fun k : Nat => D.int k, ε) := by
  have h3 : small (n : Int) = true := small_of (by omega) (by omega)
  rw [itR1, len_row h hm ha]
  simp only [h3, if_true, Int.toNat_natCast, rng0]
theorem it_tab {m n : Nat} {t : List (List (Option Int))} (h : Tab m n t) (hm : m ≤ 100000) {ε : Env'} {a : Pl} (ha : a ε = some (.fz (tabD t))) : itR1 (vPrim pLen [vP a]) ε = some ((List.range m).map fun k : Nat => D.int k, ε) := by
  have h3 : small (m : Int) = true := small_of (by omega) (by omega)
  have h4 : vPrim pLen [vP a] ε = some (.o (.fz (.int m)), ε) := by
    simp [-pLen, ha, len_tab h]
  rw [itR1, h4]
  simp only [h3, if_true, Int.toNat_natCast, rng0]
end
end VS


set_option Elab.async false
set_option linter.all false
set_option maxRecDepth 100000
/-! VG0: a generator expression's elements: their context. -/
namespace VS
noncomputable section
open PySem PySem.Spec PyProof.Rows L2
/-- a generator expression's own scope, within sc; own: its names -/
structure GxS (sc scope : Scope) (own : List Str) : Prop where
  kind : scope.kind = .function
  co : scope.isCoroutine = false
  uniq : ∀ y ∈ scope.names, scope.names.lookup y.1 = some y.2
  dot : scope.names.lookup (".0" : Str) = some NameKind.local
  loc : ∀ y, scope.names.lookup y = some .local ∨ scope.names.lookup y = some .cell → y = (".0" : Str) ∨ y ∈ own
  free : ∀ y ∈ scope.names, y.2 = .free → sc.names.lookup y.1 = some .cell ∨ sc.names.lookup y.1 = some .free
abbrev gxCl (X : Cx) (scope : Scope) (C : Addr) : List (Str × Addr) := cellsFrom (C + 1) scope.names (cloFrom X.env.cells scope.names [])
abbrev gxEnv (X : Cx) (scope : Scope) (C : Addr) (code : Value) : Env := genEnv scope (gxCl X scope C) C code builtinsNs X.env
/-- the context of the elements: sc, H: where the generator is made; ex: what the walked thing's iterator is made of -/
def gxCx (X : Cx) (A : Around) (s : Shared) (H : Hp) (scope : Scope) (C : Addr) (code : Value) (ex : List Addr) (pn : List (Addr × Obj)) : Cx where
  prog := X.prog
  w := X.w
  K := X.K
  mg := X.mg
  base := X.base
  A := A.deeper (gxEnv X scope C code)
  N := X.N
  s_0 := s
  H_0 := H
  env := gxEnv X scope C code
  outer := X.stack
  stack := gxEnv X scope C code :: X.stack
  ex := ex
  fn := fun x => scope.names.lookup x == some .cell
  calm := true
  pn := pn
  xe := fun _ _ => False
section
variable {X : Cx} {pins : List (Addr × Obj)} {σ : L2.St} {H : Hp} {s s1 : Shared}
theorem GxS.has {scope : Scope} {own : List Str} (L : GxS X.env.scope scope own) (ok : X.Ok) : ∀ y ∈ scope.names, y.2 = .free → ∃ c, X.env.cells.lookup y.1 = some c := fun y hy e => by
  rcases L.free y hy e with k | k
  · exact ok.has _ (.inl k)
  · exact ok.has _ (.inr k)
/-- the cells of the elements' context: caught ones, or its own -/
theorem gx_cells {scope : Scope} {own : List Str} (I : Inv X pins σ H s) (L : GxS X.env.scope scope own) {y : Str} {c : Addr} (e : (gxCl X scope s.heap.objs.size).lookup y = some c) :
    (X.env.cells.lookup y = some c ∧ c < s.heap.objs.size ∧ (y, NameKind.free) ∈ scope.names) ∨ (s.heap.objs.size + 1 ≤ c ∧ (y, NameKind.cell) ∈ scope.names ∧ ∀ fr : Obj, CellAt (pushCells (s.heap.push fr) scope.names) c none) := by
  have hfree := L.has I.ok
  have cl : ∀ fr : Obj, (y, c) ∈ cellsFrom (s.heap.push fr).objs.size scope.names (cloFrom X.env.cells scope.names []) := fun fr => by
    rw [Heap.size_push]; exact PySem.mem_of_lookup e
  rcases cells_mem (cl { cls := .type "frame", data := .dict #[] }) with hm | ⟨h1, h2, _⟩
  · rcases cloFrom_mem hm with hm | ⟨h1, h2⟩
    · cases hm
    · obtain ⟨c1, hc⟩ := hfree _ h1 rfl
      have hc : X.env.cells.lookup y = some c1 := hc
      have e2 : c = c1 := by
        rw [h2, hc] <;> rfl
      subst e2
      obtain ⟨w, z⟩ := I.cell _ _ hc
      exact .inl ⟨hc, z.lt, h1⟩
  · rw [Heap.size_push] at h2
    refine .inr ⟨h2, h1, fun fr => ?_⟩
    rcases cells_mem (cl fr) with hm | ⟨_, _, h3⟩
    · rcases cloFrom_mem hm with hm | ⟨h4, _⟩
      · cases hm
      · have q := L.uniq _ h1
        rw [L.uniq _ h4] at q
        cases q
    · exact h3
/-- the elements' context stands, in any state that keeps all of s -/
theorem gx_start {A : Around} {scope : Scope} {own : List Str} {code : Value} {ex : List Addr} {slots : List Nat} {it : Value} (I : Inv X pins σ H s) (L : GxS X.env.scope scope own) (hd : A.handled = none) (hfr : A.frames = some X.stack)
    (hns : s1.heap.Ns s.heap.objs.size fun y => if y = (".0" : Str) then some it else none) (kp : ∀ b o, s.heap.get? b = some o → s1.heap.get? b = some o) (os : s1.os = s.os) (hb : AllBare s1.gens)
    (hce : ∀ c, s.heap.objs.size < c → (∀ fr : Obj, CellAt (pushCells (s.heap.push fr) scope.names) c none) → CellAt s1.heap c none)
    (hex : ∀ b ∈ ex, FpOk X pins H b ∧ b < s.heap.objs.size) (hN : ∀ (i : Nat) (y : Str), X.N[i]? = some y → y = (".0" : Str) ∨ y ∈ own → i ∈ slots) :
    Inv (gxCx X A s H scope s.heap.objs.size code ex []) [] (wipe σ slots) H s1 := by
  have hfree := L.has I.ok
  have e0 := I.env0
  have mem : ∀ {y c}, (gxCl X scope s.heap.objs.size).lookup y = some c → (X.env.cells.lookup y = some c ∧ c < s.heap.objs.size ∧ (y, NameKind.free) ∈ scope.names) ∨ (s.heap.objs.size + 1 ≤ c ∧ (y, NameKind.cell) ∈ scope.names ∧ ∀ fr : Obj, CellAt (pushCells (s.heap.push fr) scope.names) c none) := fun {y c} e => gx_cells I L e
  have look : ∀ {y}, scope.names.lookup y = some .free → ∃ c, (gxCl X scope s.heap.objs.size).lookup y = some c ∧ X.env.cells.lookup y = some c := fun {y} hl => by
    have hy : (y, NameKind.free) ∈ scope.names := PySem.mem_of_lookup hl
    obtain ⟨c, hc⟩ := mem_lookup (cells_acc (names := scope.names) (n := s.heap.objs.size + 1) (cloFrom_has (cells := X.env.cells) (acc := []) hy))
    refine ⟨c, hc, ?_⟩
    rcases mem hc with ⟨h, _⟩ | ⟨_, h, _⟩
    · exact h
    · have q := L.uniq _ h
      rw [hl] at q
      cases q
  have cellK : ∀ {c : Addr} {v : Option Value}, s.heap.IsCell c v → s1.heap.IsCell c v := fun {c v} ⟨o, ho, hd⟩ => ⟨_, kp _ _ ho, hd⟩
  have stk : ∀ b ∈ frs X.stack, b = X.env.locals ∨ b ∈ X.fs := fun b hb => List.mem_cons.mp (I.stkSub b hb)
  refine ⟨⟨e0.mod, L.kind, I.ok.glob, rfl, Nat.le_refl _, fun y z c e1 e2 => ?_, fun y hy => ?_, fun y c z e => ?_, fun _ => hd, Around.frames_deeper hfr, .inr ⟨rfl, rfl⟩, fun b z => ?_, e0.bs, e0.bsz, fun b o q z => ?_,
      fun b z q => ?_, e0.funs, e0.frf⟩,
    os, hb, Un.kept kp, ⟨_, hns, fun i y v e1 e2 e3 => ?_⟩, fun y c e => ?_, e0.hok.fresh (Nat.le_refl _), fun y c e => ?_, fun q hq => absurd (show q ∈ ([] : List (Addr × Obj)) ++ [] from hq) (by simp), e0.hok.kept kp, by rw [wipe_length]; exact I.len⟩
  · have e1 : (y, c) ∈ cellsFrom (s.heap.push { cls := .type "frame", data := .dict #[] }).objs.size scope.names (cloFrom X.env.cells scope.names []) := by rw [Heap.size_push]; exact PySem.mem_of_lookup e1
    have e2 : (z, c) ∈ cellsFrom (s.heap.push { cls := .type "frame", data := .dict #[] }).objs.size scope.names (cloFrom X.env.cells scope.names []) := by rw [Heap.size_push]; exact PySem.mem_of_lookup e2
    have cm : ∀ {y c}, (y, c) ∈ cloFrom X.env.cells scope.names [] → X.env.cells.lookup y = some c ∧ c < s.heap.objs.size := fun {y c} hm => by
      rcases cloFrom_mem hm with hm | ⟨h1, rfl⟩
      · cases hm
      · obtain ⟨c, hc⟩ := hfree _ h1 rfl
        rw [hc]
        obtain ⟨w, z⟩ := I.cell _ _ hc
        exact ⟨rfl, z.lt⟩
    refine cells_inj (fun p hp => ?_) (fun y z c a b => I.ok.inj y z c (cm a).1 (cm b).1) e1 e2
    rw [Heap.size_push]
    exact Nat.lt_succ_of_lt (cm (y := p.1) (c := p.2) hp).2
  · have hy : scope.names.lookup y = some .cell ∨ scope.names.lookup y = some .free := hy
    rcases hy with hy | hy
    · obtain ⟨c, hm⟩ := cells_has (n := s.heap.objs.size + 1) (acc := cloFrom X.env.cells scope.names []) (PySem.mem_of_lookup hy)
      exact mem_lookup hm
    · obtain ⟨c, h1, _⟩ := look hy
      exact ⟨c, h1⟩
  · have z : (scope.names.lookup y == some NameKind.cell) = true := z
    have z : scope.names.lookup y = some .cell := by simpa using z
    rcases mem e with ⟨_, _, h⟩ | ⟨h, _⟩
    · have q := L.uniq _ h
      rw [z] at q
      cases q
    · exact Nat.le_of_succ_le h
  · have z : b ∈ ex := z
    obtain ⟨⟨_, _, _, _, f5, _⟩, hlt⟩ := hex b z
    refine ⟨Nat.ne_of_lt hlt, fun x c e q => ?_⟩
    rcases mem e with ⟨h, _⟩ | ⟨h, _⟩
    · exact f5 x c h q
    · rw [q] at h
      exact absurd (Nat.lt_of_lt_of_le hlt (Nat.le_of_succ_le h)) (Nat.lt_irrefl _)
  · have z : b ∈ ex := z
    obtain ⟨⟨_, _, _, f4, _, _⟩, _⟩ := hex b z
    rcases f4 with f4 | f4
    · exact I.ok.noex b o q f4
    · exact absurd (Nat.lt_of_lt_of_le (Heap.lt_size q) (Nat.le_trans I.ok.bsz f4)) (Nat.lt_irrefl _)
  · have z : b ∈ ex := z
    obtain ⟨⟨_, f2, f3, _⟩, _⟩ := hex b z
    rcases stk b q with k | k
    · exact f2 k
    · exact f3 k
  · have e3 : Vis scope y := e3
    obtain ⟨e2', hni⟩ := wipe_some e2
    rcases e3 with k | k | k
    · exact absurd (hN i y e1 (L.loc y (.inl k))) hni
    · exact absurd (hN i y e1 (L.loc y (.inr k))) hni
    · obtain ⟨m, hn, hl⟩ := I.loc
      have hvis : Vis X.env.scope y := (L.free _ (PySem.mem_of_lookup k) rfl).elim (fun k => .inr (.inl k)) (fun k => .inr (.inr k))
      obtain ⟨w', r, q⟩ := hl i y v e1 e2' hvis
      obtain ⟨c2, h2, c1⟩ := look k
      refine ⟨w', r, .inr ⟨.inr k, c2, h2, ?_⟩⟩
      rcases q with ⟨k', _⟩ | ⟨_, c3, e', z⟩
      · have k' : X.env.scope.names.lookup y = some .local := k'
        rcases L.free _ (PySem.mem_of_lookup k) rfl with k2 | k2 <;> rw [show X.env.scope.names.lookup y = _ from k2] at k' <;> cases k'
      · rw [c1] at e'
        cases e'
        exact cellK z
  · rcases mem e with ⟨h, _⟩ | ⟨h, _, h2⟩
    · obtain ⟨w', z⟩ := I.cell y c h
      exact ⟨w', cellK z⟩
    · exact ⟨none, hce c h h2⟩
  · rcases mem e with ⟨h, _⟩ | ⟨h, _⟩
    · exact I.freeC y c h
    · exact e0.hok.fresh (Nat.le_of_succ_le h)
end
end
end VS


set_option Elab.async false
set_option linter.all false
set_option maxRecDepth 100000
/-! VG1: a generator expression's loops: one clause, two clauses. -/
namespace VS
noncomputable section
open PySem PySem.Spec PyProof.Rows L2 GenW
/-- what takes a generator's things: its own objects at C, what they are when ys is out, what is asked at each thing -/
structure Cons where
  C : List Addr
  Ψ : List V → List Obj → Prop
  Yl : List V → V → Hp → Prop → Prop
  mono : ∀ ys y H p q, (p → q) → Yl ys y H p → Yl ys y H q
  nocell : ∀ ys os, Ψ ys os → ∀ o ∈ os, ∀ v, o.data ≠ .cell v
  len : ∀ ys os, Ψ ys os → os.length = C.length
  small : ∀ ys os, Ψ ys os → ys.length ≤ sizeLine
  n0 : Nat
  big : sizeLine ≤ n0
abbrev YlT := List V → V → Hp → Prop → Prop
/-- running: ys is out -/
def GIc (X : Cx) (G : Cons) (s₀ : Shared) (ip : List (Addr × Obj)) (ys : List V) (σ : L2.St) (H : Hp) (s : Shared) : Prop := ∃ os, (G.Ψ ys os ∧ ∀ p ∈ G.C.zip os, s₀.heap.get? p.1 = some p.2) ∧ Inv X (G.C.zip os ++ ip) σ H s
/-- the taker has taken x; its own objects alone have changed -/
structure SleptC (G : Cons) (ys : List V) (x : V) (s s' : Shared) : Prop where
  os : s'.os = s.os
  bare : AllBare s'.gens
  keep : ∀ b o, b ∉ G.C → s.heap.get? b = some o → s'.heap.get? b = some o
  own : ys.length < sizeLine → ∀ os, G.Ψ ys os → (∀ p ∈ G.C.zip os, s.heap.get? p.1 = some p.2) → ∃ os', G.Ψ (ys ++ [x]) os' ∧ ∀ p ∈ G.C.zip os', s'.heap.get? p.1 = some p.2
def GYc (X : Cx) (G : Cons) : Protocol := fun n s₀ v s kap =>
  ∃ ys x ip σ H, n + 1 + ys.length = G.n0 ∧ ys.length < sizeLine ∧ RelV x v ∧ GIc X G s₀ ip ys σ H s ∧ G.Yl ys x H (∀ s', SleptC G ys x s s' → kap (.send .none) s')
theorem zip_mem {α β : Type} {l : List α} {m : List β} {p : α × β} (h : p ∈ l.zip m) : p.1 ∈ l ∧ p.2 ∈ m := List.of_mem_zip h
theorem GIc.woken {X : Cx} {G : Cons} {ip : List (Addr × Obj)} {ys : List V} {x : V} {σ : L2.St} {H : Hp} {s s' s₀ : Shared} (hpn : ∀ p ∈ X.pn, p.1 ∉ G.C) (hip : ∀ p ∈ ip, p.1 ∉ G.C) (hA : ∀ S ∈ G.C, Apart X S) (hle : ys.length < sizeLine) (h : GIc X G s₀ ip ys σ H s) (z : SleptC G ys x s s') :
    GIc X G s' ip (ys ++ [x]) σ H s' := by
  obtain ⟨os, ⟨hΨ, _⟩, I⟩ := h
  have at_ : ∀ p ∈ G.C.zip os, s.heap.get? p.1 = some p.2 ∧ H p.1 = none ∧ p.1 ≠ X.env.locals ∧ p.1 ∉ X.fs := fun p hp =>
    let ⟨h1, h2, h3, h4, _⟩ := I.pin p (List.mem_append_right _ (List.mem_append_left _ hp)); ⟨h1, h2, h3, h4⟩
  have atC : ∀ S ∈ G.C, H S = none ∧ S ≠ X.env.locals ∧ S ∉ X.fs := fun S hS => by
    obtain ⟨i, hi, e⟩ := List.getElem_of_mem hS
    have hl := G.len _ _ hΨ
    have hm : (S, os[i]'(by omega)) ∈ G.C.zip os := by
      have : (G.C.zip os)[i]'(by simp; omega) = (S, os[i]'(by omega)) := by simp [e]
      rw [← this]; exact List.getElem_mem _
    obtain ⟨_, h2, h3, h4⟩ := at_ _ hm
    exact ⟨h2, h3, h4⟩
  have I0 : Inv X ip σ H s := I.pins_of fun p hp => I.pin p (List.mem_append_right _ (List.mem_append_right _ hp))
  have nt : ∀ b u, H b = some u → b ∉ G.C := fun b u q hb => by rw [(atC b hb).1] at q; cases q
  obtain ⟨z1, z2, z3, z4⟩ := z
  obtain ⟨os', hΨ', e'⟩ := z4 hle os hΨ fun p hp => (at_ p hp).1
  obtain ⟨hh, g, d, t, o⟩ := s'
  have ho : o = s.os := z1
  subst ho
  have there : ∀ S ∈ G.C, ∃ o, hh.get? S = some o := fun S hS => by
    obtain ⟨i, hi, e⟩ := List.getElem_of_mem hS
    have hl := G.len _ _ hΨ'
    have hm : (S, os'[i]'(by omega)) ∈ G.C.zip os' := by
      have : (G.C.zip os')[i]'(by simp; omega) = (S, os'[i]'(by omega)) := by simp [e]
      rw [← this]; exact List.getElem_mem _
    exact ⟨_, e' _ hm⟩
  have J : Inv X ip σ H { s with heap := hh, gens := g, drawn := d, toks := t } := by
    refine I0.step (g' := g) (t' := t) (d' := d) (ch := G.C) (fun b hb => ?_)
      (fun b ob _ _ hc q _ => z3 b ob hc q) (fun b ob _ _ hc q _ => ⟨ob.slots, z3 b ob hc q⟩) (fun _ _ _ _ n => n) (fun b ob hc q => ⟨ob, z3 b ob hc q⟩)
      (fun _ _ q => q) (fun _ _ _ q => q) (fun b ps q => ⟨#[], by rw [q]; simp⟩) (fun m hm => ?_) (fun b u q => ?_) z2
    · refine ⟨.inr (hA b hb).1, (hA b hb).2.1, (hA b hb).2.2, fun p hp => ?_⟩
      rcases List.mem_append.mp hp with hp | hp
      · exact fun e => hpn p hp (e ▸ hb)
      · exact fun e => hip p hp (e ▸ hb)
    · obtain ⟨ob, es, ep, ho, r⟩ := hm
      exact ⟨ob, es, ep, z3 _ ob (fun hb => (atC _ hb).2.1 rfl) ho, r⟩
    · refine (I0.hok b u q).stay (fun c v hc y => z3 c v ?_ y) (fun _ y => y) fun _ _ y => y
      rcases hc with y | y
      · rw [y]; exact nt b u q
      · exact nt c _ y
  refine ⟨os', ⟨hΨ', e'⟩, J.pins_of fun p hp => ?_⟩
  rcases List.mem_append.mp hp with hp | hp
  · obtain ⟨h1, h2⟩ := zip_mem hp
    exact ⟨e' p hp, (atC _ h1).1, (atC _ h1).2.1, (atC _ h1).2.2, G.nocell _ _ hΨ' _ h2⟩
  · exact J.pin p (List.mem_append_right _ hp)
/-- what the turns are to hold, m turns before the end -/
def gxIn (Yl : YlT) (J : It) (tb : TG) (tt : TT) (te : TE) (cont : List V → L2.St → Hp → Prop) : Nat → Nat → List V → L2.St → Hp → Prop
  | 0, i, ys, σ, H => J.stop i H ∧ cont ys σ H
  | m + 1, i, ys, σ, H => J.go i H ∧ ∀ x H', J.yld i H x H' → tb x σ H' fun σ1 H1 => tt σ1 H1 fun b H2 => match b with
    | true => te σ1 H2 fun y H3 => ys.length < sizeLine ∧ Yl ys y H3 (gxIn Yl J tb tt te cont m (i + 1) (ys ++ [y]) σ1 H3)
    | false => gxIn Yl J tb tt te cont m (i + 1) ys σ1 H2
/-- two clauses: each turn of the first one walks the second -/
def gxOut (Yl : YlT) (J : It) (tb : TG) (tt : TT) (wi1 : TI) (tb1 : TG) (tt1 : TT) (te : TE) (cont : List V → L2.St → Hp → Prop) : Nat → Nat → List V → L2.St → Hp → Prop
  | 0, i, ys, σ, H => J.stop i H ∧ cont ys σ H
  | m + 1, i, ys, σ, H => J.go i H ∧ ∀ x H', J.yld i H x H' → tb x σ H' fun σ1 H1 => tt σ1 H1 fun b H2 => match b with
    | true => wi1 σ1 H2 fun J1 H3 => ∃ m1, gxIn Yl J1 tb1 tt1 te (fun ys' σ' H' => gxOut Yl J tb tt wi1 tb1 tt1 te cont m (i + 1) ys' σ' H') m1 0 ys σ1 H3
    | false => gxOut Yl J tb tt wi1 tb1 tt1 te cont m (i + 1) ys σ1 H2
/-- one turn of the last clause -/
def genTurn (c : Code) (elt tg iter : Expr) (ifs : List Expr) (it : Value) (env : Env) : Sem PySem.Fin := do
  standAt iter.pos
  match ← pyNext it with
  | none => pure (.done .next)
  | some v =>
    letOwnedTupleGo tg it v
    assign tg env v
    let mut ok := true
    for c in ifs do
      if ok then ok ← isTrue c env (eval c env)
    if ok then
      (do let v ← eval elt env; standAt elt.pos; let _ ← yieldOut env v)
    again c
theorem turn_one (elt tg iter : Expr) (ifs : List Expr) (scope : Scope) (pos : Pos) (it acc : Value) (env : Env) :
    compTurn (.GeneratorExp elt [⟨tg, iter, ifs, 0⟩] scope pos) 0 it acc env = genTurn (.compLoop (.GeneratorExp elt [⟨tg, iter, ifs, 0⟩] scope pos) 0 it acc env) elt tg iter ifs it env := by rfl
theorem turn_in (elt tg iter tg1 iter1 : Expr) (ifs ifs1 : List Expr) (scope : Scope) (pos : Pos) (it acc : Value) (env : Env) :
    compTurn (.GeneratorExp elt [⟨tg, iter, ifs, 0⟩, ⟨tg1, iter1, ifs1, 0⟩] scope pos) 1 it acc env = genTurn (.compLoop (.GeneratorExp elt [⟨tg, iter, ifs, 0⟩, ⟨tg1, iter1, ifs1, 0⟩] scope pos) 1 it acc env) elt tg1 iter1 ifs1 it env := by rfl
theorem turn_out (elt tg iter tg1 iter1 : Expr) (ifs ifs1 : List Expr) (scope : Scope) (pos : Pos) (it acc : Value) (env : Env) :
    compTurn (.GeneratorExp elt [⟨tg, iter, ifs, 0⟩, ⟨tg1, iter1, ifs1, 0⟩] scope pos) 0 it acc env = (do
      standAt iter.pos
      match ← pyNext it with
      | none => pure (.done .next)
      | some v =>
        letOwnedTupleGo tg it v
        assign tg env v
        let mut ok := true
        for c in ifs do
          if ok then ok ← isTrue c env (eval c env)
        if ok then
          let x ← eval iter1 env
          standAt iter1.pos
          let x ← foldedSetIterable iter1 env x
          let _ ← runOwn (.compStart (.GeneratorExp elt [⟨tg, iter, ifs, 0⟩, ⟨tg1, iter1, ifs1, 0⟩] scope pos) 1 (← holding [x] (pyIter x)) acc env) env
        again (.compLoop (.GeneratorExp elt [⟨tg, iter, ifs, 0⟩, ⟨tg1, iter1, ifs1, 0⟩] scope pos) 0 it acc env)) := by rfl
/-- an iterator's parts, apart from all that stands -/
def FpS (Y : Cx) (C : List Addr) (ip : List (Addr × Obj)) (b : Addr) : Prop :=
  b ≠ Y.env.locals ∧ b ∉ Y.fs ∧ (b ∈ Y.ex ∨ Y.s_0.heap.objs.size ≤ b) ∧ (∀ x c, Y.env.cells.lookup x = some c → c ≠ b) ∧ (∀ p ∈ Y.pn, p.1 ≠ b) ∧ b ∉ C ∧ ∀ p ∈ ip, p.1 ≠ b
theorem FpS.ok {Y : Cx} {C : List Addr} {ip : List (Addr × Obj)} {b : Addr} {os : List Obj} {H : Hp} (h : FpS Y C ip b) (hn : H b = none) : FpOk Y (C.zip os ++ ip) H b := by
  obtain ⟨h1, h2, h3, h4, h5, h6, h7⟩ := h
  refine ⟨hn, h1, h2, h3, h4, fun p hp => ?_⟩
  rcases List.mem_append.mp hp with z | z
  · exact h5 p z
  · rcases List.mem_append.mp z with z | z
    · exact fun e => h6 (e ▸ (zip_mem z).1)
    · exact h7 p z
theorem FpS.of {Y : Cx} {C : List Addr} {ip : List (Addr × Obj)} {b : Addr} {os : List Obj} {H : Hp} (hl : os.length = C.length) (h : FpOk Y (C.zip os ++ ip) H b) : FpS Y C ip b := by
  obtain ⟨h0, h1, h2, h3, h4, h5⟩ := h
  refine ⟨h1, h2, h3, h4, fun p hp => h5 p (List.mem_append_left _ hp), fun hb => ?_, fun p hp => h5 p (List.mem_append_right _ (List.mem_append_right _ hp))⟩
  obtain ⟨i, hi, e⟩ := List.getElem_of_mem hb
  have hm : (b, os[i]'(by omega)) ∈ C.zip os := by
    have : (C.zip os)[i]'(by simp; omega) = (b, os[i]'(by omega)) := by simp [e]
    rw [← this]; exact List.getElem_mem _
  exact h5 _ (List.mem_append_right _ (List.mem_append_left _ hm)) rfl
/-- where a generator expression's loop runs -/
structure GL (Y : Cx) (C : List Addr) (ip : List (Addr × Obj)) (A : Around) (c : Code) (fs : List Frame) : Prop where
  pn : ∀ p ∈ Y.pn, p.1 ∉ C
  ip : ∀ p ∈ ip, p.1 ∉ C
  apart : ∀ S ∈ C, Apart Y S
  over : A.over c fs = Y.A
  split : splitAtGen fs = none
  guard : fs.any Frame.guarded = false
section
variable {Y : Cx} {A : Around} {W : Cons} {it : Addr} {ip : List (Addr × Obj)} {fp : List Addr} {tn : Nat → Heap → Prop} {J : It} {tg elt iter : Expr} {ifs : List Expr} {tb : TG} {tt : TT} {te : TE} {cont : List V → L2.St → Hp → Prop} {c : Code} {fs : List Frame} {R : GenEnd}
/-- the loop of the last clause -/
theorem gx_in (T : Turn Y.prog Y.w Y.K tg J fp it tn) (hc : Y.calm = true) (hxe : Y.xe = fun _ _ => False) (hco : Y.env.scope.isCoroutine = false) (pg : PG Y tg tb) (pt : PTs Y ifs tt) (pe : PE Y elt te)
    (G : GL Y W.C ip A c fs) {HH : Value → Sem Unit} (hden : (model Y.prog Y.w).den c = (genTurn c elt tg iter ifs (.ref it) Y.env).onRaise HH) (hq : c.quiet = true) (hf : ∀ b ∈ fp, FpS Y W.C ip b)
    (hend : ∀ (n : Nat) (ys : List V) (σ : L2.St) (H : Hp) (s₀ s : Shared), n + ys.length = W.n0 → GIc Y W s₀ ip ys σ H s → cont ys σ H → Seg (model Y.prog Y.w) A R (GYc Y W) n s₀ c (.pure (.done .next)) fs s) :
    ∀ (m n i : Nat) (ys : List V) (σ : L2.St) (H : Hp) (s₀ s : Shared), n + ys.length = W.n0 → GIc Y W s₀ ip ys σ H s → tn i s.heap → (∀ b ∈ fp, H b = none) → gxIn W.Yl J tb tt te cont m i ys σ H →
      Seg (model Y.prog Y.w) A R (GYc Y W) n s₀ c ((model Y.prog Y.w).den c) fs s := by
  intro m
  induction m with
  | zero =>
    intro n i ys σ H s₀ s hn hI st nf hl
    obtain ⟨stop, hq'⟩ := hl
    obtain ⟨os, hΨ, I⟩ := hI
    rw [hden, genTurn, Sem.onRaise_eq_wrap]
    refine seg_bind_wrap (wpAny_standAt ?_)
    refine seg_bind_wrap ?_
    rw [G.over]
    refine wpAny_mono (T.done Y rfl rfl rfl hc i _ s σ H (fun _ _ => False) I (fun b hb => (hf b hb).ok (nf b hb)) st stop) (fun r s1 h => ?_) fun _ _ z => z.elim
    obtain ⟨rfl, I1⟩ := h
    exact hend n ys σ H s₀ s1 hn ⟨os, hΨ, I1⟩ hq'
  | succ m ih =>
    intro n i ys σ H s₀ s hn hI st nf hl
    obtain ⟨go, hl⟩ := hl
    obtain ⟨os, hΨ, I⟩ := hI
    rw [hden, genTurn, Sem.onRaise_eq_wrap]
    refine seg_bind_wrap (wpAny_standAt ?_)
    refine seg_bind_wrap ?_
    rw [G.over]
    refine wpAny_mono (T.item Y rfl rfl rfl hc i _ s σ H (fun _ _ => False) I (fun b hb => (hf b hb).ok (nf b hb)) st go) (fun r s1 h => ?_) fun _ _ z => z.elim
    obtain ⟨u, rfl, h⟩ := h
    refine seg_bind_wrap ?_
    rw [G.over]
    refine wpAny_mono h (fun _ s2 h => ?_) fun _ _ z => z.elim
    obtain ⟨x, H', I2, rx, y2, st2, nf2⟩ := h
    have I2' := I2.pinned (fun b hb => (hf b hb).ok (nf2 b hb)) (T.obj _ _ st2)
    refine seg_bind_wrap ?_
    rw [G.over]
    refine wpAny_mono (pg.run _ s2 σ H' x u _ I2' rx (hl x H' y2)) (fun _ s3 h => ?_) fun _ _ z => by rw [hxe] at z; exact z.elim
    obtain ⟨σ1, H1, I3, h3⟩ := h
    refine seg_bind_wrap ?_
    rw [G.over]
    refine wpAny_mono (pt.run _ s3 σ1 H1 _ I3 h3) (fun b s4 h => ?_) fun _ _ z => by rw [hxe] at z; exact z.elim
    obtain ⟨H2, I4, h4⟩ := h
    have pin' : ∀ {σ' : L2.St} {H' : Hp} {s' : Shared}, Inv Y ((W.C.zip os ++ ip) ++ pinsAt fp s2.heap) σ' H' s' → ∀ b ∈ fp, ∀ o, s2.heap.get? b = some o → s'.heap.get? b = some o ∧ H' b = none := fun I' b hb o e =>
      let z := I'.pin (b, o) (List.mem_append_right _ (List.mem_append_right _ (mem_pinsAt hb e)))
      ⟨z.1, z.2.1⟩
    have nf' : ∀ {σ' : L2.St} {H' : Hp} {s' : Shared}, Inv Y ((W.C.zip os ++ ip) ++ pinsAt fp s2.heap) σ' H' s' → ∀ b ∈ fp, H' b = none := fun I' b hb => by
      obtain ⟨o, e, _⟩ := T.obj _ _ st2 b hb
      exact (pin' I' b hb o e).2
    cases b with
    | false =>
      simp only [Bool.false_eq_true, if_false]
      exact seg_again hq (ih n (i + 1) ys σ1 H2 s₀ s4 hn ⟨os, hΨ, by have I4 := I4; rw [List.append_assoc] at I4; exact I4.pins_of fun p hp => I4.pin p (List.mem_append_right _ ((List.mem_append.mp hp).elim (fun z => List.mem_append_left _ z) fun z => List.mem_append_right _ (List.mem_append_left _ z)))⟩ (T.keep _ _ _ st2 fun b hb o e => (pin' I4 b hb o e).1) (nf' I4) h4)
    | true =>
      simp only [if_true]
      have hy : ∀ v, yieldOut Y.env v = yieldValue v := fun v => by simp only [yieldOut, hco, Bool.false_eq_true, if_false]
      simp only [hy]
      rw [Sem.bind_eq_wrap', Sem.bind_eq_wrap', Sem.wrap_wrap, Sem.wrap_wrap]
      refine seg_wrap ?_
      rw [G.over]
      refine wpAny_mono (pe.run _ s4 σ1 H2 _ I4 h4) (fun v s5 h => ?_) fun _ _ z => by rw [hxe] at z; exact z.elim
      obtain ⟨y, H3, I5, ry, hle, h5⟩ := h
      have hn1 : ∃ k, n = k + 1 := ⟨n - 1, by have := W.big; omega⟩
      obtain ⟨k, rfl⟩ := hn1
      have hG : GIc Y W s₀ (ip ++ pinsAt fp s2.heap) ys σ1 H3 s5 := ⟨os, hΨ, by rw [← List.append_assoc]; exact I5⟩
      have hip : ∀ p ∈ ip ++ pinsAt fp s2.heap, p.1 ∉ W.C := fun p hp q => by
        rcases List.mem_append.mp hp with z | z
        · exact G.ip p z q
        · exact (hf p.1 (of_pinsAt z).1).2.2.2.2.2.1 q
      refine seg_at (seg_yield G.split rfl G.guard ⟨ys, y, _, σ1, H3, by omega, hle, ry, hG, W.mono _ _ _ _ _ (fun h5 => fun s' z => ?_) h5⟩)
      have hG' := GIc.woken G.pn hip G.apart hle hG z
      obtain ⟨os', hΨ', I6⟩ := hG'
      refine seg_again hq (ih k (i + 1) (ys ++ [y]) σ1 H3 s' s' (by simp; omega) ⟨os', hΨ', I6.pins_of fun p hp => I6.pin p (List.mem_append_right _ ?_)⟩ (T.keep _ _ _ st2 fun b hb o e => ?_) (fun b hb => ?_) h5)
      · rcases List.mem_append.mp hp with q | q
        · exact List.mem_append_left _ q
        · exact List.mem_append_right _ (List.mem_append_left _ q)
      · exact (I6.pin (b, o) (List.mem_append_right _ (List.mem_append_right _ (List.mem_append_right _ (mem_pinsAt hb e))))).1
      · obtain ⟨o, e, _⟩ := T.obj _ _ st2 b hb
        exact (I6.pin (b, o) (List.mem_append_right _ (List.mem_append_right _ (List.mem_append_right _ (mem_pinsAt hb e))))).2.1
end
section
variable {Y : Cx} {A : Around} {W : Cons} {it : Addr} {fp : List Addr} {tn : Nat → Heap → Prop} {J : It} {tg elt iter tg1 iter1 : Expr} {ifs ifs1 : List Expr} {tb tb1 : TG} {tt tt1 : TT} {te : TE} {wi1 : TI} {cont : List V → L2.St → Hp → Prop} {R : GenEnd} {scope : Scope} {pos : Pos}
/-- the loop of the first of two clauses -/
theorem gx_out (T : Turn Y.prog Y.w Y.K tg J fp it tn) (hc : Y.calm = true) (hxe : Y.xe = fun _ _ => False) (hco : Y.env.scope.isCoroutine = false) (pg : PG Y tg tb) (pt : PTs Y ifs tt)
    (pi1 : PI Y tg1 iter1 wi1) (pg1 : PG Y tg1 tb1) (pt1 : PTs Y ifs1 tt1) (pe : PE Y elt te)
    (G : GL Y W.C [] A (.compLoop (.GeneratorExp elt [⟨tg, iter, ifs, 0⟩, ⟨tg1, iter1, ifs1, 0⟩] scope pos) 0 (.ref it) .none Y.env) []) (hf : ∀ b ∈ fp, FpS Y W.C [] b) (hs : ∀ x, foldedSetIterable iter1 Y.env x = pure x)
    (hend : ∀ (n : Nat) (ys : List V) (σ : L2.St) (H : Hp) (s₀ s : Shared), n + ys.length = W.n0 → GIc Y W s₀ [] ys σ H s → cont ys σ H → Seg (model Y.prog Y.w) A R (GYc Y W) n s₀ (.compLoop (.GeneratorExp elt [⟨tg, iter, ifs, 0⟩, ⟨tg1, iter1, ifs1, 0⟩] scope pos) 0 (.ref it) .none Y.env) (.pure (.done .next)) [] s) :
    ∀ (m n i : Nat) (ys : List V) (σ : L2.St) (H : Hp) (s₀ s : Shared), n + ys.length = W.n0 → GIc Y W s₀ [] ys σ H s → tn i s.heap → (∀ b ∈ fp, H b = none) → gxOut W.Yl J tb tt wi1 tb1 tt1 te cont m i ys σ H →
      Seg (model Y.prog Y.w) A R (GYc Y W) n s₀ (.compLoop (.GeneratorExp elt [⟨tg, iter, ifs, 0⟩, ⟨tg1, iter1, ifs1, 0⟩] scope pos) 0 (.ref it) .none Y.env) ((model Y.prog Y.w).den (.compLoop (.GeneratorExp elt [⟨tg, iter, ifs, 0⟩, ⟨tg1, iter1, ifs1, 0⟩] scope pos) 0 (.ref it) .none Y.env)) [] s := by
  intro m
  induction m with
  | zero =>
    intro n i ys σ H s₀ s hn hI st nf hl
    obtain ⟨stop, hq'⟩ := hl
    obtain ⟨os, hΨ, I⟩ := hI
    show Seg _ A _ _ _ s₀ _ ((compTurn (.GeneratorExp elt [⟨tg, iter, ifs, 0⟩, ⟨tg1, iter1, ifs1, 0⟩] scope pos) 0 (.ref it) .none Y.env).onRaise (leaving Y.env)) [] s
    rw [turn_out, Sem.onRaise_eq_wrap]
    refine seg_bind_wrap (wpAny_standAt ?_)
    refine seg_bind_wrap ?_
    rw [G.over]
    refine wpAny_mono (T.done Y rfl rfl rfl hc i _ s σ H (fun _ _ => False) I (fun b hb => (hf b hb).ok (nf b hb)) st stop) (fun r s1 h => ?_) fun _ _ z => z.elim
    obtain ⟨rfl, I1⟩ := h
    exact hend n ys σ H s₀ s1 hn ⟨os, hΨ, I1⟩ hq'
  | succ m ih =>
    intro n i ys σ H s₀ s hn hI st nf hl
    obtain ⟨go, hl⟩ := hl
    obtain ⟨os, hΨ, I⟩ := hI
    show Seg _ A _ _ _ s₀ _ ((compTurn (.GeneratorExp elt [⟨tg, iter, ifs, 0⟩, ⟨tg1, iter1, ifs1, 0⟩] scope pos) 0 (.ref it) .none Y.env).onRaise (leaving Y.env)) [] s
    rw [turn_out, Sem.onRaise_eq_wrap]
    refine seg_bind_wrap (wpAny_standAt ?_)
    refine seg_bind_wrap ?_
    rw [G.over]
    refine wpAny_mono (T.item Y rfl rfl rfl hc i _ s σ H (fun _ _ => False) I (fun b hb => (hf b hb).ok (nf b hb)) st go) (fun r s1 h => ?_) fun _ _ z => z.elim
    obtain ⟨u, rfl, h⟩ := h
    refine seg_bind_wrap ?_
    rw [G.over]
    refine wpAny_mono h (fun _ s2 h => ?_) fun _ _ z => z.elim
    obtain ⟨x, H', I2, rx, y2, st2, nf2⟩ := h
    have I2' := I2.pinned (fun b hb => (hf b hb).ok (nf2 b hb)) (T.obj _ _ st2)
    refine seg_bind_wrap ?_
    rw [G.over]
    refine wpAny_mono (pg.run _ s2 σ H' x u _ I2' rx (hl x H' y2)) (fun _ s3 h => ?_) fun _ _ z => by rw [hxe] at z; exact z.elim
    obtain ⟨σ1, H1, I3, h3⟩ := h
    refine seg_bind_wrap ?_
    rw [G.over]
    refine wpAny_mono (pt.run _ s3 σ1 H1 _ I3 h3) (fun b s4 h => ?_) fun _ _ z => by rw [hxe] at z; exact z.elim
    obtain ⟨H2, I4, h4⟩ := h
    cases b with
    | false =>
      simp only [Bool.false_eq_true, if_false]
      refine seg_again rfl (ih n (i + 1) ys σ1 H2 s₀ s4 hn ⟨os, hΨ, by have I4 := I4; rw [List.append_assoc] at I4; exact I4.pins_of fun p hp => I4.pin p (List.mem_append_right _ ((List.mem_append.mp hp).elim (fun z => List.mem_append_left _ z) fun z => List.mem_append_right _ (List.mem_append_left _ z)))⟩ (T.keep _ _ _ st2 fun b hb o e => (I4.pin (b, o) (List.mem_append_right _ (List.mem_append_right _ (mem_pinsAt hb e)))).1) (fun b hb => ?_) h4)
      obtain ⟨o, e, _⟩ := T.obj _ _ st2 b hb
      exact (I4.pin (b, o) (List.mem_append_right _ (List.mem_append_right _ (mem_pinsAt hb e)))).2.1
    | true =>
      simp only [if_true]
      refine seg_bind_wrap ?_
      rw [G.over]
      refine wpAny_mono (pi1.run _ s4 σ1 H2 _ I4 h4) (fun v s5 h => ?_) fun _ _ z => by rw [hxe] at z; exact z.elim
      refine seg_bind_wrap (wpAny_standAt ?_)
      refine seg_bind_wrap (wpAny_of_eq (hs v) ?_)
      refine seg_bind_wrap (wpAny_holding ?_)
      rw [G.over]
      refine wpAny_mono h (fun itv s6 h => ?_) fun _ _ z => by rw [hxe] at z; exact z.elim
      obtain ⟨it1, fp1, tn1, J1, H3, rfl, I5, T1, st5, ff5, m1, h5⟩ := h
      have G1 : ∀ (k : Result → Sem PySem.Fin) (c' : Code) (l kp : List Value) (p : Pos), c'.weight = 0 → c'.cUnits = 0 → GL Y W.C (pinsAt fp s2.heap) A c' (.ret k none false l (.compLoop (.GeneratorExp elt [⟨tg, iter, ifs, 0⟩, ⟨tg1, iter1, ifs1, 0⟩] scope pos) 0 (.ref it) .none Y.env) p kp :: []) := fun k c' l kp p hw hu =>
        ⟨G.pn, fun q hq z => (hf q.1 (of_pinsAt hq).1).2.2.2.2.2.1 z, G.apart, (over_loop hw hu).trans G.over, rfl, rfl⟩
      rw [Sem.bind_eq_wrap', Sem.wrap_wrap]
      refine seg_call fun p => ?_
      have mem1 : ∀ {σ' : L2.St} {H' : Hp} {s' : Shared} {os' : List Obj}, Inv Y (W.C.zip os' ++ pinsAt fp s2.heap) σ' H' s' → ∀ b ∈ fp, ∀ o, s2.heap.get? b = some o → s'.heap.get? b = some o ∧ H' b = none := fun I' b hb o e =>
        let z := I'.pin (b, o) (List.mem_append_right _ (List.mem_append_right _ (mem_pinsAt hb e)))
        ⟨z.1, z.2.1⟩
      have loop : ∀ (k : Result → Sem PySem.Fin) (l kp : List Value) (p : Pos), (∀ (n' : Nat) (ys' : List V) (σ' : L2.St) (H' : Hp) (s₀' s' : Shared), n' + ys'.length = W.n0 → GIc Y W s₀' (pinsAt fp s2.heap) ys' σ' H' s' → gxOut W.Yl J tb tt wi1 tb1 tt1 te cont m (i + 1) ys' σ' H' → Seg (model Y.prog Y.w) A R (GYc Y W) n' s₀' (.compLoop (.GeneratorExp elt [⟨tg, iter, ifs, 0⟩, ⟨tg1, iter1, ifs1, 0⟩] scope pos) 0 (.ref it) .none Y.env) (k (.ok .next)) [] s') →
          Seg (model Y.prog Y.w) A R (GYc Y W) n s₀ (.compLoop (.GeneratorExp elt [⟨tg, iter, ifs, 0⟩, ⟨tg1, iter1, ifs1, 0⟩] scope pos) 1 (.ref it1) .none Y.env) ((model Y.prog Y.w).den (.compLoop (.GeneratorExp elt [⟨tg, iter, ifs, 0⟩, ⟨tg1, iter1, ifs1, 0⟩] scope pos) 1 (.ref it1) .none Y.env))
            (.ret k none false l (.compLoop (.GeneratorExp elt [⟨tg, iter, ifs, 0⟩, ⟨tg1, iter1, ifs1, 0⟩] scope pos) 0 (.ref it) .none Y.env) p kp :: []) s6 := fun k l kp p hk =>
        gx_in (iter := iter1) (cont := fun ys' σ' H' => gxOut W.Yl J tb tt wi1 tb1 tt1 te cont m (i + 1) ys' σ' H') T1 hc hxe hco pg1 pt1 pe (G1 k _ l kp p rfl rfl) (HH := fun x => do noteFrame x Y.env; theTreesLotGoes x) rfl rfl (fun b hb => FpS.of (W.len _ _ hΨ.1) (by have q := ff5 b hb; rw [List.append_nil] at q; exact q))
          (fun n' ys' σ' H' s₀' s' hn' hI' hq' => seg_leaf (.ok .next) (hk n' ys' σ' H' s₀' s' hn' hI' hq')) m1 n 0 ys σ1 H3 s₀ s6 hn ⟨os, hΨ, by rw [List.append_nil] at I5; exact I5⟩ st5 (fun b hb => (ff5 b hb).1) h5
      have next : ∀ (n' : Nat) (ys' : List V) (σ' : L2.St) (H' : Hp) (s₀' s' : Shared), n' + ys'.length = W.n0 → GIc Y W s₀' (pinsAt fp s2.heap) ys' σ' H' s' → gxOut W.Yl J tb tt wi1 tb1 tt1 te cont m (i + 1) ys' σ' H' → Seg (model Y.prog Y.w) A R (GYc Y W) n' s₀' (.compLoop (.GeneratorExp elt [⟨tg, iter, ifs, 0⟩, ⟨tg1, iter1, ifs1, 0⟩] scope pos) 0 (.ref it) .none Y.env) (.pure (.again (.compLoop (.GeneratorExp elt [⟨tg, iter, ifs, 0⟩, ⟨tg1, iter1, ifs1, 0⟩] scope pos) 0 (.ref it) .none Y.env))) [] s' := by
        intro n' ys' σ' H' s₀' s' hn' hI' hq'
        obtain ⟨os', hΨ', I'⟩ := hI'
        refine seg_again rfl (ih n' (i + 1) ys' σ' H' s₀' s' hn' ⟨os', hΨ', I'.pins_of fun q hq => I'.pin q (List.mem_append_right _ (List.mem_append_left _ (by rw [List.append_nil] at hq; exact hq)))⟩ (T.keep _ _ _ st2 fun b hb o e => (mem1 I' b hb o e).1) (fun b hb => ?_) hq')
        · obtain ⟨o, e, _⟩ := T.obj _ _ st2 b hb
          exact (mem1 I' b hb o e).2
      show Seg _ A _ _ _ s₀ _ ((compStart (.GeneratorExp elt [⟨tg, iter, ifs, 0⟩, ⟨tg1, iter1, ifs1, 0⟩] scope pos) 1 (.ref it1) .none Y.env).onRaise (fun x => do noteFrame x Y.env; standAt theWindowsPlace)) _ s6
      unfold compStart
      rw [Sem.onRaise_eq_wrap]
      show Seg _ A _ _ _ s₀ _ ((ask >>= _).wrap _ _ _ _) _ s6
      refine seg_bind_wrap (wpAny_askSetting ?_)
      split
      · exact seg_again rfl (loop _ _ _ p next)
      · first
          | exact seg_bind_wrap (wpAny_rule (seg_bind_wrap (wpAny_standAt (seg_bind_wrap (T1.self _ 0 s6 _ _ st5 (seg_again rfl (loop _ _ _ p next)))))))
          | (refine seg_bind_wrap (wpAny_rule ?_); show Seg _ A _ _ _ s₀ _ ((standAt iter1.pos >>= _).wrap _ _ _ _) _ s6; exact seg_bind_wrap (wpAny_standAt (seg_bind_wrap (T1.self _ 0 s6 _ _ st5 (seg_again rfl (loop _ _ _ p next))))))
end
end
end VS


set_option Elab.async false
set_option linter.all false
set_option maxRecDepth 100000
/-! VG2: a generator expression's code object and its table; it is a generator that has not begun. -/
namespace VS
noncomputable section
open PySem PySem.Spec PyProof.Rows L2
section
variable {X : Cx} {pins : List (Addr × Obj)} {σ : L2.St} {H H' : Hp} {s : Shared} {T : List TK} {P : Addr}
/-- what stands is tracked from now on -/
theorem track {a : Addr} {o : HO} (I : Inv X pins σ H s) (hn : H a = none) (ho : ObjOk X.prog X.w (upd H a o) s.heap a o) (h1 : X.s_0.heap.objs.size ≤ a) (h2 : a ≠ X.env.locals) (h3 : ∀ x c, X.env.cells.lookup x = some c → c ≠ a) (h4 : ∀ p ∈ X.pn ++ pins, p.1 ≠ a) :
    Inv X pins σ (upd H a o) s := by
  have ne : ∀ b u, H b = some u → b ≠ a := fun b u e => ne_of_none e hn
  have J := I.step (H' := upd H a o) (h' := s.heap) (g' := s.gens) (t' := s.toks) (d' := s.drawn) (ch := [a]) (fun b hb => by
      rw [List.mem_singleton.mp hb]
      exact ⟨.inr h1, h2, h3, h4⟩) (fun b o _ _ _ e _ => e) (fun b o _ _ _ e _ => ⟨o.slots, e⟩) (fun b o' hb e n => by
      rw [upd_ne (fun z => hb (by rw [z]; exact List.mem_singleton.mpr rfl))]
      exact n) (fun b o _ e => ⟨o, e⟩) (fun b xs e => by rw [upd_ne (ne _ _ e)]; exact e) (fun b o u e => by rw [upd_ne (ne _ _ e)]; exact e) (fun b ps e => ⟨#[], by rw [upd_ne (ne _ _ e), e]; simp⟩) (fun m h => h) (fun b u e => by
      by_cases hb : b = a
      · subst hb
        rw [upd_same] at e
        cases e
        exact ho
      · rw [upd_ne hb] at e
        exact (I.hok b u e).stay (fun c v _ q => q) (fun c q => by rw [upd_ne (ne _ _ q)]; exact q) fun c xs q => by rw [upd_ne (ne _ _ q)]; exact q) I.bare
  exact J
theorem codeAmong_mid {pos : Pos} (l m : List Value) (h : TriplesOk l) : codeAmong pos (l ++ m) = match codeAmong pos l with
    | some c => some c
    | none => codeAmong pos m := by
  fun_induction TriplesOk l with
  | case1 => rfl
  | case2 a t b u x rest ih =>
    simp only [List.cons_append, codeAmong]
    split
    · rfl
    · exact ih h
  | case3 l h1 h2 => exact h.elim
/-- the table at P has grown by a code object (or had it): it is known from now on -/
structure GrownT (T : List TK) (P : Addr) (H H' : Hp) (t : TK) : Prop where
  dyn : t.dyn = true
  keep : ∀ b u, b ≠ P → H b = some u → H' b = some u
  grow : ∃ ps more, H P = some (.tbl ps) ∧ H' P = some (.tbl (ps ++ more))
  tabs : Tabs (t :: T) H'
theorem TabsS.grown {S S' : Addr → Prop} (c : Cl S H) (hs : ∀ Q, S Q → S' Q) (k1 : ∀ Q ps, H Q = some (.tbl ps) → ∃ more, H' Q = some (.tbl (ps ++ more))) (k2 : ∀ b o, H b = some (codO o) → H' b = some (codO o)) : ∀ {T : List TK}, TabsS S T H → TabsS S' T H'
  | [], _ => trivial
  | t :: T, ⟨h1, h2, h3⟩ => ⟨TabsS.grown c hs k1 k2 h1, hs _ h2, fun d => by
      obtain ⟨o, t2, pos, ps, g1, g2, g3, g4, g5, g6⟩ := h3 d
      obtain ⟨more, m⟩ := k1 _ _ g5
      obtain ⟨ps2, p1, p2, _⟩ := c t2.P (h1.mem g4)
      rw [g5] at p1
      cases p1
      exact ⟨o, t2, pos, _, k2 _ _ g1, g2, g3, g4, m, by rw [Array.toList_append]; exact codeAmong_app _ _ p2 g6⟩⟩
/-- a new code object c' with its table P' stands in the table at t2.P -/
theorem tabs_made {t2 : TK} {ps : Array Value} {pos : Pos} {c' : Addr} {o' : Obj} (h : Tabs T H) (ht : t2 ∈ T) (hP : H t2.P = some (.tbl ps)) (hf : codeAmong pos ps.toList = none) (hc : H c' = none) (hp : H (tabO o') = none) (hne : c' ≠ tabO o') (co : CodO o' c') :
    GrownT T t2.P H (upd (upd (upd H t2.P (.tbl (ps ++ #[rawInt pos.line, rawInt pos.col, .ref c']))) c' (codO o')) (tabO o') (.tbl #[])) ⟨c', tabO o', true⟩ := by
  have n1 : c' ≠ t2.P := fun e => by rw [e, hP] at hc; cases hc
  have n2 : tabO o' ≠ t2.P := fun e => by rw [e, hP] at hp; cases hp
  have other : ∀ b, b ≠ t2.P → b ≠ c' → b ≠ tabO o' → upd (upd (upd H t2.P (.tbl (ps ++ #[rawInt pos.line, rawInt pos.col, .ref c']))) c' (codO o')) (tabO o') (.tbl #[]) b = H b := fun b b1 b2 b3 => by rw [upd_ne b3, upd_ne b2, upd_ne b1]
  have atc : upd (upd (upd H t2.P (.tbl (ps ++ #[rawInt pos.line, rawInt pos.col, .ref c']))) c' (codO o')) (tabO o') (.tbl #[]) c' = some (codO o') := by rw [upd_ne hne, upd_same]
  have atP : upd (upd (upd H t2.P (.tbl (ps ++ #[rawInt pos.line, rawInt pos.col, .ref c']))) c' (codO o')) (tabO o') (.tbl #[]) t2.P = some (.tbl (ps ++ #[rawInt pos.line, rawInt pos.col, .ref c'])) := by rw [upd_ne (Ne.symm n2), upd_ne (Ne.symm n1), upd_same]
  have keep : ∀ b u, b ≠ t2.P → H b = some u → upd (upd (upd H t2.P (.tbl (ps ++ #[rawInt pos.line, rawInt pos.col, .ref c']))) c' (codO o')) (tabO o') (.tbl #[]) b = some u := fun b u hb e => by
    rw [other b hb (ne_of_none e hc) (ne_of_none e hp)]; exact e
  have k1 : ∀ Q qs, H Q = some (.tbl qs) → ∃ more, upd (upd (upd H t2.P (.tbl (ps ++ #[rawInt pos.line, rawInt pos.col, .ref c']))) c' (codO o')) (tabO o') (.tbl #[]) Q = some (.tbl (qs ++ more)) := fun Q qs e => by
    by_cases hQ : Q = t2.P
    · rw [hQ] at e ⊢
      rw [hP] at e
      cases e
      exact ⟨_, atP⟩
    · exact ⟨#[], by rw [keep Q _ hQ e]; simp⟩
  have k2 : ∀ b o, H b = some (codO o) → upd (upd (upd H t2.P (.tbl (ps ++ #[rawInt pos.line, rawInt pos.col, .ref c']))) c' (codO o')) (tabO o') (.tbl #[]) b = some (codO o) := fun b o e =>
    keep b _ (fun z => by rw [z, hP] at e; cases e) e
  obtain ⟨S, c, z⟩ := h
  obtain ⟨ps0, q1, q2, q3⟩ := c t2.P (z.mem ht)
  rw [hP] at q1
  cases q1
  refine ⟨rfl, keep, ⟨ps, _, hP, atP⟩, fun Q => S Q ∨ Q = tabO o', fun Q hQ => ?_, z.grown c (fun Q h => .inl h) k1 k2, .inr rfl, fun _ => ⟨o', t2, pos, _, atc, co, rfl, ht, atP, ?_⟩⟩
  · rcases hQ with hQ | rfl
    · by_cases e : Q = t2.P
      · subst e
        refine ⟨_, atP, by rw [Array.toList_append]; exact TriplesOk_snoc _ _ _ _ q2, fun pos' cv hcv => ?_⟩
        rw [Array.toList_append, codeAmong_mid _ _ q2] at hcv
        split at hcv
        · rename_i cv' e1
          obtain ⟨c2, o2, g1, g2, g3, g4⟩ := q3 pos' cv' e1
          cases hcv
          exact ⟨c2, o2, g1, k2 _ _ g2, g3, .inl g4⟩
        · have : cv = .ref c' := by
            simp only [List.toList_toArray, codeAmong, rawInt] at hcv
            split at hcv
            · cases hcv; rfl
            · simp [codeAmong] at hcv
          exact ⟨c', o', this, atc, co, .inr rfl⟩
      · obtain ⟨qs, g1, g2, g3⟩ := c Q hQ
        refine ⟨qs, keep Q _ e g1, g2, fun pos' cv hcv => ?_⟩
        obtain ⟨c2, o2, e1, e2, e3, e4⟩ := g3 pos' cv hcv
        exact ⟨c2, o2, e1, k2 _ _ e2, e3, .inl e4⟩
    · exact ⟨#[], upd_same, trivial, fun pos' cv hcv => by cases hcv⟩
  · rw [Array.toList_append, codeAmong_mid _ _ q2, hf]
    simp [codeAmong, rawInt]
/-- the code object that stands in the table already -/
theorem tabs_hit {t2 : TK} {ps : Array Value} {pos : Pos} {cv : Value} (h : Tabs T H) (ht : t2 ∈ T) (hP : H t2.P = some (.tbl ps)) (hf : codeAmong pos ps.toList = some cv) : ∃ t : TK, cv = .ref t.c ∧ GrownT T t2.P H H t := by
  obtain ⟨S, c, z⟩ := h
  obtain ⟨ps0, q1, q2, q3⟩ := c t2.P (z.mem ht)
  rw [hP] at q1
  cases q1
  obtain ⟨c2, o2, e1, e2, e3, e4⟩ := q3 pos cv hf
  exact ⟨⟨c2, tabO o2, true⟩, e1, rfl, fun b u _ e => e, ⟨ps, #[], hP, by rw [hP]; simp⟩, S, c, z, e4, fun _ => ⟨o2, t2, pos, ps, e2, e3, rfl, ht, hP, by rw [hf, e1]⟩⟩
theorem CodO.hd {o : Obj} {c : Addr} {h : Heap} (x : CodO o c) (e : h.get? c = some o) : PySem.W.CodeHd h c (tabO o) :=
  let ⟨vs, f, tf, fl, tg, inF, tx, tt, h1, h2, h3, h4, h5, h6, h7, h8, h9⟩ := x
  ⟨o, vs, f, tf, fl, tg, inF, tx, tt, e, h1, h2, h3, h4, h5, h6, h7, h8, h9⟩
/-- what is read off a new code object -/
theorem CodO.of {c P : Addr} {h : Heap} {ps : Array Value} (x : h.IsCode c P ps) (y : h.TableAt c P ps) : ∃ o, h.get? c = some o ∧ CodO o c ∧ tabO o = P := by
  obtain ⟨o, vs, f, tf, fl, tg, inF, tx, tt, e1, e2, e3, e4, e5, e6, e7, e8, e9, e10⟩ := PySem.W.CodeHd.of x y
  have hP : tabO o = P := by
    unfold tabO
    rw [e3]
    show (match vs.getD 11 .none with | .ref P => P | _ => 0) = P
    rw [e5]
  exact ⟨o, e1, ⟨vs, f, tf, fl, tg, inF, tx, tt, e2, e3, by rw [hP]; exact e4, by rw [hP]; exact e5, e6, e7, e8, e9, by rw [hP]; exact e10⟩, hP⟩
/-- the names that the built-ins are found by -/
def BM (base : Heap) (mg : Str → Option Value) : Prop := ∃ P, base.BuiltinsAt mg P
/-- the code that runs is known -/
def KT (base : Heap) (T : List TK) (cv : Value) : Prop := ∃ t ∈ T, cv = .ref t.c ∧ (t.dyn = false → PySem.W.CodeHd base t.c t.P ∧ mainGlobals ≠ t.P)
end
end
end VS


set_option Elab.async false
set_option linter.all false
set_option maxRecDepth 100000
/-! VG3: a generator expression is a generator that has not begun; PGen of it, one clause or two. -/
namespace VS
noncomputable section
open PySem PySem.Spec PyProof.Rows L2
def GRx (Y : Cx) (W : Cons) (cont : List V → Hp → Prop) : GenEnd := fun n s₀ r s => r = .ok .next ∧ ∃ ys σ H, n + ys.length = W.n0 ∧ GIc Y W s₀ [] ys σ H s ∧ cont ys H
/-- the end of a generator, seen by its taker -/
def REndC (P : Program) (w : World) (outer : List Env) (H : Hp) (sc : Shared) (ex : List Addr) (W : Cons) (Q : List V → Hp → Prop) : GenEnd := fun n s₀ r s1 =>
  r = .ok .next ∧ ∃ H' ys os, s1.os = sc.os ∧ AllBare s1.gens ∧ Un (frs outer) ex H H' sc.heap s1.heap ∧ HOk P w H' s1.heap ∧ W.Ψ ys os ∧ (∀ p ∈ W.C.zip os, s1.heap.get? p.1 = some p.2 ∧ H' p.1 = none ∧ s₀.heap.get? p.1 = some p.2) ∧ ys.length ≤ sizeLine ∧ Q ys H'
/-- a thing is handed out -/
def YItemC (P : Program) (w : World) (outer : List Env) (H : Hp) (sc : Shared) (ex : List Addr) (W : Cons) (a : Addr) (g : Nat) : Protocol := fun n s₀ v s1 kap =>
  s1.os = sc.os ∧ AllBare s1.gens ∧ s1.heap.NoLimit ∧ s1.heap.IsGen a g ∧ ∃ ys x H' os, n + 1 + ys.length = W.n0 ∧ ys.length < sizeLine ∧ RelV x v ∧ W.Ψ ys os ∧ (∀ p ∈ W.C.zip os, s1.heap.get? p.1 = some p.2 ∧ H' p.1 = none ∧ s₀.heap.get? p.1 = some p.2) ∧ Un (frs outer) ex H H' sc.heap s1.heap ∧ HOk P w H' s1.heap ∧
    W.Yl ys x H' (∀ s', SleptC W ys x s1 s' → kap (.send .none) s')
/-- a generator that has not begun -/
def GMadeC (P : Program) (w : World) (k : Nat) (outer : List Env) (H : Hp) (sc : Shared) (ex : List Addr) (Yl : YlT) (Q : List V → Hp → Prop) (u : Value) (s' : Shared) : Prop :=
  ∃ (a : Addr) (g : Nat) (c : Code), u = .ref a ∧ sc.heap.objs.size ≤ a ∧ a < s'.heap.objs.size ∧ s'.heap.IsGen a g ∧ s'.gens[g]? = some (.fresh c) ∧ s'.os = sc.os ∧ AllBare s'.gens ∧ s'.heap.NoLimit ∧ (∀ b o, sc.heap.get? b = some o → s'.heap.get? b = some o) ∧
    ∀ (A : Around) (W : Cons) (s2 : Shared), W.Yl = Yl → Room k A → A.frames = some outer → (∀ S ∈ W.C, s'.heap.objs.size ≤ S) → (∀ b o, s'.heap.get? b = some o → s2.heap.get? b = some o) → (∃ os, W.Ψ [] os ∧ ∀ p ∈ W.C.zip os, s2.heap.get? p.1 = some p.2) → s2.os = sc.os → AllBare s2.gens →
      Seg (model P w) A (REndC P w outer H sc ex W Q) (YItemC P w outer H sc ex W a g) W.n0 s2 c ((model P w).den c) [] s2
section
variable {X : Cx}
/-- the generator made, from where its code object stands -/
theorem gx_made {pins : List (Addr × Obj)} {σ : L2.St} {H : Hp} {sc : Shared} {scope : Scope} {own : List Str} {slots : List Nat} {tg elt iter : Expr} {ifs : List Expr} {more : List Comprehension} {pos : Pos} {k : Nat} {Yl : YlT} {cont : List V → Hp → Prop}
    {it : Addr} {fp : List Addr} {tn : Nat → Heap → Prop} {J : It} {code : Value} {h' : Heap} {tk : Nat} {go : Obj} {nm qn : Value}
    (I : Inv X pins σ H sc) (L : GxS X.env.scope scope own) (hN : ∀ (i : Nat) (y : Str), X.N[i]? = some y → y = (".0" : Str) ∨ y ∈ own → i ∈ slots)
    (T : Turn X.prog X.w X.K tg J fp it tn) (st : tn 0 sc.heap) (ff : ∀ b ∈ fp, FpOk X pins H b)
    (hseg : ∀ (A : Around) (W : Cons) (s2 : Shared) (pn : List (Addr × Obj)), W.Yl = Yl → Room k (A.deeper (gxEnv X scope sc.heap.objs.size code)) →
      GL (gxCx X A sc H scope sc.heap.objs.size code fp pn) W.C [] A (.compLoop (.GeneratorExp elt (⟨tg, iter, ifs, 0⟩ :: more) scope pos) 0 (.ref it) .none (gxEnv X scope sc.heap.objs.size code)) [] →
      (∀ b ∈ fp, FpS (gxCx X A sc H scope sc.heap.objs.size code fp pn) W.C [] b) → GIc (gxCx X A sc H scope sc.heap.objs.size code fp pn) W s2 [] [] (wipe σ slots) H s2 → tn 0 s2.heap →
      Seg (model X.prog X.w) A (GRx (gxCx X A sc H scope sc.heap.objs.size code fp pn) W cont) (GYc (gxCx X A sc H scope sc.heap.objs.size code fp pn) W) W.n0 s2 (.compLoop (.GeneratorExp elt (⟨tg, iter, ifs, 0⟩ :: more) scope pos) 0 (.ref it) .none (gxEnv X scope sc.heap.objs.size code))
        ((model X.prog X.w).den (.compLoop (.GeneratorExp elt (⟨tg, iter, ifs, 0⟩ :: more) scope pos) 0 (.ref it) .none (gxEnv X scope sc.heap.objs.size code))) [] s2)
    (hns : h'.Ns sc.heap.objs.size fun y => if y = (".0" : Str) then some (.ref it) else none) (hsb : Heap.SameBut sc.heap.objs.size (pushCells (sc.heap.push { cls := .type "frame", data := .dict #[] }) scope.names) h')
    (hgc : go.cls = .type "generator") (hgd : go.data = .fields #[.int sc.gens.size 0, nm, qn]) (hgs : go.slots = #[]) (hfree : go.isFreed = false) :
    GMadeC X.prog X.w (k + 1) X.stack H sc fp Yl cont (.ref h'.objs.size) { sc with gens := sc.gens.push (.fresh (.compStart (.GeneratorExp elt (⟨tg, iter, ifs, 0⟩ :: more) scope pos) 0 (.ref it) .none (gxEnv X scope sc.heap.objs.size code))), toks := tk, heap := h'.push go } := by
  have kp1 : ∀ b o, sc.heap.get? b = some o → h'.get? b = some o := fun b o e => hsb.extBut b o (Nat.ne_of_lt (Heap.lt_size e)) (pushCells_keeps _ _ _ _ (Heap.get?_push_of_some _ e))
  have lt1 : sc.heap.objs.size < h'.objs.size := hns.lt
  have kp2 : ∀ b o, h'.get? b = some o → (h'.push go).get? b = some o := fun b o e => Heap.get?_push_of_some _ e
  have hpushed : (h'.push go).get? h'.objs.size = some go := Heap.get?_push_size _ hfree
  have hgen : ∀ h : Heap, h.get? h'.objs.size = some go → h.IsGen h'.objs.size sc.gens.size := fun h e => ⟨go, nm, qn, e, hgc, hgd, hgs⟩
  refine ⟨h'.objs.size, sc.gens.size, _, rfl, Nat.le_of_lt lt1, ?_, hgen _ hpushed, Array.getElem?_push_size .., rfl, AllBare.push I.bare rfl, I.nolimit.keeps fun b o e => kp2 b o (kp1 b o e), fun b o e => kp2 b o (kp1 b o e), ?_⟩
  · show _ < (h'.push _).objs.size
    rw [Heap.size_push]; exact Nat.lt_succ_self _
  intro A W s2 hW hrA hfr hS hk2 hSo hos hba
  have hr' : Room k (A.deeper (gxEnv X scope sc.heap.objs.size code)) := hrA.deeper _
  have sz : ∀ b ∈ fp, b < sc.heap.objs.size := fun b hb => by
    obtain ⟨o, e, _⟩ := T.obj _ _ st b hb
    exact Heap.lt_size e
  have kp3 : ∀ b o, sc.heap.get? b = some o → s2.heap.get? b = some o := fun b o e => hk2 b o (kp2 b o (kp1 b o e))
  have hns2 : s2.heap.Ns sc.heap.objs.size fun y => if y = (".0" : Str) then some (.ref it) else none := hns.keeps fun b o e => hk2 b o (kp2 b o e)
  have I2 : Inv (gxCx X A sc H scope sc.heap.objs.size code fp []) [] (wipe σ slots) H s2 :=
    gx_start I L hrA.hd hfr hns2 kp3 hos hba (fun c hc hk => let ⟨o, ho, hd⟩ := hk { cls := .type "frame", data := .dict #[] }; ⟨o, hk2 _ _ (kp2 _ _ (hsb.extBut c o (Nat.ne_of_gt hc) ho)), hd⟩) (fun b hb => ⟨ff b hb, sz b hb⟩) hN
  have hSz : ∀ S ∈ W.C, h'.objs.size < S := fun S hC => by
    have h9 : (h'.push go).objs.size ≤ S := hS S hC
    rw [Heap.size_push] at h9
    exact h9
  obtain ⟨os, hΨ, heS⟩ := hSo
  have hea : s2.heap.get? h'.objs.size = some go := hk2 _ go hpushed
  have hgd' : ∀ v, go.data ≠ .cell v := fun v q => by rw [hgd] at q; cases q
  have young : ∀ b, h'.objs.size ≤ b → H b = none ∧ b ≠ sc.heap.objs.size ∧ b ∉ frs X.stack ∧ sc.heap.objs.size ≤ b ∧ ∀ y c, (gxEnv X scope sc.heap.objs.size code).cells.lookup y = some c → c ≠ b := fun b hb => by
    have hlt := Nat.lt_of_lt_of_le lt1 hb
    refine ⟨I.hok.fresh (Nat.le_of_lt hlt), Nat.ne_of_gt hlt, fun z => ?_, Nat.le_of_lt hlt, fun y c e z => ?_⟩
    · rcases List.mem_cons.mp (I.stkSub b z) with k | k
      · rw [k] at hlt; exact absurd (Nat.lt_trans hlt I.lt) (Nat.lt_irrefl _)
      · exact I.nofs (Nat.le_of_lt hlt) k
    · rcases gx_cells I L e with ⟨h1, h2, _⟩ | ⟨_, _, h3⟩
      · rw [z] at h2
        exact absurd (Nat.lt_trans hlt h2) (Nat.lt_irrefl _)
      · obtain ⟨o, ho, _⟩ := h3 { cls := .type "frame", data := .dict #[] }
        by_cases q : c = sc.heap.objs.size
        · rw [q] at z
          rw [← z] at hlt
          exact Nat.lt_irrefl _ hlt
        · have := Heap.lt_size (hsb.extBut c o q ho)
          rw [z] at this
          exact absurd (Nat.lt_of_lt_of_le this hb) (Nat.lt_irrefl _)
  have hG : GIc (gxCx X A sc H scope sc.heap.objs.size code fp [(h'.objs.size, go)]) W s2 [] [] (wipe σ slots) H s2 := by
    refine ⟨os, ⟨hΨ, heS⟩, ⟨⟨I2.ok.mod, I2.ok.kind, I2.ok.glob, I2.ok.blt, I2.ok.above, I2.ok.inj, I2.ok.has, I2.ok.cab, I2.ok.hd, I2.ok.frames, I2.ok.stk, I2.ok.exf, I2.ok.bs, I2.ok.bsz, I2.ok.noex, I2.ok.exfs, I2.ok.funs, I2.ok.frf⟩, I2.os, I2.bare, I2.base, I2.loc, I2.cell, I2.free, I2.freeC, fun p hp => ?_, I2.hok, I2.len⟩⟩
    rcases List.mem_append.mp hp with z | z
    · rw [List.mem_singleton.mp z]
      obtain ⟨y1, y2, y3, _, _⟩ := young h'.objs.size (Nat.le_refl _)
      exact ⟨hea, y1, y2, y3, hgd'⟩
    · rw [List.append_nil] at z
      obtain ⟨z1, z2⟩ := zip_mem z
      obtain ⟨y1, y2, y3, _, _⟩ := young p.1 (Nat.le_of_lt (hSz _ z1))
      exact ⟨heS p z, y1, y2, y3, W.nocell _ _ hΨ _ z2⟩
  have hAp : ∀ S ∈ W.C, Apart (gxCx X A sc H scope sc.heap.objs.size code fp [(h'.objs.size, go)]) S := fun S hC => by
    obtain ⟨_, y2, _, y4, y5⟩ := young S (Nat.le_of_lt (hSz S hC))
    exact ⟨y4, y2, y5⟩
  have hpn : ∀ p ∈ [(h'.objs.size, go)], p.1 ∉ W.C := fun p hp z => by
    rw [List.mem_singleton.mp hp] at z
    exact Nat.lt_irrefl _ (hSz _ z)
  have hf : ∀ b ∈ fp, FpS (gxCx X A sc H scope sc.heap.objs.size code fp [(h'.objs.size, go)]) W.C [] b := fun b hb => by
    have h9 := sz b hb
    have hh : b ∈ (gxCx X A sc H scope sc.heap.objs.size code fp []).ex := hb
    refine ⟨Nat.ne_of_lt h9, I2.ok.exfs b hh, .inl hb, (I2.ok.exf b hh).2, fun p hp => ?_, fun z => Nat.lt_irrefl _ (Nat.lt_trans h9 (Nat.lt_trans lt1 (hSz _ z))), fun p hp => absurd hp List.not_mem_nil⟩
    rw [List.mem_singleton.mp hp]
    exact Nat.ne_of_gt (Nat.lt_trans h9 lt1)
  have st2 : tn 0 s2.heap := T.keep _ _ _ st fun b _ o e => kp3 b o e
  have ov1 : A.over (.compLoop (.GeneratorExp elt (⟨tg, iter, ifs, 0⟩ :: more) scope pos) 0 (.ref it) .none (gxEnv X scope sc.heap.objs.size code)) [] = A.deeper (gxEnv X scope sc.heap.objs.size code) := by
    first | rfl | simp [Around.over, Around.deeper, Around.under]
  have loop := hseg A W s2 [(h'.objs.size, go)] hW hr' ⟨hpn, fun p hp => absurd hp List.not_mem_nil, hAp, ov1, rfl, rfl⟩ hf hG st2
  have pinned : ∀ {ip : List (Addr × Obj)} {ys : List V} {s₀ s' : Shared} {σ' : L2.St} {H' : Hp}, GIc (gxCx X A sc H scope sc.heap.objs.size code fp [(h'.objs.size, go)]) W s₀ ip ys σ' H' s' → s'.heap.IsGen h'.objs.size sc.gens.size := fun {ip ys s₀ s' σ' H'} hI => by
    obtain ⟨os', _, J⟩ := hI
    exact hgen _ (J.pin (h'.objs.size, go) (List.mem_append_left _ (List.mem_singleton.mpr rfl))).1
  have imp : ∀ {c : Code} {t : Sem PySem.Fin} {s : Shared}, Seg (model X.prog X.w) A (GRx (gxCx X A sc H scope sc.heap.objs.size code fp [(h'.objs.size, go)]) W cont) (GYc (gxCx X A sc H scope sc.heap.objs.size code fp [(h'.objs.size, go)]) W) W.n0 s2 c t [] s →
      Seg (model X.prog X.w) A (REndC X.prog X.w X.stack H sc fp W cont) (YItemC X.prog X.w X.stack H sc fp W h'.objs.size sc.gens.size) W.n0 s2 c t [] s := fun hseg => by
    refine seg_imp (fun n s₀ r s1' hR => ?_) (fun n s₀ v s1' kap kap' hkk hY => ?_) W.n0 hseg
    · obtain ⟨rfl, ys, σ', H', hn, ⟨os', ⟨hΨ', h0⟩, J⟩, hQ⟩ := hR
      exact ⟨rfl, H', ys, os', J.os, J.bare, J.base, J.hok, hΨ', fun p hp => let z := J.pin p (List.mem_append_right _ (List.mem_append_left _ hp)); ⟨z.1, z.2.1, h0 p hp⟩, W.small _ _ hΨ', hQ⟩
    · obtain ⟨ys, xx, ip, σ', H', hn, h1, h2, hI, h3⟩ := hY
      have hg := pinned hI
      obtain ⟨os', ⟨hΨ', h0⟩, J⟩ := hI
      exact ⟨J.os, J.bare, J.nolimit, hg, ys, xx, H', os', hn, h1, h2, hΨ', fun p hp => let z := J.pin p (List.mem_append_right _ (List.mem_append_left _ hp)); ⟨z.1, z.2.1, h0 p hp⟩, J.base, J.hok, W.mono _ _ _ _ _ (fun q s' z => hkk _ _ (q s' z)) h3⟩
  refine imp ?_
  show Seg _ A _ _ _ s2 _ ((compStart (.GeneratorExp elt (⟨tg, iter, ifs, 0⟩ :: more) scope pos) 0 (.ref it) .none (gxEnv X scope sc.heap.objs.size code)).onRaise (leaving (gxEnv X scope sc.heap.objs.size code))) [] s2
  unfold compStart
  rw [Sem.onRaise_eq_wrap]
  show Seg _ A _ _ _ s2 _ ((ask >>= _).wrap _ _ _ _) [] s2
  refine seg_bind_wrap (wpAny_askSetting ?_)
  split
  · exact seg_again rfl loop
  · first
      | exact seg_bind_wrap (wpAny_rule (seg_bind_wrap (wpAny_standAt (seg_bind_wrap (T.self _ 0 s2 _ _ st2 (seg_again rfl loop))))))
      | (refine seg_bind_wrap (wpAny_rule ?_); show Seg _ A _ _ _ s2 _ ((standAt iter.pos >>= _).wrap _ _ _ _) [] s2; exact seg_bind_wrap (wpAny_standAt (seg_bind_wrap (T.self _ 0 s2 _ _ st2 (seg_again rfl loop)))))
end
end
end VS


set_option Elab.async false
set_option linter.all false
set_option maxRecDepth 100000
/-! VG4: PGen of a generator expression, one clause or two. -/
namespace VS
noncomputable section
open PySem PySem.Spec PyProof.Rows L2
theorem eval_gxN (elt target iter : Expr) (ifs : List Expr) (more : List Comprehension) (scope : Scope) (pos : Pos) (env : Env) (hco : scope.isCoroutine = false) :
    eval (.GeneratorExp elt (⟨target, iter, ifs, 0⟩ :: more) scope pos) env = (do
      let x ← eval iter env
      standAt iter.pos
      let x ← genFold iter env x
      let it ← holding [x] (pyIter x)
      enterFrame
      let cl ← closureFor scope env
      let code ← genexprCode env pos (env.qual ++ "<genexpr>") scope
      let bi ← builtinsFor env.globals env.builtins
      let cenv ← newFunctionEnv scope env.globals cl [(".0", it)] (env.qual ++ "<genexpr>.") none code none bi
      newGenerator (.compStart (.GeneratorExp elt (⟨target, iter, ifs, 0⟩ :: more) scope pos) 0 it .none cenv) "<genexpr>" (env.qual ++ "<genexpr>")) := by
  rw [arm_eval_GeneratorExp]
  simp only [hco, Bool.false_eq_true, if_false]
  cases iter <;> rfl
theorem wp_gxN {M : Model} {A : Around} {E : Value → Shared → Prop} {s : Shared} {env : Env} {elt target iter : Expr} {ifs : List Expr} {more : List Comprehension} {scope : Scope} {cl : List (Str × Addr)} {pos : Pos} {Q : Value → Shared → Prop}
    (hco : scope.isCoroutine = false) (hclos : closureFor scope env = pure cl) (h0 : scope.names.lookup (".0" : Str) = some NameKind.local) (hkind : scope.kind = .function)
    (hroom : A.depth < recursionLimit)
    (h : wpAny M A (eval iter env) (fun xv s₁ => wpAny M A (pyIter xv) (fun it s₂ => s₂.heap.NoLimit ∧
      wpAny M A (genexprCode env pos (env.qual ++ "<genexpr>") scope) (fun code s₃ => wpAny M A (builtinsFor env.globals env.builtins) (fun bi s₄ =>
        ∀ h', h'.Ns s₄.heap.objs.size (fun y => if y = ".0" then some it else none) → Heap.SameBut s₄.heap.objs.size (pushCells (s₄.heap.push { cls := .type "frame", data := .dict #[] }) scope.names) h' →
          Q (.ref h'.objs.size) { s₄ with
            gens := s₄.gens.push (.fresh (.compStart (.GeneratorExp elt (⟨target, iter, ifs, 0⟩ :: more) scope pos) 0 it .none (genEnv scope (cellsFrom (s₄.heap.objs.size + 1) scope.names cl) s₄.heap.objs.size code bi env))),
            toks := s₄.toks + 1 + 1 + 1,
            heap := h'.push { cls := .type "generator", data := .fields #[.int s₄.gens.size 0, .str "<genexpr>" (s₄.toks + 1), .str (env.qual ++ "<genexpr>") (s₄.toks + 1 + 1)] } }) E s₃) E s₂) E s₁) E s)
    (hs : ∀ x, genFold iter env x = pure x) :
    wpAny M A (eval (.GeneratorExp elt (⟨target, iter, ifs, 0⟩ :: more) scope pos) env) Q E s := by
  rw [eval_gxN _ _ _ _ _ _ _ _ hco, hclos]
  refine wpAny_bind (wpAny_mono h (fun xv s₁ h₁ => ?_) fun _ _ e => e)
  refine wpAny_bind (wpAny_standAt ?_)
  refine wpAny_bind (wpAny_of_eq (hs xv) ?_)
  refine wpAny_bind (wpAny_holding (wpAny_mono h₁ (fun it s₂ h₂ => ?_) fun _ _ e => e))
  refine wpAny_bind (wpAny_enterFrame h₂.1 hroom ?_)
  refine wpAny_bind (wpAny_pure ?_)
  refine wpAny_bind (wpAny_mono h₂.2 (fun code s₃ h₃ => ?_) fun _ _ e => e)
  refine wpAny_bind (wpAny_mono h₃ (fun bi s₄ h₄ => ?_) fun _ _ e => e)
  simp only [newFunctionEnv, Option.isSome_none, Bool.false_eq_true, if_false]
  refine wpAny_bind (wpAny_bind (wpAny_alloc ?_))
  refine wpAny_bind (wpAny_layCells _ (fun name kind cells => by cases hkc : kind == NameKind.cell <;> simp [hkc]) _ _ _ _ ?_)
  rw [show ({ s₄ with heap := s₄.heap.push { cls := .type "frame", data := .dict #[] } } : Shared).heap.objs.size = s₄.heap.objs.size + 1 from Heap.size_push ..]
  rw [List.forIn_cons]
  refine wpAny_bind (wpAny_bind (wpAny_bind (wpAny_storeName_local (m := fun _ => none) (show Env.kindOf _ _ = _ from h0) ((Heap.Ns.new s₄.heap (.type "frame")).keeps (pushCells_keeps _ _)) (fun h' hn' hs' => ?_) (by show (scope.kind == _ || _) = false; rw [hkind]; rfl))))
  refine wpAny_pure ?_
  show wpAny M A (forIn [] _ _) _ _ _
  rw [List.forIn_nil]
  refine wpAny_pure (wpAny_pure ?_)
  simp only [newGenerator, newFields]
  refine wpAny_bind (wpAny_newGen (wpAny_bind (wpAny_mkText (wpAny_bind (wpAny_mkText (wpAny_newObj_type ?_ (by size_fits)))))))
  exact h₄ h' hn' hs'
abbrev LpT := TK → It → YlT → (List V → L2.St → Hp → Prop) → Nat → List V → L2.St → Hp → Prop
abbrev TGenC := L2.St → Hp → YlT → (List V → Hp → Prop) → Prop
def tGx (T : List TK) (P : Addr) (wi : TI) (slots : List Nat) (lp : LpT) : TGenC := fun σ H Yl cont => wi σ H fun J H1 => Tabs T H1 ∧ ∀ H2 t, GrownT T P H1 H2 t → ∃ m, lp t J Yl (fun ys _ H => cont ys H) m [] (wipe σ slots) H2
/-- an expression that makes a generator -/
structure PGenC (X : Cx) (k : Nat) (e : Expr) (tg : TGenC) : Prop where
  run : ∀ (pins : List (Addr × Obj)) (s : Shared) (σ : L2.St) (H : Hp) (Yl : YlT) (cont : List V → Hp → Prop), Inv X pins σ H s → tg σ H Yl cont → wpAny (model X.prog X.w) X.A (eval e X.env)
    (fun u s' => ∃ H1 sc ex, Inv X pins σ H1 sc ∧ ExOk X pins ex ∧ GMadeC X.prog X.w k X.stack H1 sc ex Yl cont u s') X.xe s
section
variable {X : Cx}
theorem pgen_core {scope : Scope} {own : List Str} {slots : List Nat} {tg elt iter : Expr} {ifs : List Expr} {more : List Comprehension} {pos : Pos} {wi : TI} {lp : LpT} {k kk : Nat} {T : List TK} {t2 : TK}
    (hr : Room kk X.A) (bm : BM X.base X.mg) (ht2 : t2 ∈ T) (hcode : X.env.code = .ref t2.c) (hst : t2.dyn = false → PySem.W.CodeHd X.base t2.c t2.P ∧ mainGlobals ≠ t2.P) (L : GxS X.env.scope scope own) (hN : ∀ (i : Nat) (y : Str), X.N[i]? = some y → y = (".0" : Str) ∨ y ∈ own → i ∈ slots)
    (hi : PI X tg iter wi)
    (hlp : ∀ (A : Around) (W : Cons) (sc s2 : Shared) (σ : L2.St) (H : Hp) (C : Addr) (t : TK) (fp : List Addr) (pn : List (Addr × Obj)) (it : Addr) (tn : Nat → Heap → Prop) (J : It) (cont : List V → Hp → Prop) (m : Nat), Room k (A.deeper (gxEnv X scope C (.ref t.c))) → t.dyn = true → Turn X.prog X.w X.K tg J fp it tn →
      GL (gxCx X A sc H scope C (.ref t.c) fp pn) W.C [] A (.compLoop (.GeneratorExp elt (⟨tg, iter, ifs, 0⟩ :: more) scope pos) 0 (.ref it) .none (gxEnv X scope C (.ref t.c))) [] →
      (∀ b ∈ fp, FpS (gxCx X A sc H scope C (.ref t.c) fp pn) W.C [] b) → GIc (gxCx X A sc H scope C (.ref t.c) fp pn) W s2 [] [] (wipe σ slots) H s2 → tn 0 s2.heap → (∀ b ∈ fp, H b = none) → lp t J W.Yl (fun ys _ H => cont ys H) m [] (wipe σ slots) H →
      Seg (model X.prog X.w) A (GRx (gxCx X A sc H scope C (.ref t.c) fp pn) W cont) (GYc (gxCx X A sc H scope C (.ref t.c) fp pn) W) W.n0 s2 (.compLoop (.GeneratorExp elt (⟨tg, iter, ifs, 0⟩ :: more) scope pos) 0 (.ref it) .none (gxEnv X scope C (.ref t.c)))
        ((model X.prog X.w).den (.compLoop (.GeneratorExp elt (⟨tg, iter, ifs, 0⟩ :: more) scope pos) 0 (.ref it) .none (gxEnv X scope C (.ref t.c)))) [] s2)
    (hs : ∀ v, genFold iter X.env v = pure v) :
    PGenC X (k + 1) (.GeneratorExp elt (⟨tg, iter, ifs, 0⟩ :: more) scope pos) (tGx T t2.P wi slots lp) := by
  refine ⟨fun pins s σ H Yl cont I h => ?_⟩
  refine wp_gxN L.co (closure_ok (L.has I.ok)) L.dot L.kind (by have := hr.dp; omega) ?_ hs
  refine wpAny_mono (hi.run pins s σ H _ I h) (fun v s1 h1 => wpAny_mono h1 (fun itv s2 h2 => ?_) fun _ _ z => z) fun _ _ z => z
  obtain ⟨it, fp, tn, J, H1, rfl, I2, Tu, st2, ff, tab, hloop⟩ := h2
  obtain ⟨S0, cl0, ts0⟩ := id tab
  obtain ⟨ps, hP, hT, _⟩ := cl0 t2.P (ts0.mem ht2)
  have hPs : s2.heap.get? t2.P = some { cls := .none, data := .fields ps } := I2.hok t2.P _ hP
  have baseNe : ∀ {b : Addr} {o : Obj}, X.base.get? b = some o → b ≠ t2.P := fun {b o} e z => by
    have q := (I2.bs b o e).2
    rw [z, hP] at q
    cases q
  have cd : PySem.W.CodeHd s2.heap t2.c t2.P := by
    cases hd : t2.dyn with
    | false => exact (hst hd).1.keeps fun b u e => I2.bk b u e
    | true =>
      obtain ⟨o, g1, g2, g3⟩ := ts0.dyn ht2 hd
      have e : s2.heap.get? t2.c = some o := (I2.hok t2.c _ g1).1
      rw [g3]
      exact g2.hd e
  have gP : mainGlobals ≠ t2.P := by
    obtain ⟨o, _, _, e, _⟩ := I2.mod.glob
    exact baseNe e
  refine ⟨I2.nolimit, ?_⟩
  have main : ∀ (t : TK) (h3 : Heap) (tk : Nat) (H2 : Hp), Inv X pins σ H2 { s2 with heap := h3, toks := tk } → GrownT T t2.P H1 H2 t → Heap.ExtBut t2.P s2.heap h3 → s2.heap.objs.size ≤ h3.objs.size → (∀ b ∈ fp, H2 b = none) →
      wpAny (model X.prog X.w) X.A (builtinsFor X.env.globals X.env.builtins) (fun bi s₄ =>
        ∀ h', h'.Ns s₄.heap.objs.size (fun y => if y = ".0" then some (Value.ref it) else none) → Heap.SameBut s₄.heap.objs.size (pushCells (s₄.heap.push { cls := .type "frame", data := .dict #[] }) scope.names) h' →
          (∃ H1 sc ex, Inv X pins σ H1 sc ∧ ExOk X pins ex ∧ GMadeC X.prog X.w (k + 1) X.stack H1 sc ex Yl cont (.ref h'.objs.size) { s₄ with
            gens := s₄.gens.push (.fresh (.compStart (.GeneratorExp elt (⟨tg, iter, ifs, 0⟩ :: more) scope pos) 0 (.ref it) .none (genEnv scope (gxCl X scope s₄.heap.objs.size) s₄.heap.objs.size (.ref t.c) bi X.env))),
            toks := s₄.toks + 1 + 1 + 1,
            heap := h'.push { cls := .type "generator", data := .fields #[.int s₄.gens.size 0, .str "<genexpr>" (s₄.toks + 1), .str (X.env.qual ++ "<genexpr>") (s₄.toks + 1 + 1)] } })) X.xe { s2 with heap := h3, toks := tk } := by
    intro t h3 tk H2 J3 gr hx hsz fpn
    obtain ⟨_, bm, ob, e1, e2, e3, e4, e5, e6, e7, e8⟩ := bm
    refine wpAny_builtinsFor (m := X.mg) (by rw [I2.ok.glob]; exact (I2.mod.glob.keeps I2.bk).extBut hx gP) e1 e2 (hx _ _ (baseNe e5) (I2.bk _ _ e5)) e6 e7 e8 ?_
    intro h' hns hsb
    obtain ⟨m, hl⟩ := hloop _ t gr
    have nP : ∀ b ∈ fp, b ≠ t2.P := fun b hb z => by
      have q := (ff b hb).1
      rw [z, hP] at q
      cases q
    have ff3 : ∀ b ∈ fp, FpOk X pins H2 b := fun b hb => ⟨fpn b hb, (ff b hb).2⟩
    have st3 : tn 0 h3 := Tu.keep _ _ _ st2 fun b hb o e => hx b o (nP b hb) e
    exact ⟨_, { s2 with heap := h3, toks := tk }, fp, J3, fun b hb => ⟨(ff b hb).2.2.2.1, (ff b hb).2.1, (ff b hb).2.2.2.2.1, (ff b hb).2.2.2.2.2⟩,
      gx_made (sc := { s2 with heap := h3, toks := tk }) J3 L hN Tu st3 ff3 (fun A W s2' pn hW r G hf hG hst => hlp A W _ s2' σ H2 _ t fp pn it tn J cont m r gr.dyn Tu G hf hG hst fpn (by rw [hW]; exact hl)) hns hsb rfl rfl rfl rfl⟩
  cases hf : codeAmong pos ps.toList with
  | none =>
    refine wpAny_genexprCodeX hcode (cd.code hPs hT) (cd.tab hPs) hf fun c' h' tk hx hge hlt hco' hrec htab' hnew => ?_
    obtain ⟨o1, vs, f1, tf, fl, tg', inF, tx, tt', op, _, _, _, _, _, _, _, _, _, htr, _⟩ := hco'
    obtain ⟨P', hP', hcode', htabn⟩ := hnew
    obtain ⟨o', eo, co, ho'⟩ := CodO.of hcode' htabn
    subst ho'
    have hsz : s2.heap.objs.size ≤ h'.objs.size := Nat.le_trans hge (Nat.le_of_lt hlt)
    have J1 := GxR.inv_tab (more := #[rawInt pos.line, rawInt pos.col, .ref c']) (h' := h') (g' := s2.gens) (d' := s2.drawn) (t' := tk) I2 hP (fun b u hb e => hx b u hb e) htab'.2 I2.bare
    have nc : H1 c' = none := I2.hok.fresh hge
    have np : H1 (tabO o') = none := I2.hok.fresh hP'
    have n1 : c' ≠ t2.P := fun e => by rw [e, hP] at nc; cases nc
    have n2 : tabO o' ≠ t2.P := fun e => by rw [e, hP] at np; cases np
    have nct : c' ≠ tabO o' := by
      obtain ⟨_, _, _, _, _, _, _, _, _, _, _, _, _, _, _, _, q⟩ := co
      exact q
    have young : ∀ a, s2.heap.objs.size ≤ a → X.s_0.heap.objs.size ≤ a ∧ a ≠ X.env.locals ∧ (∀ x c, X.env.cells.lookup x = some c → c ≠ a) ∧ ∀ p ∈ X.pn ++ pins, p.1 ≠ a := fun a ha => by
      obtain ⟨_, f1, _, _, f4, f5⟩ := I2.fpOk (H' := H1) ha (I2.hok.fresh ha)
      exact ⟨Nat.le_trans I2.sz ha, f1, f4, f5⟩
    have J2 := track (a := c') (o := codO o') J1 (by rw [upd_ne n1]; exact nc) ⟨eo, o', eo⟩ (young c' hge).1 (young c' hge).2.1 (young c' hge).2.2.1 (young c' hge).2.2.2
    have J3 := track (a := tabO o') (o := .tbl #[]) J2 (by rw [upd_ne (Ne.symm nct), upd_ne n2]; exact np) (show h'.get? (tabO o') = some _ from htabn.2) (young _ hP').1 (young _ hP').2.1 (young _ hP').2.2.1 (young _ hP').2.2.2
    refine main ⟨c', tabO o', true⟩ h' tk _ J3 (tabs_made tab ht2 hP hf nc np nct co) hx hsz fun b hb => ?_
    have q := (ff b hb).1
    have hlt : b < s2.heap.objs.size := by
      obtain ⟨o, e, _⟩ := Tu.obj _ _ st2 b hb
      exact Heap.lt_size e
    rw [upd_ne (Nat.ne_of_lt (Nat.lt_of_lt_of_le hlt hP')), upd_ne (Nat.ne_of_lt (Nat.lt_of_lt_of_le hlt hge)), upd_ne (fun z => by rw [z, hP] at q; cases q)]
    exact q
  | some cv =>
    refine wpAny_genexprCode_hit hcode (cd.code hPs hT) hf ?_
    obtain ⟨t, ec, gr⟩ := tabs_hit tab ht2 hP hf
    subst ec
    exact main t s2.heap s2.toks H1 I2 gr (Heap.ExtBut.refl _ _) (Nat.le_refl _) fun b hb => (ff b hb).1
theorem pgen_one {scope : Scope} {own : List Str} {slots : List Nat} {tg elt iter : Expr} {ifs : List Expr} {pos : Pos} {wi : TI} {tb : TK → TG} {tt : TK → TT} {te : TK → TE} {k kk : Nat} {T : List TK} {t2 : TK}
    (hr : Room kk X.A) (bm : BM X.base X.mg) (ht2 : t2 ∈ T) (hcode : X.env.code = .ref t2.c) (hst : t2.dyn = false → PySem.W.CodeHd X.base t2.c t2.P ∧ mainGlobals ≠ t2.P) (L : GxS X.env.scope scope own) (hN : ∀ (i : Nat) (y : Str), X.N[i]? = some y → y = (".0" : Str) ∨ y ∈ own → i ∈ slots)
    (hi : PI X tg iter wi)
    (hg : ∀ (A : Around) (s : Shared) (H : Hp) (C : Addr) (t : TK) (ex : List Addr) (pn : List (Addr × Obj)), Room k (A.deeper (gxEnv X scope C (.ref t.c))) → t.dyn = true → PG (gxCx X A s H scope C (.ref t.c) ex pn) tg (tb t))
    (ht : ∀ (A : Around) (s : Shared) (H : Hp) (C : Addr) (t : TK) (ex : List Addr) (pn : List (Addr × Obj)), Room k (A.deeper (gxEnv X scope C (.ref t.c))) → t.dyn = true → PTs (gxCx X A s H scope C (.ref t.c) ex pn) ifs (tt t))
    (he : ∀ (A : Around) (s : Shared) (H : Hp) (C : Addr) (t : TK) (ex : List Addr) (pn : List (Addr × Obj)), Room k (A.deeper (gxEnv X scope C (.ref t.c))) → t.dyn = true → PE (gxCx X A s H scope C (.ref t.c) ex pn) elt (te t))
    (hs : ∀ v, genFold iter X.env v = pure v) :
    PGenC X (k + 1) (.GeneratorExp elt [⟨tg, iter, ifs, 0⟩] scope pos) (tGx T t2.P wi slots fun t J Yl cont m ys σ H => gxIn Yl J (tb t) (tt t) (te t) cont m 0 ys σ H) :=
  pgen_core hr bm ht2 hcode hst L hN hi (fun A W sc s2 σ H C t fp pn it tn J cont m r d Tu G hf hG hst fpn hl =>
    gx_in (Y := gxCx X A sc H scope C (.ref t.c) fp pn) (HH := leaving (gxEnv X scope C (.ref t.c))) Tu rfl rfl L.co (hg A sc H C t fp pn r d) (ht A sc H C t fp pn r d) (he A sc H C t fp pn r d) G rfl rfl hf
      (fun n ys σ H s₀ s hn hI hq => seg_end (.ok .next) ⟨rfl, ys, σ, H, hn, hI, hq⟩) m W.n0 0 [] (wipe σ slots) H s2 s2 (Nat.add_zero _) hG hst fpn hl) hs
theorem pgen_two {scope : Scope} {own : List Str} {slots : List Nat} {tg elt iter tg1 iter1 : Expr} {ifs ifs1 : List Expr} {pos : Pos} {wi : TI} {wi1 : TK → TI} {tb tb1 : TK → TG} {tt tt1 : TK → TT} {te : TK → TE} {k kk : Nat} {T : List TK} {t2 : TK}
    (hr : Room kk X.A) (bm : BM X.base X.mg) (ht2 : t2 ∈ T) (hcode : X.env.code = .ref t2.c) (hst : t2.dyn = false → PySem.W.CodeHd X.base t2.c t2.P ∧ mainGlobals ≠ t2.P) (L : GxS X.env.scope scope own) (hN : ∀ (i : Nat) (y : Str), X.N[i]? = some y → y = (".0" : Str) ∨ y ∈ own → i ∈ slots)
    (hi : PI X tg iter wi)
    (hg : ∀ (A : Around) (s : Shared) (H : Hp) (C : Addr) (t : TK) (ex : List Addr) (pn : List (Addr × Obj)), Room k (A.deeper (gxEnv X scope C (.ref t.c))) → t.dyn = true → PG (gxCx X A s H scope C (.ref t.c) ex pn) tg (tb t))
    (ht : ∀ (A : Around) (s : Shared) (H : Hp) (C : Addr) (t : TK) (ex : List Addr) (pn : List (Addr × Obj)), Room k (A.deeper (gxEnv X scope C (.ref t.c))) → t.dyn = true → PTs (gxCx X A s H scope C (.ref t.c) ex pn) ifs (tt t))
    (hi1 : ∀ (A : Around) (s : Shared) (H : Hp) (C : Addr) (t : TK) (ex : List Addr) (pn : List (Addr × Obj)), Room k (A.deeper (gxEnv X scope C (.ref t.c))) → t.dyn = true → PI (gxCx X A s H scope C (.ref t.c) ex pn) tg1 iter1 (wi1 t))
    (hg1 : ∀ (A : Around) (s : Shared) (H : Hp) (C : Addr) (t : TK) (ex : List Addr) (pn : List (Addr × Obj)), Room k (A.deeper (gxEnv X scope C (.ref t.c))) → t.dyn = true → PG (gxCx X A s H scope C (.ref t.c) ex pn) tg1 (tb1 t))
    (ht1 : ∀ (A : Around) (s : Shared) (H : Hp) (C : Addr) (t : TK) (ex : List Addr) (pn : List (Addr × Obj)), Room k (A.deeper (gxEnv X scope C (.ref t.c))) → t.dyn = true → PTs (gxCx X A s H scope C (.ref t.c) ex pn) ifs1 (tt1 t))
    (he : ∀ (A : Around) (s : Shared) (H : Hp) (C : Addr) (t : TK) (ex : List Addr) (pn : List (Addr × Obj)), Room k (A.deeper (gxEnv X scope C (.ref t.c))) → t.dyn = true → PE (gxCx X A s H scope C (.ref t.c) ex pn) elt (te t))
    (hs : ∀ v, genFold iter X.env v = pure v) (hs1 : ∀ C code x, foldedSetIterable iter1 (gxEnv X scope C code) x = pure x) :
    PGenC X (k + 1) (.GeneratorExp elt [⟨tg, iter, ifs, 0⟩, ⟨tg1, iter1, ifs1, 0⟩] scope pos) (tGx T t2.P wi slots fun t J Yl cont m ys σ H => gxOut Yl J (tb t) (tt t) (wi1 t) (tb1 t) (tt1 t) (te t) cont m 0 ys σ H) :=
  pgen_core hr bm ht2 hcode hst L hN hi (fun A W sc s2 σ H C t fp pn it tn J cont m r d Tu G hf hG hst fpn hl =>
    gx_out (Y := gxCx X A sc H scope C (.ref t.c) fp pn) Tu rfl rfl L.co (hg A sc H C t fp pn r d) (ht A sc H C t fp pn r d) (hi1 A sc H C t fp pn r d) (hg1 A sc H C t fp pn r d) (ht1 A sc H C t fp pn r d) (he A sc H C t fp pn r d) G hf (hs1 C _)
      (fun n ys σ H s₀ s hn hI hq => seg_end (.ok .next) ⟨rfl, ys, σ, H, hn, hI, hq⟩) m W.n0 0 [] (wipe σ slots) H s2 s2 (Nat.add_zero _) hG hst fpn hl) hs
end
end
end VS


set_option Elab.async false
set_option linter.all false
set_option maxRecDepth 100000
/-! VG5: what takes a made generator: all of it collected; tuple(g). -/
namespace VS
noncomputable section
open PySem PySem.Spec PyProof.Rows L2
section
variable {P : Program} {w : World} {outer : List Env} {H : Hp} {sc s : Shared} {ex : List Addr} {Q : List V → Hp → Prop} {EX : XK} {A : Around} {k : Nat} {u : Value} {E : Value → Shared → Prop}
/-- the end of a collecting: the list at S holds all that was handed out -/
structure Coll (P : Program) (w : World) (outer : List Env) (H : Hp) (sc s : Shared) (ex : List Addr) (Q : List V → Hp → Prop) (S : Addr) (acc : Array Value) (ys : List V) (H' : Hp) (s' : Shared) : Prop where
  young : s.heap.objs.size ≤ S
  at_ : ∃ c, s'.heap.get? S = some (lstObj acc c)
  vals : Vals ys acc.toList
  len : ys.length ≤ sizeLine
  os : s'.os = sc.os
  bare : AllBare s'.gens
  un : Un (frs outer) ex H H' sc.heap s'.heap
  hok : HOk P w H' s'.heap
  free : H' S = none
  q : Q ys H'
theorem collect_gm {Q' : List Value → Shared → Prop} (hr : Room (k + 3) A) (hfr : A.frames = some outer) (h : GMade P w k outer H sc ex Q EX u s)
    (hQ : ∀ S s' acc H' ys, Coll P w outer H sc s ex Q S acc ys H' s' → Q' acc.toList s')
    (hexc : ∀ e s' g, CX P w outer H sc EX e s' → NotStop (model P w) e s'.heap ∧ E e (s'.setGen g .finished)) :
    wpAny (model P w) A (collect u) Q' E s := by
  obtain ⟨a, g, c, rfl, ha1, ha2, hg, hgs, hos, hb, hl, hkp, wake⟩ := h
  have hSa : s.heap.objs.size ≠ a := Nat.ne_of_gt ha2
  have hcl : cStatics < s.heap.objs.size := let ⟨_, hn, _⟩ := hl; hn.lt
  have hSc : s.heap.objs.size ≠ cStatics := Nat.ne_of_gt hcl
  unfold collect
  refine wpAny_bind (wpAny_runValue (codeAny_builtin F.entry_proto_collect ?_))
  rw [Around.under_plainId F.plain_proto_collect _]
  show wpAny _ A.in1 (newList [] >>= fun l => again (.builtin "list.__iadd__" ⟨[l, .ref a], []⟩)) _ _ s
  refine wpAny_bind (wpAny_newObj_type ?_)
  refine wpAny_pure ⟨plainId_quiet F.plain_list_iadd _, codeAny_builtin F.entry_list_iadd ?_⟩
  rw [Around.under_plainId F.plain_list_iadd _]
  have hS1 : (s.heap.push { cls := .type "list", data := .seq ([] : List Value).toArray }).get? s.heap.objs.size = some { cls := .type "list", data := .seq ([] : List Value).toArray } := Heap.get?_push_size _ rfl
  have k1 : ∀ b o, s.heap.get? b = some o → (s.heap.push { cls := .type "list", data := .seq ([] : List Value).toArray }).get? b = some o := fun b o e => Heap.get?_push_of_some _ e
  have up : ∀ (h : Heap) (f : Obj → Obj), (∀ b o, s.heap.get? b = some o → h.get? b = some o) → ∀ b o, s.heap.get? b = some o → (h.update s.heap.objs.size f).get? b = some o := fun h f q b o e =>
    (Heap.get?_update_other _ _ (Ne.symm (Nat.ne_of_lt (Heap.lt_size e)))).trans (q b o e)
  have gty : ∀ {h : Heap}, (∀ b o, s.heap.get? b = some o → h.get? b = some o) → h.IsGen a g := fun {h} q => hg.keeps q
  show wpAny _ A.in1 (Builtin.List.listExtendWith (.ref s.heap.objs.size) (.ref a) (.ref s.heap.objs.size)) _ _ _
  unfold Builtin.List.listExtendWith
  refine wpAny_bind (wpAny_typeOf (Heap.IsGen.typeIs (s := { s with heap := _ }) (gty k1)) ?_)
  have h1 : Builtin.List.listSameRef (.ref s.heap.objs.size) (.ref a) = false := by simp [Builtin.List.listSameRef, hSa]
  have h2 : (Value.type "generator" == Value.type "list") = false := by decide
  have h3 : (Value.type "generator" == Value.type "tuple") = false := by decide
  simp only [h1, h2, h3, Bool.or_false, Bool.false_eq_true, if_false]
  refine wpAny_bind (wpAny_pyIter_gen (s := { s with heap := _ }) (gty k1) ?_)
  refine wpAny_bind (wpAny_holding ?_)
  unfold Builtin.List.listLengthHint
  refine wpAny_bind (wpAny_specialOf (Heap.IsGen.typeIs (s := { s with heap := _ }) (gty k1)) F.gen_no_len ?_)
  show wpAny _ A.in1 (specialOf (Value.ref a) (Str.ofString "__length_hint__") >>= _) _ _ _
  refine wpAny_bind (wpAny_specialOf (Heap.IsGen.typeIs (s := { s with heap := _ }) (gty k1)) F.gen_no_hint ?_)
  refine wpAny_pure ?_
  show wpAny _ A.in1 (rule "list.extend.makes-room" >>= fun _ => Builtin.List.listTouch (.ref s.heap.objs.size) >>= fun _ =>
    again (.builtin "list.extend.loop" ⟨[.ref s.heap.objs.size, .ref a, .ref s.heap.objs.size], []⟩)) _ _ _
  refine wpAny_bind (wpAny_rule ?_)
  refine wpAny_bind ?_
  show wpAny _ A.in1 (updateSeq s.heap.objs.size (·.push .none) >>= fun _ => updateSeq s.heap.objs.size (·.pop)) _ _ _
  refine wpAny_bind (wpAny_updateSeq hS1 rfl ?_)
  have hS2 := Heap.get?_update_self (Obj.mapSeq (·.push Value.none)) hS1 rfl
  refine wpAny_updateSeq (hz := by seq_fits) hS2 rfl ?_
  have hS3 := Heap.get?_update_self (Obj.mapSeq (·.pop)) hS2 rfl
  have k3 := up _ (Obj.mapSeq (·.pop)) (up _ (Obj.mapSeq (·.push Value.none)) k1)
  refine wpAny_pure ⟨plainId_quiet F.plain_extend_loop _, ?_⟩
  refine drain (P := P) (w := w) (outer := outer) (H := H) (sc := sc) (ex := ex) (Q := Q) (EX := EX) (A := A) (g := g) hr.hd (by have := hr.dp; omega) hSa hSc
    (fun s' acc c H' ys q1 q2 q3 q4 q5 q6 q7 q8 q9 => ?_) (fun e s' hc => hexc e s' g hc)
    sizeLine _ (gty k3) (hl.keeps k3) ⟨_, hgs, rfl, ?_⟩
  · show wpAny _ A (load s.heap.objs.size >>= _) _ _ s'
    refine wpAny_bind (wpAny_load q1 ?_)
    exact wpAny_pure (hQ s.heap.objs.size s' acc H' ys ⟨Nat.le_refl _, ⟨c, q1⟩, q2, q3, q4, q5, q6, q7, q8, q9⟩)
  · refine wake _ _ _ ⟨hr.hd, ?_, ?_⟩ hfr (Nat.le_refl _) k3 ⟨_, hS3⟩ hos (allBare_setGen (s := { s with heap := _ }) hb rfl)
    · have := hr.dp
      show A.depth + 3 * k + 5 < _
      omega
    · have := hr.un
      show A.units + 1 + 1 + 16 * k + 200 < _
      omega
theorem gm_type (h : GMade P w k outer H sc ex Q EX u s) : s.TypeIs u "generator" := by
  obtain ⟨a, g, c, rfl, ha1, ha2, hg, hgs, hos, hb, hl, hkp, wake⟩ := h
  exact hg.typeIs
theorem code_tuple_gm {Q₁ : Value → Shared → Prop} (hr : Room (k + 5) A) (hfr : A.frames = some outer) (h : GMade P w k outer H sc ex Q EX u s)
    (hQ : ∀ S s' acc H' ys, Coll P w outer H sc s ex Q S acc ys H' s' → Q₁ (.ref s'.heap.objs.size) { s' with heap := s'.heap.push { cls := .type "tuple", data := .seq acc } })
    (hexc : ∀ e s' g, CX P w outer H sc EX e s' → NotStop (model P w) e s'.heap ∧ E e (s'.setGen g .finished)) :
    codeAny (model P w) A (.call (.builtin "tuple.__new__") ⟨[.type "tuple", u], []⟩) (wants Q₁ E) s := by
  obtain ⟨a, rfl⟩ : ∃ a, u = .ref a := let ⟨a, _, _, e, _⟩ := h; ⟨a, e⟩
  refine codeAny_of_tree ?_
  show wpAny _ A.in1 (do checkBuiltinCall "tuple.__new__" ⟨[.type "tuple", .ref a], []⟩; again (.builtin "tuple.__new__" ⟨[.type "tuple", .ref a], []⟩)) _ _ s
  refine wpAny_bind (wpAny_of_eq (F.newCall_tuple_1 _) (wpAny_pure ⟨plainId_quiet F.plain_tuple_new _, codeAny_builtin F.entry_tuple_new ?_⟩))
  rw [Around.under_plainId F.plain_tuple_new _]
  have hsub := sub_tuple_self
  have hinit := init_tuple_lookup
  have hmh := madeHere_tuple
  have hTI := gm_type h
  have cg : ∀ {Q' : List Value → Shared → Prop}, (∀ S s' acc H' ys, Coll P w outer H sc s ex Q S acc ys H' s' → Q' acc.toList s') → wpAny (model P w) A.in1 (collect (.ref a)) Q' (fun e s' => wants Q₁ E (.error e) s') s := fun hQ' =>
    collect_gm (E := fun e s' => wants Q₁ E (.error e) s') (hr.in1.mono (by omega)) hfr h hQ' hexc
  wp_walk using wpAny_typeOf hTI, cg
  intro S s' acc H' ys hc
  show wpAny _ _ (Builtin.Tuple.tupleExact acc.toList.toArray >>= fun v => ret v) _ _ _
  unfold Builtin.Tuple.tupleExact
  have hsz : acc.size ≤ sizeLine := by
    have e1 := hc.vals.length
    have e2 : acc.toList.length = acc.size := by simp
    have e3 := hc.len
    omega
  refine wpAny_bind (wpAny_newObj_type ?_ (by show acc.toList.toArray.size ≤ sizeLine; simpa using hsz))
  refine wpAny_pure ?_
  have e : acc.toList.toArray = acc := by simp
  rw [e]
  exact hQ S s' acc H' ys hc
theorem call_tuple_gm {Q' : Value → Shared → Prop} (hr : Room (k + 6) A) (hfr : A.frames = some outer) (h : GMade P w k outer H sc ex Q EX u s)
    (hQ : ∀ S s' acc H' ys, Coll P w outer H sc s ex Q S acc ys H' s' → Q' (.ref s'.heap.objs.size) { s' with heap := s'.heap.push { cls := .type "tuple", data := .seq acc } })
    (hexc : ∀ e s' g, CX P w outer H sc EX e s' → NotStop (model P w) e s'.heap ∧ E e (s'.setGen g .finished)) :
    wpAny (model P w) A (call (.type "tuple") [u]) Q' E s := by
  obtain ⟨a, rfl⟩ : ∃ a, u = .ref a := let ⟨a, _, _, e, _⟩ := h; ⟨a, e⟩
  refine callType_codes (Q₁ := fun obj s₁ => s₁.TypeIs obj "tuple" ∧ Q' obj s₁) F.called_tuple (F.typeCall_tuple_1 _) F.entry_object_init
    (code_tuple_gm (E := E) (hr.in1.mono (by omega)) hfr h (fun S s' acc H' ys hc => ⟨⟨_, Heap.get?_push_size _ rfl, rfl⟩, hQ S s' acc H' ys hc⟩) hexc) fun obj s₁ h₁ => ?_
  exact ⟨h₁.1, F.args_object_init_2 obj _, object_init_meets F.called_tuple.init.lookup F.called_tuple.made (by decide) P w A.in1 _ s₁ ⟨h₁.1, rfl, h₁.2⟩⟩
end
/-- all is taken -/
def yAll : YlT := fun _ _ _ p => p
/-- a list grows -/
def consL (S : Addr) : Cons where
  C := [S]
  Ψ := fun ys os => ys.length ≤ sizeLine ∧ ∃ acc c, os = [lstObj acc c] ∧ Vals ys acc.toList
  Yl := yAll
  mono := fun _ _ _ _ _ h => h
  nocell := fun ys os h o ho v e => by
    obtain ⟨_, acc, c, rfl, _⟩ := h
    rw [List.mem_singleton.mp ho] at e
    cases e
  len := fun ys os h => by
    obtain ⟨_, acc, c, rfl, _⟩ := h
    rfl
  small := fun ys os h => h.1
  n0 := sizeLine
  big := Nat.le_refl _
theorem gmade_of {P : Program} {w : World} {k : Nat} {outer : List Env} {H : Hp} {sc s : Shared} {ex : List Addr} {Q : List V → Hp → Prop} {E : XK} {u : Value} (h : GMadeC P w k outer H sc ex yAll Q u s) : GMade P w k outer H sc ex Q E u s := by
  obtain ⟨a, g, c, e1, e2, e3, e4, e5, e6, e7, e8, e9, wake⟩ := h
  refine ⟨a, g, c, e1, e2, e3, e4, e5, e6, e7, e8, e9, fun A S s2 h1 h2 h3 h4 h5 h6 h7 => ?_⟩
  obtain ⟨cS, hS⟩ := h5
  refine seg_imp (fun n s₀ r s1 hR => ?_) (fun n s₀ v s1 kap kap' hkk hY => ?_) sizeLine (wake A (consL S) s2 rfl h1 h2 (fun S' hS' => by rw [List.mem_singleton.mp hS']; exact h3) h4 ⟨[lstObj #[] cS], ⟨Nat.zero_le _, #[], cS, rfl, .nil⟩, fun p hp => by
    have e : p = (S, lstObj #[] cS) := by simpa [consL] using hp
    rw [e]; exact hS⟩ h6 h7)
  · obtain ⟨rfl, H', ys, os, q1, q2, q3, q4, ⟨_, acc, cc, rfl, q5⟩, q6, q7, q8⟩ := hR
    have z := q6 (S, lstObj acc cc) (by simp [consL])
    exact .inl ⟨.inr rfl, H', ys, acc, cc, q1, q2, q3, q4, z.2.1, z.1, q5, q7, q8⟩
  · obtain ⟨q1, q2, q3, q4, ys, x, H', os, q5, qs, q6, ⟨_, acc, cc, rfl, q7⟩, q8, q9, q10, q11⟩ := hY
    have z := q8 (S, lstObj acc cc) (by simp [consL])
    have hsz : acc.size = ys.length := by
      have e1 := q7.length
      have e2 : acc.toList.length = acc.size := by simp
      omega
    have q11 : ∀ s', SleptC (consL S) ys x s1 s' → kap (.send .none) s' := q11
    refine ⟨q1, q2, q3, q4, ⟨acc, cc, z.1, by rw [hsz]; exact q5⟩, fun s' sl => hkk _ _ (q11 s' ?_)⟩
    obtain ⟨z1, z2, z3, z4⟩ := sl
    refine ⟨z1, z2, fun b o hb e => z3 b o (fun z => hb (by rw [z]; exact List.mem_singleton.mpr rfl)) e, fun hlt os' hΨ he => ?_⟩
    obtain ⟨_, acc2, c2, rfl, hv⟩ := hΨ
    obtain ⟨c3, z5⟩ := z4 acc2 c2 (he (S, lstObj acc2 c2) (by simp [consL]))
    refine ⟨[lstObj (acc2.push v) c3], ⟨by simp; omega, acc2.push v, c3, rfl, by rw [Array.toList_push]; exact hv.append (.cons q6 .nil)⟩, fun p hp => ?_⟩
    have e : p = (S, lstObj (acc2.push v) c3) := by simpa [consL] using hp
    rw [e]; exact z5
section
variable {X : Cx} {k : Nat} {pos p : Pos}
/-- no exception -/
abbrev noX : XK := fun _ _ _ => False
theorem noX_cx {P : Program} {w : World} {outer : List Env} {H : Hp} {sc s' : Shared} {e : Value} (h : CX P w outer H sc noX e s') : False := by
  obtain ⟨a, B, H', cls, d, z1, fl, z2, ub, z3, z4, z5, z6⟩ := h
  exact z6
def tTupG (tg : TGenC) : TE := fun σ H Q => tg σ H yAll fun out H2 => ∀ p, H2 p = none → Q (.ref p) (upd H2 p (.tup out))
/-- tuple(g) -/
theorem pe_tupG {e : Expr} {tg : TGenC} (h : PGenC X k e tg) (hr : Room (k + 6) X.A) (hg : Gl X "tuple") (hmg : X.mg "tuple" = none)
    (he : starEach [e] X.env = (false, eval e X.env) :: starEach [] X.env := by rfl) : PE X (.Call (.Name "tuple" p) [e] [] pos) (tTupG tg) := by
  refine ⟨fun pins s σ H Q I hq => ?_⟩
  refine wpAny_Call_Name_kw (ld_blt I hg hmg (show bootBuiltins "tuple" = some (.type "tuple") from by rfl) ?_)
  refine PyProof.Rows.callWith_type1 ?_ he rfl
  rw [he]
  show wpAny _ _ (spliced ((false, eval e X.env) :: backTo pos (starEach [] X.env))) _ _ s
  refine Calls.spliced_cons (thn (h.run pins s σ H _ _ I hq) fun u s1 ⟨H1, sc, ex, I1, hex, hG⟩ => ?_)
  refine Calls.spliced_nil ?_
  refine call_tuple_gm (EX := noX) hr I1.ok.frames (gmade_of hG) (fun S s' acc H' ys hc => ?_) fun e s' g hc => (noX_cx hc).elim
  have I2 : Inv X pins σ H' s' := I1.call' (ch := ex) hc.os hc.un hc.hok hc.bare hex
  refine ⟨.ref s'.heap.objs.size, upd H' s'.heap.objs.size (.tup ys), I2.laid (t' := s'.toks) (o := .tup ys) (fun b ob q => Heap.get?_push_of_some _ q) (Nat.le_refl _) ?_, rfl, hc.q _ (I2.hok.fresh (Nat.le_refl _))⟩
  exact ⟨hc.len, acc.toList, hc.vals, by rw [Array.toArray_toList]; exact IsTup.new _ _⟩
end
end
end VS


set_option Elab.async false
set_option linter.all false
set_option maxRecDepth 100000
/-! VG6: a generator asked for its next thing. -/
namespace VS
noncomputable section
open PySem PySem.Spec PyProof.Rows L2 GenW
def EndF (P : Program) (w : World) (outer : List Env) (H : Hp) (sc : Shared) (ex : List Addr) (W : Cons) (Q : List V → Hp → Prop) (s₀ s1 : Shared) : Prop :=
  ∃ H' ys os, s1.os = sc.os ∧ AllBare s1.gens ∧ Un (frs outer) ex H H' sc.heap s1.heap ∧ HOk P w H' s1.heap ∧ W.Ψ ys os ∧ (∀ p ∈ W.C.zip os, s1.heap.get? p.1 = some p.2 ∧ H' p.1 = none ∧ s₀.heap.get? p.1 = some p.2) ∧ ys.length ≤ sizeLine ∧ Q ys H'
def RN (P : Program) (w : World) (outer : List Env) (H : Hp) (sc : Shared) (ex : List Addr) (W : Cons) (Q : List V → Hp → Prop) : GenEnd := fun n s₀ r s1 =>
  ((r = .ok (.ret .none) ∨ r = .ok .next) ∧ EndF P w outer H sc ex W Q s₀ s1) ∨ ∃ e, r = .error e ∧ False
/-- the generator a may be asked n times at most -/
structure Live (P : Program) (w : World) (outer : List Env) (H : Hp) (sc : Shared) (ex : List Addr) (W : Cons) (Q : List V → Hp → Prop) (a : Addr) (g : Nat) (B : Around) (n : Nat) (s : Shared) : Prop where
  gen : s.heap.IsGen a g
  nol : s.heap.NoLimit
  go : ∃ gs, s.gens[g]? = some gs ∧ gs.Goes (model P w) B (RN P w outer H sc ex W Q) (YItemC P w outer H sc ex W a g) n (.send .none) (s.setGen g .running)
/-- what is known at a thing handed out, and at the end -/
structure Out (P : Program) (w : World) (outer : List Env) (H : Hp) (sc : Shared) (ex : List Addr) (W : Cons) (ys : List V) (H' : Hp) (obs : List Obj) (s₀ s : Shared) : Prop where
  os : s.os = sc.os
  bare : AllBare s.gens
  psi : W.Ψ ys obs
  at_ : ∀ p ∈ W.C.zip obs, s.heap.get? p.1 = some p.2 ∧ H' p.1 = none ∧ s₀.heap.get? p.1 = some p.2
  un : Un (frs outer) ex H H' sc.heap s.heap
  hok : HOk P w H' s.heap
/-- what the taker may have done -/
structure Took (W : Cons) (ys : List V) (x : V) (s s' : Shared) : Prop where
  os : s'.os = s.os
  gens : s'.gens = s.gens
  keep : ∀ b o, b ∉ W.C → s.heap.get? b = some o → s'.heap.get? b = some o
  own : ys.length < sizeLine → ∀ os, W.Ψ ys os → (∀ p ∈ W.C.zip os, s.heap.get? p.1 = some p.2) → ∃ os', W.Ψ (ys ++ [x]) os' ∧ ∀ p ∈ W.C.zip os', s'.heap.get? p.1 = some p.2
section
variable {P : Program} {w : World} {outer : List Env} {H : Hp} {sc s : Shared} {ex : List Addr} {W : Cons} {Q : List V → Hp → Prop} {a : Addr} {g n : Nat} {A : Around} {Q' : Option Value → Shared → Prop} {E : Value → Shared → Prop}
theorem next_live (h : Live P w outer H sc ex W Q a g A.in1 n s) (hh : A.handled = none) (hd : A.depth < recursionLimit) (haC : a ∉ W.C) (hcC : cStatics ∉ W.C) (hn0 : sizeLine < W.n0)
    (hY : ∀ m v s1 ys x H' os, n = m + 1 → ys.length < sizeLine → RelV x v → Out P w outer H sc ex W ys H' os s s1 → W.Yl ys x H' (∀ s', Took W ys x s1 s' → Live P w outer H sc ex W Q a g A.in1 m s') → Q' (some v) s1)
    (hE : ∀ s1 ys H' os, Out P w outer H sc ex W ys H' os s s1 → ys.length ≤ sizeLine → Q ys H' → Q' none s1) : wpAny (model P w) A (pyNext (.ref a)) Q' E s := by
  obtain ⟨hg, hl, gs, hgs, hgo⟩ := h
  have hgl : g < s.gens.size := (Array.getElem?_eq_some_iff.mp hgs).1
  refine wpAny_gsz (n := g + 1) hgl (next_genG (F := fun _ s₀ s1 => EndF P w outer H sc ex W Q s₀ s1) (Er := fun _ _ => False) hh hl hd hg hgs hgo (fun v s₁ gs' hbare hv => ?_) (fun s₁ hp h' hk => ?_) fun e s₁ he => he.elim)
  · intro hsz
    obtain ⟨q1, q2, q3, q4, ys, x, H', os, q5, qs, q6, q7, q8, q9, q10, q11⟩ := hv
    have hsz1 : g < s₁.gens.size := by
      have q : (s₁.setGen g gs').gens.size = s₁.gens.size := setGen_size _ _ _
      have hsz' : g + 1 ≤ (s₁.setGen g gs').gens.size := hsz
      omega
    cases n with
    | zero => omega
    | succ m =>
      refine hY m v (s₁.setGen g gs') ys x H' os rfl qs q6 ⟨q1, allBare_setGen q2 hbare, q7, q8, q9, q10⟩ (W.mono _ _ _ _ _ (fun q s' t => ?_) q11)
      obtain ⟨t1, t2, t3, t4⟩ := t
      refine ⟨?_, ?_, gs', by rw [t2]; exact setGen_at hsz1, q _ ⟨t1, ?_, t3, t4⟩⟩
      · obtain ⟨o, nm, qn, ho, r⟩ := q4
        exact ⟨o, nm, qn, t3 a o haC ho, r⟩
      · obtain ⟨mc, hns, hnn⟩ := q3
        exact ⟨mc, hns.at' fun o e => t3 _ o hcC e, hnn⟩
      · refine allBare_setGen (s := s') ?_ rfl
        rw [t2]
        exact allBare_setGen q2 hbare
  · intro hsz
    obtain ⟨H', ys, os, q1, q2, q3, q4, q5, q6, q7, q8⟩ := hp
    exact hE _ ys H' os ⟨q1, allBare_setGen q2 rfl, q5, fun p hp => ⟨hk _ _ (q6 p hp).1, (q6 p hp).2⟩, q3.trans (Un.kept hk), q4.kept hk⟩ q7 q8
end
end
end VS


set_option Elab.async false
set_option linter.all false
set_option maxRecDepth 100000
/-! VG7: any, all of a generator expression. -/
namespace VS
noncomputable section
open PySem PySem.Spec PyProof.Rows L2 GenW
/-- no own objects -/
def consN (Yl : YlT) (mono : ∀ ys y H p q, (p → q) → Yl ys y H p → Yl ys y H q) : Cons where
  C := []
  Ψ := fun ys os => os = [] ∧ ys.length ≤ sizeLine
  Yl := Yl
  mono := mono
  nocell := fun ys os h o ho => by rw [h.1] at ho; cases ho
  len := fun ys os h => by rw [h.1]; rfl
  small := fun ys os h => h.2
  n0 := sizeLine + 1
  big := Nat.le_succ _
/-- stopped at the first one that is c -/
def yStop (c : Bool) (S : Hp → Prop) : YlT := fun _ y H p => ∃ b, y = .bl b ∧ if b = c then S H else p
theorem yStop_mono {c : Bool} {S : Hp → Prop} : ∀ ys y H p q, (p → q) → yStop c S ys y H p → yStop c S ys y H q := fun _ _ _ p q h ⟨b, e, z⟩ => ⟨b, e, by
  by_cases hb : b = c
  · rw [if_pos hb] at z ⊢; exact z
  · rw [if_neg hb] at z ⊢; exact h z⟩
section
variable {P : Program} {w : World} {outer : List Env} {H : Hp} {sc : Shared} {ex : List Addr} {S : Hp → Prop} {Z : Hp → Prop} {A : Around} {R : Result → Shared → Prop} {a : Addr} {g : Nat}
/-- what holds behind -/
def Aft (P : Program) (w : World) (outer : List Env) (H : Hp) (sc : Shared) (ex : List Addr) (S : Hp → Prop) (s : Shared) : Prop := ∃ H', s.os = sc.os ∧ AllBare s.gens ∧ Un (frs outer) ex H H' sc.heap s.heap ∧ HOk P w H' s.heap ∧ S H'
theorem loop_any (hh : A.handled = none) (hd : A.depth < recursionLimit) (hT : ∀ s, Aft P w outer H sc ex S s → R (.ok (.ret (.bool true))) s) (hF : ∀ s, Aft P w outer H sc ex Z s → R (.ok (.ret (.bool false))) s) :
    ∀ (n : Nat) (s : Shared), Live P w outer H sc ex (consN (yStop true S) yStop_mono) (fun _ H => Z H) a g A.in1.in1 n s → codeAny (model P w) A (.builtin "any.loop" ⟨[.ref a], []⟩) R s := by
  intro n
  induction n with
  | zero =>
    intro s h
    refine codeAny_builtin F.entry_any_loop ?_
    rw [Around.under_plainId F.plain_any_loop _]
    show wpAny _ A.in1 (pyNext (.ref a) >>= _) _ _ s
    refine wpAny_bind (next_live h hh hd List.not_mem_nil List.not_mem_nil (Nat.lt_succ_self _) (fun m v s1 ys x H' os e => by omega) fun s1 ys H' os o _ q => ?_)
    exact wpAny_bind (wpAny_rule (wpAny_pure (hF _ ⟨H', o.os, o.bare, o.un, o.hok, q⟩)))
  | succ n ih =>
    intro s h
    refine codeAny_builtin F.entry_any_loop ?_
    rw [Around.under_plainId F.plain_any_loop _]
    show wpAny _ A.in1 (pyNext (.ref a) >>= _) _ _ s
    refine wpAny_bind (next_live h hh hd List.not_mem_nil List.not_mem_nil (Nat.lt_succ_self _) (fun m v s1 ys x H' os e hle rv o hy => ?_) fun s1 ys H' os o _ q => ?_)
    · cases e
      obtain ⟨b, rfl, hy⟩ := hy
      have rv : v = .bool b := rv
      subst rv
      refine wpAny_bind (wpAny_holding (wpAny_truthy_bool ?_))
      refine wpAny_bind (wpAny_letGo ?_)
      cases b with
      | true => exact wpAny_bind (wpAny_rule (wpAny_pure (hT _ ⟨H', o.os, o.bare, o.un, o.hok, hy⟩)))
      | false =>
        simp only [Bool.false_eq_true, if_false]
        exact wpAny_pure ⟨plainId_quiet F.plain_any_loop _, ih _ (hy _ ⟨rfl, rfl, fun _ _ _ e => e, fun hl os hΨ _ => ⟨[], ⟨rfl, by simp; omega⟩, fun p hp => absurd hp List.not_mem_nil⟩⟩)⟩
    · exact wpAny_bind (wpAny_rule (wpAny_pure (hF _ ⟨H', o.os, o.bare, o.un, o.hok, q⟩)))
theorem loop_all (hh : A.handled = none) (hd : A.depth < recursionLimit) (hT : ∀ s, Aft P w outer H sc ex Z s → R (.ok (.ret (.bool true))) s) (hF : ∀ s, Aft P w outer H sc ex S s → R (.ok (.ret (.bool false))) s) :
    ∀ (n : Nat) (s : Shared), Live P w outer H sc ex (consN (yStop false S) yStop_mono) (fun _ H => Z H) a g A.in1.in1 n s → codeAny (model P w) A (.builtin "all.loop" ⟨[.ref a], []⟩) R s := by
  intro n
  induction n with
  | zero =>
    intro s h
    refine codeAny_builtin F.entry_all_loop ?_
    rw [Around.under_plainId F.plain_all_loop _]
    show wpAny _ A.in1 (pyNext (.ref a) >>= _) _ _ s
    refine wpAny_bind (next_live h hh hd List.not_mem_nil List.not_mem_nil (Nat.lt_succ_self _) (fun m v s1 ys x H' os e => by omega) fun s1 ys H' os o _ q => ?_)
    exact wpAny_bind (wpAny_rule (wpAny_pure (hT _ ⟨H', o.os, o.bare, o.un, o.hok, q⟩)))
  | succ n ih =>
    intro s h
    refine codeAny_builtin F.entry_all_loop ?_
    rw [Around.under_plainId F.plain_all_loop _]
    show wpAny _ A.in1 (pyNext (.ref a) >>= _) _ _ s
    refine wpAny_bind (next_live h hh hd List.not_mem_nil List.not_mem_nil (Nat.lt_succ_self _) (fun m v s1 ys x H' os e hle rv o hy => ?_) fun s1 ys H' os o _ q => ?_)
    · cases e
      obtain ⟨b, rfl, hy⟩ := hy
      have rv : v = .bool b := rv
      subst rv
      refine wpAny_bind (wpAny_holding (wpAny_truthy_bool ?_))
      refine wpAny_bind (wpAny_letGo ?_)
      cases b with
      | false =>
        simp only [Bool.false_eq_true, if_false]
        exact wpAny_bind (wpAny_rule (wpAny_pure (hF _ ⟨H', o.os, o.bare, o.un, o.hok, hy⟩)))
      | true =>
        simp only [if_true]
        exact wpAny_pure ⟨plainId_quiet F.plain_all_loop _, ih _ (hy _ ⟨rfl, rfl, fun _ _ _ e => e, fun hl os hΨ _ => ⟨[], ⟨rfl, by simp; omega⟩, fun p hp => absurd hp List.not_mem_nil⟩⟩)⟩
    · exact wpAny_bind (wpAny_rule (wpAny_pure (hT _ ⟨H', o.os, o.bare, o.un, o.hok, q⟩)))
end
/-- the generator may be asked -/
theorem live_of {P : Program} {w : World} {k : Nat} {outer : List Env} {H : Hp} {sc s s2 : Shared} {ex : List Addr} {Q : List V → Hp → Prop} {W : Cons} {u : Value} {A : Around} (h : GMadeC P w k outer H sc ex W.Yl Q u s) (hr : Room (k + 2) A) (hfr : A.frames = some outer)
    (hC : ∀ S ∈ W.C, s.heap.objs.size ≤ S) (kp : ∀ b o, s.heap.get? b = some o → s2.heap.get? b = some o) (hΨ : ∃ os, W.Ψ [] os ∧ ∀ p ∈ W.C.zip os, s2.heap.get? p.1 = some p.2) (hos : s2.os = s.os) (hg : s2.gens = s.gens) :
    ∃ a g, u = .ref a ∧ a < s.heap.objs.size ∧ Live P w outer H sc ex W Q a g A.in1.in1 W.n0 s2 := by
  obtain ⟨a, g, c, e1, e2, e3, e4, e5, e6, e7, e8, e9, wake⟩ := h
  refine ⟨a, g, e1, e3, e4.keeps kp, e8.keeps kp, .fresh c, by rw [hg]; exact e5, rfl, ?_⟩
  have hr2 : Room k A.in1.in1 := by
    refine ⟨hr.hd, ?_, ?_⟩
    · have := hr.dp
      show A.depth + 3 * k + 5 < _
      omega
    · have := hr.un
      show A.units + 1 + 1 + 16 * k + 200 < _
      omega
  refine seg_imp (fun n s₀ r s hR => ?_) (fun n s₀ v s kap kap' hk hY => ?_) _ (wake A.in1.in1 W (s2.setGen g .running) rfl hr2 hfr hC kp hΨ (hos.trans e6) (allBare_setGen (by rw [hg]; exact e7) rfl))
  · exact .inl ⟨.inr hR.1, hR.2⟩
  · obtain ⟨q1, q2, q3, q4, ys, x, H', os, q5, qs, q6, q7, q8, q9, q10, q11⟩ := hY
    exact ⟨q1, q2, q3, q4, ys, x, H', os, q5, qs, q6, q7, q8, q9, q10, W.mono _ _ _ _ _ (fun z s' t => hk _ _ (z s' t)) q11⟩
section
variable {X : Cx} {k : Nat} {pos p : Pos} {e : Expr} {tg : TGenC} {f : Value} {id x : String} {Yl : L2.VK → YlT} {cont : L2.VK → List V → Hp → Prop}
/-- f(g): what is asked of g -/
def CallG (X : Cx) (f : Value) (k : Nat) (Yl : L2.VK → YlT) (cont : L2.VK → List V → Hp → Prop) : Prop :=
  ∀ (pins : List (Addr × Obj)) (s sc : Shared) (σ : L2.St) (H : Hp) (ex : List Addr) (u : Value) (Q : L2.VK), Inv X pins σ H sc → ExOk X pins ex → GMadeC X.prog X.w k X.stack H sc ex (Yl Q) (cont Q) u s → wpAny (model X.prog X.w) X.A (call f [u]) (EP X pins σ Q) X.xe s
theorem pe_gB {x : Str} (hc : CallG X (.builtin id) k Yl cont) (h : PGenC X k e tg) (hg : Gl X x) (hmg : X.mg x = none) (hv : bootBuiltins x = some (.builtin id)) (hn : x ≠ "__name__" := by decide) (hdb : (x == ("__debug__" : Str)) = false := by decide)
    (he : starEach [e] X.env = (false, eval e X.env) :: starEach [] X.env := by rfl) (hpl : (backTo pos (starEach [] X.env)).any (·.1) = false := by rfl) : PE X (.Call (.Name x p) [e] [] pos) fun σ H Q => tg σ H (Yl Q) (cont Q) := by
  refine ⟨fun pins s σ H Q I hq => ?_⟩
  refine wpAny_Call_Name_kw (ld_blt I hg hmg hv ?_ hn hdb)
  refine PyProof.Rows.callWith_builtin1 ?_ he hpl
  rw [he]
  show wpAny _ _ (spliced ((false, eval e X.env) :: backTo pos (starEach [] X.env))) _ _ s
  refine Calls.spliced_cons (thn (h.run pins s σ H _ _ I hq) fun u s1 ⟨H1, sc, ex, I1, hex, hG⟩ => ?_)
  refine Calls.spliced_nil ?_
  exact hc pins s1 sc σ H1 ex u Q I1 hex hG
theorem pe_gT {x : Str} (hc : CallG X (.type id) k Yl cont) (h : PGenC X k e tg) (hg : Gl X x) (hmg : X.mg x = none) (hv : bootBuiltins x = some (.type id)) (hn : x ≠ "__name__" := by decide) (hdb : (x == ("__debug__" : Str)) = false := by decide)
    (he : starEach [e] X.env = (false, eval e X.env) :: starEach [] X.env := by rfl) (hpl : (backTo pos (starEach [] X.env)).any (·.1) = false := by rfl) : PE X (.Call (.Name x p) [e] [] pos) fun σ H Q => tg σ H (Yl Q) (cont Q) := by
  refine ⟨fun pins s σ H Q I hq => ?_⟩
  refine wpAny_Call_Name_kw (ld_blt I hg hmg hv ?_ hn hdb)
  refine PyProof.Rows.callWith_type1 ?_ he hpl
  rw [he]
  show wpAny _ _ (spliced ((false, eval e X.env) :: backTo pos (starEach [] X.env))) _ _ s
  refine Calls.spliced_cons (thn (h.run pins s σ H _ _ I hq) fun u s1 ⟨H1, sc, ex, I1, hex, hG⟩ => ?_)
  refine Calls.spliced_nil ?_
  exact hc pins s1 sc σ H1 ex u Q I1 hex hG
theorem aft_inv {pins : List (Addr × Obj)} {s sc : Shared} {σ : L2.St} {H : Hp} {ex : List Addr} {S : Hp → Prop} (I : Inv X pins σ H sc) (hex : ExOk X pins ex) (h : Aft X.prog X.w X.stack H sc ex S s) : ∃ H', Inv X pins σ H' s ∧ S H' :=
  let ⟨H', h1, h2, h3, h4, h5⟩ := h
  ⟨H', I.call' (ch := ex) h1 h3 h4 h2 hex, h5⟩
theorem cg_any (hr : Room (k + 3) X.A) : CallG X (.builtin "any") k (fun Q => yStop true fun H' => Q (.bl true) H') fun Q _ H' => Q (.bl false) H' := by
  intro pins s sc σ H ex u Q I hex hG
  have hG0 := hG
  obtain ⟨a, g, c, e1, e2, e3, e4, e5, e6, e7, e8, e9, _⟩ := hG0
  subst e1
  refine call_function_tree F.kind_any F.plain_any F.entry_any (F.args_any1 _) ?_
  unfold Builtin.«any»
  refine wpAny_bind (m := oneArg "any" _) (wpAny_pure ?_)
  refine wpAny_bind (wpAny_pyIter_gen e4 ?_)
  obtain ⟨a', g', e, _, L⟩ := live_of (W := consN (yStop true fun H' => Q (.bl true) H') yStop_mono) (A := X.A) (s2 := s) hG (hr.mono (by omega)) I.ok.frames (fun S hS => absurd hS List.not_mem_nil) (fun _ _ e => e) ⟨[], ⟨rfl, Nat.zero_le _⟩, fun p hp => absurd hp List.not_mem_nil⟩ rfl rfl
  cases e
  refine wpAny_pure ⟨plainId_quiet F.plain_any_loop _, loop_any hr.hd (by have := hr.dp; omega) (fun s' h => ?_) (fun s' h => ?_) _ _ L⟩
  · obtain ⟨H', I', q⟩ := aft_inv I hex h
    exact ⟨.bl true, H', I', rfl, q⟩
  · obtain ⟨H', I', q⟩ := aft_inv I hex h
    exact ⟨.bl false, H', I', rfl, q⟩
theorem cg_all (hr : Room (k + 3) X.A) : CallG X (.builtin "all") k (fun Q => yStop false fun H' => Q (.bl false) H') fun Q _ H' => Q (.bl true) H' := by
  intro pins s sc σ H ex u Q I hex hG
  have hG0 := hG
  obtain ⟨a, g, c, e1, e2, e3, e4, e5, e6, e7, e8, e9, _⟩ := hG0
  subst e1
  refine call_function_tree F.kind_all F.plain_all F.entry_all (F.args_all1 _) ?_
  unfold Builtin.«all»
  refine wpAny_bind (m := oneArg "all" _) (wpAny_pure ?_)
  refine wpAny_bind (wpAny_pyIter_gen e4 ?_)
  obtain ⟨a', g', e, _, L⟩ := live_of (W := consN (yStop false fun H' => Q (.bl false) H') yStop_mono) (A := X.A) (s2 := s) hG (hr.mono (by omega)) I.ok.frames (fun S hS => absurd hS List.not_mem_nil) (fun _ _ e => e) ⟨[], ⟨rfl, Nat.zero_le _⟩, fun p hp => absurd hp List.not_mem_nil⟩ rfl rfl
  cases e
  refine wpAny_pure ⟨plainId_quiet F.plain_all_loop _, loop_all hr.hd (by have := hr.dp; omega) (fun s' h => ?_) (fun s' h => ?_) _ _ L⟩
  · obtain ⟨H', I', q⟩ := aft_inv I hex h
    exact ⟨.bl true, H', I', rfl, q⟩
  · obtain ⟨H', I', q⟩ := aft_inv I hex h
    exact ⟨.bl false, H', I', rfl, q⟩
end
end
end VS


set_option Elab.async false
set_option linter.all false
set_option maxRecDepth 100000
/-! VG8: sum of a generator expression. -/
namespace VS
noncomputable section
open PySem PySem.Spec PyProof.Rows L2 GenW
def yInt : YlT := fun _ y _ p => (∃ i, y = .int i) ∧ p
/-- the running sum at S -/
def consS (S : Addr) : Cons where
  C := [S]
  Ψ := fun ys os => ys.length ≤ sizeLine ∧ ∃ (is : List Int) (t : Tok) (c : Nat), ys = is.map V.int ∧ os = [lstObj #[.int is.sum t] c]
  Yl := yInt
  mono := fun _ _ _ _ _ h z => ⟨z.1, h z.2⟩
  nocell := fun ys os h o ho v e => by
    obtain ⟨_, is, t, c, _, rfl⟩ := h
    rw [List.mem_singleton.mp ho] at e
    cases e
  len := fun ys os h => by
    obtain ⟨_, is, t, c, _, rfl⟩ := h
    rfl
  small := fun ys os h => h.1
  n0 := sizeLine + 1
  big := Nat.le_succ _
theorem map_int_inj : ∀ {is js : List Int}, is.map V.int = js.map V.int → is = js
  | [], [], _ => rfl
  | [], _ :: _, h => by cases h
  | _ :: _, [], h => by cases h
  | i :: is, j :: js, h => by
    rw [List.map_cons, List.map_cons] at h
    injection h with h1 h2
    cases h1
    rw [map_int_inj h2]
section
variable {P : Program} {w : World} {outer : List Env} {H : Hp} {sc : Shared} {ex : List Addr} {S : Addr} {Z : List V → Hp → Prop} {A : Around} {R : Result → Shared → Prop} {a : Addr} {g : Nat}
/-- S is overwritten: by the next sum -/
theorem took_sum {ys : List V} {i : Int} {t : Int × Tok} {s s' : Shared} (hos : s'.os = s.os) (hg : s'.gens = s.gens) (hk : ∀ b o, b ≠ S → s.heap.get? b = some o → s'.heap.get? b = some o)
    (hS : ∃ c, s'.heap.get? S = some (lstObj #[.int t.1 t.2] c)) (ht : ∀ is : List Int, ys = is.map V.int → t.1 = is.sum + i) : Took (consS S) ys (.int i) s s' := by
  refine ⟨hos, hg, fun b o hb e => hk b o (fun z => hb (by rw [z]; exact List.mem_singleton.mpr rfl)) e, fun hl os hΨ _ => ?_⟩
  obtain ⟨_, is, t0, c0, e1, rfl⟩ := hΨ
  obtain ⟨c, hS⟩ := hS
  have e2 := ht is e1
  refine ⟨[lstObj #[.int t.1 t.2] c], ⟨by simp; omega, is ++ [i], t.2, c, by rw [e1, List.map_append]; rfl, by rw [List.sum_append, e2]; simp⟩, fun p hp => ?_⟩
  have e : p = (S, lstObj #[.int t.1 t.2] c) := by simpa [consS] using hp
  rw [e]; exact hS
theorem loop_sum (hh : A.handled = none) (hd : A.depth < recursionLimit) (hSa : S ≠ a) (hSc : S ≠ cStatics) (hR : ∀ s (is : List Int) t, Aft P w outer H sc ex (fun H' => Z (is.map V.int) H' ∧ H' S = none) s → R (.ok (.ret (.int is.sum t))) s) :
    ∀ (n : Nat) (s : Shared) (tot : Int) (tA : Tok) (c : Nat) (st : Int), (st = 0 ∨ st = 2) → s.heap.get? S = some (lstObj #[.int tot tA] c) → Live P w outer H sc ex (consS S) Z a g A.in1.in1 n s → codeAny (model P w) A (.builtin "sum.loop" ⟨[.ref a, .ref S, rawInt st, rawInt 0], []⟩) R s := by
  intro n
  induction n with
  | zero =>
    intro s tot tA c st hst hS h
    refine codeAny_builtin F.entry_sum_loop ?_
    rw [Around.under_plainId F.plain_sum_loop _]
    show wpAny _ A.in1 (seqItems? (.ref S) >>= _) _ _ s
    refine wpAny_bind (wpAny_seqItems hS rfl ?_)
    show wpAny _ A.in1 (tryCatch (pyNext (.ref a)) _ >>= _) _ _ s
    refine wpAny_bind (wpAny_tryCatch (next_live h hh hd (fun z => hSa (List.mem_singleton.mp z).symm) (fun z => hSc (List.mem_singleton.mp z).symm) (Nat.lt_succ_self _) (fun m v s1 ys x H' os e => by omega) fun s1 ys H' os o _ q => ?_))
    obtain ⟨_, is, t, c', e1, rfl⟩ := o.psi
    obtain ⟨a1, a2, a3⟩ := o.at_ (S, lstObj #[.int is.sum t] c') (by simp [consS])
    have a3 : s.heap.get? S = some (lstObj #[.int is.sum t] c') := a3
    rw [hS] at a3
    cases a3
    subst e1
    exact wpAny_pure (hR _ is _ ⟨H', o.os, o.bare, o.un, o.hok, q, a2⟩)
  | succ n ih =>
    intro s tot tA c st hst hS h
    refine codeAny_builtin F.entry_sum_loop ?_
    rw [Around.under_plainId F.plain_sum_loop _]
    show wpAny _ A.in1 (seqItems? (.ref S) >>= _) _ _ s
    refine wpAny_bind (wpAny_seqItems hS rfl ?_)
    show wpAny _ A.in1 (tryCatch (pyNext (.ref a)) _ >>= _) _ _ s
    refine wpAny_bind (wpAny_tryCatch (next_live h hh hd (fun z => hSa (List.mem_singleton.mp z).symm) (fun z => hSc (List.mem_singleton.mp z).symm) (Nat.lt_succ_self _) (fun m v s1 ys x H' os e hle rv o hy => ?_) fun s1 ys H' os o _ q => ?_))
    · cases e
      obtain ⟨⟨i, rfl⟩, hy⟩ := hy
      obtain ⟨ti, rfl⟩ : ∃ t, v = .int i t := rv
      obtain ⟨_, is, t, c', e1, rfl⟩ := o.psi
      obtain ⟨a1, a2, a3⟩ := o.at_ (S, lstObj #[.int is.sum t] c') (by simp [consS])
      have a1 : s1.heap.get? S = some (lstObj #[.int is.sum t] c') := a1
      have a3 : s.heap.get? S = some (lstObj #[.int is.sum t] c') := a3
      rw [hS] at a3
      cases a3
      have ht : ∀ js : List Int, ys = js.map V.int → is.sum + i = js.sum + i := fun js ej => by rw [map_int_inj (e1.symm.trans ej)]
      have other : ∀ (h : Heap) (f : Obj → Obj), (∀ b o, b ≠ S → s1.heap.get? b = some o → h.get? b = some o) → ∀ b o, b ≠ S → s1.heap.get? b = some o → (h.update S f).get? b = some o := fun h f k b o hb e => (Heap.get?_update_other _ _ (Ne.symm hb)).trans (k b o hb e)
      rcases hst with rfl | rfl
      · show wpAny _ A.in1 (if (_ : Bool) = true then (mkInt (is.sum + i) >>= _) else _) _ _ _
        split
        · refine wpAny_bind (wpAny_mkInt ?_)
          show wpAny _ A.in1 (updateSeq S (fun _ => #[.int (is.sum + i) s1.toks]) >>= _) _ _ _
          refine wpAny_bind ?_
          refine wpAny_updateSeq a1 rfl (wpAny_pure ⟨plainId_quiet F.plain_sum_loop _, ih _ (is.sum + i) s1.toks _ 0 (.inl rfl) (Heap.get?_update_self _ a1 rfl) (hy _ (took_sum (t := (is.sum + i, s1.toks)) rfl rfl (other _ _ fun _ _ _ e => e) ⟨_, Heap.get?_update_self _ a1 rfl⟩ ht))⟩)
        · refine wpAny_bind (wpAny_rule ?_)
          refine wpAny_bind (wpAny_attempt (wpAny_holding (wpAny_add_int ?_)))
          show wpAny _ A.in1 (updateSeq S (fun _ => #[.int (is.sum + i) s1.toks]) >>= _) _ _ _
          refine wpAny_bind (wpAny_updateSeq a1 rfl ?_)
          have hS₂ := Heap.get?_update_self (Obj.mapSeq fun _ => #[Value.int (is.sum + i) s1.toks]) a1 rfl
          refine wpAny_bind (wpAny_letGo ?_)
          refine wpAny_bind (wpAny_updateSeq hS₂ rfl (wpAny_pure ⟨plainId_quiet F.plain_sum_loop _, ih _ (is.sum + i) s1.toks _ 2 (.inr rfl) (Heap.get?_update_self _ hS₂ rfl) (hy _ (took_sum (t := (is.sum + i, s1.toks)) rfl rfl (other _ _ (other _ _ fun _ _ _ e => e)) ⟨_, Heap.get?_update_self _ hS₂ rfl⟩ ht))⟩))
      · show wpAny _ A.in1 ((holding [Value.int i ti] (binaryOp .Add (.int is.sum tA) (.int i ti))).attempt >>= _) _ _ _
        refine wpAny_bind (wpAny_attempt (wpAny_holding (wpAny_add_int ?_)))
        show wpAny _ A.in1 (updateSeq S (fun _ => #[.int (is.sum + i) s1.toks]) >>= _) _ _ _
        refine wpAny_bind (wpAny_updateSeq a1 rfl ?_)
        have hS₂ := Heap.get?_update_self (Obj.mapSeq fun _ => #[Value.int (is.sum + i) s1.toks]) a1 rfl
        refine wpAny_bind (wpAny_letGo ?_)
        refine wpAny_bind (wpAny_updateSeq hS₂ rfl (wpAny_pure ⟨plainId_quiet F.plain_sum_loop _, ih _ (is.sum + i) s1.toks _ 2 (.inr rfl) (Heap.get?_update_self _ hS₂ rfl) (hy _ (took_sum (t := (is.sum + i, s1.toks)) rfl rfl (other _ _ (other _ _ fun _ _ _ e => e)) ⟨_, Heap.get?_update_self _ hS₂ rfl⟩ ht))⟩))
    · obtain ⟨_, is, t, c', e1, rfl⟩ := o.psi
      obtain ⟨a1, a2, a3⟩ := o.at_ (S, lstObj #[.int is.sum t] c') (by simp [consS])
      have a3 : s.heap.get? S = some (lstObj #[.int is.sum t] c') := a3
      rw [hS] at a3
      cases a3
      subst e1
      exact wpAny_pure (hR _ is _ ⟨H', o.os, o.bare, o.un, o.hok, q, a2⟩)
end
section
variable {X : Cx} {k : Nat}
theorem cg_sum (hr : Room (k + 3) X.A) : CallG X (.builtin "sum") k (fun _ => yInt) fun Q ys H' => ∀ is : List Int, ys = is.map V.int → Q (.int is.sum) H' := by
  intro pins s sc σ H ex u Q I hex hG
  have hG0 := hG
  obtain ⟨a, g, c, e1, e2, e3, e4, e5, e6, e7, e8, e9, _⟩ := hG0
  subst e1
  refine call_function_tree F.kind_sum F.plain_sum F.entry_sum (F.args_sum1 _) ?_
  unfold Builtin.«sum»
  simp only [List.length_cons, List.length_nil]
  rw [if_neg (by decide)]
  refine wpAny_bind (wpAny_of_eq (show Builtin.Builtins.bindParams "sum" ["start"] 0 { } = pure [none] from rfl) ?_)
  refine wpAny_bind (wpAny_pyIter_gen e4 ?_)
  refine wpAny_bind (wpAny_mkInt ?_)
  refine wpAny_bind (wpAny_pure ?_)
  simp only [List.forIn_cons, List.forIn_nil]
  refine wpAny_bind (wpAny_bind (wpAny_bind (wpAny_isInstance (T := "int") (b := false) (typeIs_int _ _ _) PySem.sub_int_str ?_)))
  simp only [Bool.false_eq_true, if_false]
  refine wpAny_pure (wpAny_bind (wpAny_bind (wpAny_isInstance (T := "int") (b := false) (typeIs_int _ _ _) PySem.sub_int_bytes ?_)))
  simp only [Bool.false_eq_true, if_false]
  refine wpAny_pure (wpAny_bind (wpAny_bind (wpAny_isInstance (T := "int") (b := false) (typeIs_int _ _ _) PySem.sub_int_bytearray ?_)))
  simp only [Bool.false_eq_true, if_false]
  refine wpAny_pure (wpAny_pure ?_)
  refine wpAny_bind (wpAny_newObj_type ?_)
  have hS : (s.heap.push { cls := .type "list", data := .seq ([Value.int 0 s.toks]).toArray }).get? s.heap.objs.size = some { cls := .type "list", data := .seq ([Value.int 0 s.toks]).toArray } := Heap.get?_push_size _ rfl
  obtain ⟨a', g', e, hlt, L⟩ := live_of (W := consS s.heap.objs.size) (A := X.A) (s2 := { s with heap := s.heap.push { cls := .type "list", data := .seq ([Value.int 0 s.toks]).toArray }, toks := s.toks + 1 }) hG (hr.mono (by omega)) I.ok.frames (fun S hS => by rw [List.mem_singleton.mp hS]; exact Nat.le_refl _) (fun _ _ e => Heap.get?_push_of_some _ e)
    ⟨[lstObj #[.int 0 s.toks] 0], ⟨Nat.zero_le _, [], s.toks, 0, rfl, rfl⟩, fun p hp => by
      have e : p = (s.heap.objs.size, lstObj #[.int 0 s.toks] 0) := by simpa [consS] using hp
      rw [e]; exact hS⟩ rfl rfl
  cases e
  have hcl : cStatics < s.heap.objs.size := let ⟨_, hn, _⟩ := e8; hn.lt
  refine wpAny_pure ⟨plainId_quiet F.plain_sum_loop _, loop_sum hr.hd (by have := hr.dp; omega) (Nat.ne_of_gt hlt) (Nat.ne_of_gt hcl) (fun s' is t h => ?_) _ _ 0 s.toks 0 0 (.inl rfl) hS L⟩
  obtain ⟨H', I', q, _⟩ := aft_inv I hex h
  exact ⟨.int is.sum, H', I', ⟨t, rfl⟩, q is rfl⟩
end
end
end VS


set_option Elab.async false
set_option linter.all false
set_option maxRecDepth 100000
/-! VL0: the order of nested tuples of ints. -/
namespace VS
open PySem
def rnk : PyData → Int
  | .none => 0
  | .bool _ => 1
  | .int _ => 2
  | .str _ => 3
  | .tuple _ => 4
  | .list _ => 5
  | .dict _ => 6
def cI (i j : Int) : Ordering := if i < j then .lt else if i = j then .eq else .gt
mutual
def cmpP : PyData → PyData → Ordering
  | .int i, y => (match y with
    | .int j => cI i j
    | y => cI 2 (rnk y))
  | .tuple l, y => (match y with
    | .tuple m => cmpPs l m
    | y => cI 4 (rnk y))
  | .none, y => cI 0 (rnk y)
  | .bool _, y => cI 1 (rnk y)
  | .str _, y => cI 3 (rnk y)
  | .list _, y => cI 5 (rnk y)
  | .dict _, y => cI 6 (rnk y)
def cmpPs : List PyData → List PyData → Ordering
  | [], m => (match m with
    | [] => .eq
    | _ :: _ => .lt)
  | x :: xs, m => (match m with
    | [] => .gt
    | y :: ys => (cmpP x y).then (cmpPs xs ys))
end
theorem cmpPs_cons (x y : PyData) (xs ys : List PyData) : cmpPs (x :: xs) (y :: ys) = (cmpP x y).then (cmpPs xs ys) := by rw [cmpPs]
theorem cmpP_tup (l m : List PyData) : cmpP (.tuple l) (.tuple m) = cmpPs l m := by rw [cmpP]
theorem cmpP_int (i j : Int) : cmpP (.int i) (.int j) = cI i j := by rw [cmpP]
theorem cI_swap (i j : Int) : cI j i = (cI i j).swap := by
  unfold cI
  split <;> split <;> (try split) <;> (try split) <;> first | rfl | omega
theorem cI_tr {i j k : Int} (h1 : cI i j ≠ .gt) (h2 : cI j k ≠ .gt) : cI i k = (cI i j).then (cI j k) := by
  unfold cI at *
  split at h1 <;> rename_i a1
  · split at h2 <;> rename_i a2
    · rw [if_pos (show i < k by omega), if_pos a1]; rfl
    · split at h2 <;> rename_i a3
      · rw [if_pos (show i < k by omega), if_pos a1]; rfl
      · exact absurd rfl h2
  · split at h1 <;> rename_i b1
    · subst b1
      rw [if_neg a1, if_pos rfl]; rfl
    · exact absurd rfl h1
theorem cmpP_rnk {x y : PyData} (h : rnk x ≠ rnk y) : cmpP x y = cI (rnk x) (rnk y) := by
  cases x <;> cases y <;> first | (exact absurd rfl h) | (simp only [cmpP, rnk])
theorem sz_cons (x : PyData) (xs : List PyData) : sizeOf x < sizeOf (x :: xs) ∧ sizeOf xs < sizeOf (x :: xs) := by
  constructor <;> simp <;> omega
theorem sz_tup (l : List PyData) : sizeOf l < sizeOf (PyData.tuple l) := by simp
theorem swap_then (a b : Ordering) : (a.then b).swap = a.swap.then b.swap := by cases a <;> rfl
theorem cmp_swap : ∀ n : Nat, (∀ x y : PyData, sizeOf x + sizeOf y ≤ n → cmpP y x = (cmpP x y).swap) ∧ ∀ l m : List PyData, sizeOf l + sizeOf m ≤ n → cmpPs m l = (cmpPs l m).swap := by
  intro n
  induction n with
  | zero =>
    refine ⟨fun x y h => ?_, fun l m h => ?_⟩
    · cases x <;> simp at h
    · cases l <;> simp at h
  | succ n ih =>
    refine ⟨fun x y h => ?_, fun l m h => ?_⟩
    · by_cases hr : rnk x = rnk y
      · cases x <;> cases y <;> first | (simp [rnk] at hr; done) | skip
        case int.int i j => rw [cmpP_int, cmpP_int]; exact cI_swap i j
        case tuple.tuple l m =>
          rw [cmpP_tup, cmpP_tup]
          have h1 := sz_tup l
          have h2 := sz_tup m
          exact ih.2 l m (by omega)
        all_goals simp [cmpP, rnk, cI]
      · rw [cmpP_rnk hr, cmpP_rnk (Ne.symm hr)]
        exact cI_swap _ _
    · cases l with
      | nil => cases m <;> rfl
      | cons x xs =>
        cases m with
        | nil => rfl
        | cons y ys =>
          have h1 := sz_cons x xs
          have h2 := sz_cons y ys
          rw [cmpPs_cons, cmpPs_cons, swap_then, ih.1 x y (by omega), ih.2 xs ys (by omega)]
theorem cmp_tr : ∀ n : Nat, (∀ x y z : PyData, sizeOf x + sizeOf y + sizeOf z ≤ n → cmpP x y ≠ .gt → cmpP y z ≠ .gt → cmpP x z = (cmpP x y).then (cmpP y z)) ∧ ∀ l m k : List PyData, sizeOf l + sizeOf m + sizeOf k ≤ n → cmpPs l m ≠ .gt → cmpPs m k ≠ .gt → cmpPs l k = (cmpPs l m).then (cmpPs m k) := by
  intro n
  induction n with
  | zero =>
    refine ⟨fun x y z h => ?_, fun l m k h => ?_⟩
    · cases x <;> simp at h
    · cases l <;> simp at h
  | succ n ih =>
    refine ⟨fun x y z h h1 h2 => ?_, fun l m k h h1 h2 => ?_⟩
    · by_cases r1 : rnk x = rnk y
      · by_cases r2 : rnk y = rnk z
        · cases x <;> cases y <;> first | (simp [rnk] at r1; done) | skip
          all_goals (cases z <;> first | (simp [rnk] at r2; done) | skip)
          case int.int.int i j k =>
            rw [cmpP_int] at h1 h2
            rw [cmpP_int, cmpP_int, cmpP_int]
            exact cI_tr h1 h2
          case tuple.tuple.tuple l m k =>
            rw [cmpP_tup] at h1 h2
            rw [cmpP_tup, cmpP_tup, cmpP_tup]
            have a1 := sz_tup l
            have a2 := sz_tup m
            have a3 := sz_tup k
            exact ih.2 l m k (by omega) h1 h2
          all_goals simp [cmpP, rnk, cI]
        · rw [cmpP_rnk r2] at h2
          rw [cmpP_rnk (show rnk x ≠ rnk z by rw [r1]; exact r2), cmpP_rnk r2, r1]
          have q : cI (rnk y) (rnk z) = .lt := by
            unfold cI at h2 ⊢
            split
            · rfl
            · rename_i w
              rw [if_neg w, if_neg r2] at h2
              exact absurd rfl h2
          rw [q]
          cases e : cmpP x y with
          | gt => exact absurd e h1
          | lt => rfl
          | eq => rfl
      · rw [cmpP_rnk r1] at h1
        have q : rnk x < rnk y := by
          unfold cI at h1
          split at h1
          · assumption
          · first | exact absurd rfl h1 | (split at h1; contradiction; exact absurd rfl h1)
        have q2 : rnk y ≤ rnk z := by
          by_cases r2 : rnk y = rnk z
          · omega
          · rw [cmpP_rnk r2] at h2
            unfold cI at h2
            split at h2
            · omega
            · first | exact absurd rfl h2 | (split at h2; contradiction; exact absurd rfl h2)
        rw [cmpP_rnk r1, cmpP_rnk (show rnk x ≠ rnk z by omega)]
        unfold cI
        rw [if_pos (show rnk x < rnk z by omega), if_pos q]; rfl
    · cases l with
      | nil =>
        cases m with
        | nil => cases k <;> rfl
        | cons y ys =>
          cases k with
          | nil => exact absurd rfl h2
          | cons z zs => rfl
      | cons x xs =>
        cases m with
        | nil => exact absurd rfl h1
        | cons y ys =>
          cases k with
          | nil => exact absurd rfl h2
          | cons z zs =>
            have a1 := sz_cons x xs
            have a2 := sz_cons y ys
            have a3 := sz_cons z zs
            rw [cmpPs_cons] at h1 h2
            rw [cmpPs_cons, cmpPs_cons, cmpPs_cons]
            have n1 : cmpP x y ≠ .gt := fun e => by rw [e] at h1; exact h1 rfl
            have n2 : cmpP y z ≠ .gt := fun e => by rw [e] at h2; exact h2 rfl
            have t := ih.1 x y z (by omega) n1 n2
            rw [t]
            cases e1 : cmpP x y with
            | gt => exact absurd e1 n1
            | lt => rfl
            | eq =>
              cases e2 : cmpP y z with
              | gt => exact absurd e2 n2
              | lt =>
                rw [e1] at h1
                show Ordering.lt = (cmpPs xs ys).then _
                cases e3 : cmpPs xs ys with
                | lt => rfl
                | eq => rfl
                | gt => rw [e3] at h1; exact absurd rfl h1
              | eq =>
                rw [e1] at h1
                rw [e2] at h2
                exact ih.2 xs ys zs (by omega) h1 h2
theorem cmpP_swap (x y : PyData) : cmpP y x = (cmpP x y).swap := (cmp_swap _).1 x y (Nat.le_refl _)
def ltP (x y : PyData) : Bool := cmpP x y == .lt
theorem ltP_swo : SrtO.Swo ltP := by
  refine ⟨fun x y h => ?_, fun x y z h1 h2 => ?_⟩
  · have e : cmpP x y = .lt := by simpa [ltP] using h
    unfold ltP
    rw [cmpP_swap x y, e]; rfl
  · have g1 : cmpP x y ≠ .gt := fun e => by
      unfold ltP at h1
      rw [cmpP_swap x y, e] at h1
      exact absurd h1 (by decide)
    have g2 : cmpP y z ≠ .gt := fun e => by
      unfold ltP at h2
      rw [cmpP_swap y z, e] at h2
      exact absurd h2 (by decide)
    have t := (cmp_tr _).1 x y z (Nat.le_refl _) g1 g2
    unfold ltP
    rw [cmpP_swap x z, t]
    cases e1 : cmpP x y with
    | gt => exact absurd e1 g1
    | lt => rfl
    | eq => cases e2 : cmpP y z with
      | gt => exact absurd e2 g2
      | lt => rfl
      | eq => rfl
mutual
/-- ints and tuples of these, nested -/
def plainP : PyData → Bool
  | .int _ => true
  | .tuple l => plainPs l
  | _ => false
def plainPs : List PyData → Bool
  | [] => true
  | x :: xs => plainP x && plainPs xs
end
mutual
/-- the same kinds at the same places -/
def comP : PyData → PyData → Bool
  | .int _, y => (match y with
    | .int _ => true
    | _ => false)
  | .tuple l, y => (match y with
    | .tuple m => comPs l m
    | _ => false)
  | _, _ => false
def comPs : List PyData → List PyData → Bool
  | [], _ => true
  | x :: xs, m => (match m with
    | [] => true
    | y :: ys => comP x y && comPs xs ys)
end
theorem eqv_cmp : ∀ n : Nat, (∀ x y : PyData, sizeOf x + sizeOf y ≤ n → comP x y = true → PyData.eqv x y = (cmpP x y == .eq)) ∧ ∀ l m : List PyData, sizeOf l + sizeOf m ≤ n → comPs l m = true → PyData.eqvAll l m = (cmpPs l m == .eq) := by
  intro n
  induction n with
  | zero =>
    refine ⟨fun x y h => ?_, fun l m h => ?_⟩
    · cases x <;> simp at h
    · cases l <;> simp at h
  | succ n ih =>
    refine ⟨fun x y h hc => ?_, fun l m h hc => ?_⟩
    · cases x <;> cases y <;> first | (simp [comP] at hc; done) | skip
      case int.int i j =>
        rw [cmpP_int]
        simp only [PyData.eqv, cI]
        by_cases a : i < j
        · rw [if_pos a]
          have : ¬ i = j := by omega
          simp [this]
        · rw [if_neg a]
          by_cases b : i = j
          · simp [b]
          · simp [b]
      case tuple.tuple l m =>
        have h1 := sz_tup l
        have h2 := sz_tup m
        rw [cmpP_tup]
        simp only [comP] at hc
        simp only [PyData.eqv]
        exact ih.2 l m (by omega) hc
    · cases l with
      | nil => cases m <;> rfl
      | cons x xs =>
        cases m with
        | nil => rfl
        | cons y ys =>
          have h1 := sz_cons x xs
          have h2 := sz_cons y ys
          simp only [comPs, Bool.and_eq_true] at hc
          rw [PyData.eqvAll, cmpPs_cons, ih.1 x y (by omega) hc.1, ih.2 xs ys (by omega) hc.2]
          cases cmpP x y <;> rfl
end VS


set_option Elab.async false
set_option linter.all false
set_option maxRecDepth 100000
/-! VL1: < of nested tuples of ints, sorting them. -/
namespace VS
noncomputable section
open PySem PySem.Spec PyProof.Rows
open PySem.SeqAt
open PySem.AutoSeq1 (wpAny_loadPart')
open PySem.MeetsSeq PySem.MeetsSeq2 PySem.MeetsSeq3
/-- u < v is r, in this state -/
def RcLt (prog : Program) (w : World) (A : Around) (s : Shared) (u v : Value) (r : Bool) : Prop := ∀ (E Q : Value → Shared → Prop), Q (.bool r) s → wpAny (model prog w) A (richCompare .Lt u v) Q E s
/-- what the walk over both finds -/
def LexV (prog : Program) (w : World) (A : Around) (s : Shared) (fin : Bool) : List Value → List Value → Bool → Prop
  | p :: ps, q :: qs, r => ∃ e, EqAt A s p q e ∧ if e = true then LexV prog w A s fin ps qs r else RcLt prog w A s p q r
  | _, _, r => r = fin
theorem readsAll_len {h : Heap} : ∀ {vs : List Value} {ds : List PyData} {as : List Addr}, ReadsAll h vs ds as → vs.length = ds.length
  | _, [], _, r => by cases r; rfl
  | _, _ :: _, _, r => by cases r with
    | cons a b => rw [List.length_cons, List.length_cons, readsAll_len b]
section
variable {prog : Program} {w : World} {A : Around} {s : Shared}
theorem tup_lt_tree {l b : Addr} {items items2 : Array Value} {r : Bool} {n n2 : Nat} {dd dd2 : Option Addr} {sl sl2 : Array (Option Value)} {P : PySem.Fin → Shared → Prop} {E : Value → Shared → Prop}
    (hl : s.heap.get? l = some { cls := .type "tuple", dict := dd, data := .seq items n, slots := sl }) (hb : s.heap.get? b = some { cls := .type "tuple", dict := dd2, data := .seq items2 n2, slots := sl2 })
    (hx : LexV prog w A s (decide (items.size < items2.size)) items.toList items2.toList r) (h : P (.done (.ret (.bool r))) s) : wpAny (model prog w) A (Builtin.«tuple.__lt__» ⟨[.ref l, .ref b], []⟩) P E s := by
  obtain ⟨hp, g, d, tk, os⟩ := s
  have f2 := AutoSeq1.sub_tuple_tuple
  wp_walk using wpAny_loadPart' hl, wpAny_loadPart' hb, wpAny_forIn_list _ (fun rest b s' => b.1 = none ∧ s' = ⟨hp, g, d, tk, os⟩ ∧ ∃ (vs ws : List Value), rest = vs.zip ws ∧ LexV prog w A ⟨hp, g, d, tk, os⟩ (decide (items.size < items2.size)) vs ws r) _
  case turn =>
    rintro ⟨y, x⟩ rest b s' ⟨hb', rfl, vs, ws, hz, hL⟩
    cases vs with
    | nil => rw [List.zip_nil_left] at hz; cases hz
    | cons v vs =>
      cases ws with
      | nil => rw [List.zip_nil_right] at hz; cases hz
      | cons u ws =>
        rw [List.zip_cons_cons] at hz
        injection hz with hyx hrest
        injection hyx with hy hx
        subst hy hx
        obtain ⟨e, he, hL⟩ := hL
        refine wpAny_bind (he prog w _ _ ?_)
        cases e with
        | true =>
          rw [if_pos rfl] at hL
          wp_walk
          exact ⟨rfl, rfl, _, _, hrest, hL⟩
        | false =>
          rw [if_neg Bool.false_ne_true] at hL
          have hri := fun (E Q : Value → Shared → Prop) (q : Q (.bool r) ⟨hp, g, d, tk, os⟩) => hL E Q q
          wp_walk using hri
          simpa using h
  case fin =>
    rintro ⟨b1, b2⟩ s' ⟨hb', rfl, vs, ws, hz, hL⟩
    simp only at hb'
    subst hb'
    have hv : r = decide (items.size < items2.size) := by
      cases vs with
      | nil => exact hL
      | cons v vs =>
        cases ws with
        | nil => exact hL
        | cons u ws => rw [List.zip_cons_cons] at hz; cases hz
    rw [hv] at h
    wp_walk
    simpa [Builtin.Tuple.tupleCompareSizes] using h
  case h =>
    exact ⟨rfl, rfl, items.toList, items2.toList, rfl, hx⟩
/-- u < v, nested tuples of ints -/
theorem rcLt_data : ∀ (n : Nat) (A : Around) (x y : PyData) (u v : Value) (as bs : List Addr), sizeOf x ≤ n → Reads s.heap u x as → Reads s.heap v y bs → comP x y = true → x.canLay0 = true → y.canLay0 = true → A.units + x.depth < cLine → RcLt prog w A s u v (ltP x y) := by
  intro n
  induction n with
  | zero => intro A x y u v as bs h; cases x <;> simp at h
  | succ n ih =>
    intro A x y u v as bs h r1 r2 hc c1 c2 hu
    cases x <;> cases y <;> first | (simp [comP] at hc; done) | skip
    case int.int i j =>
      cases r1
      cases r2
      intro E Q hq
      refine HT.rcLt_int A s _ _ _ _ prog w E Q ?_
      have e : ltP (.int i) (.int j) = decide (i < j) := by
        unfold ltP
        rw [cmpP_int]
        unfold cI
        by_cases a : i < j
        · rw [if_pos a]; simp [a]
        · rw [if_neg a]
          by_cases b : i = j
          · simp [b]
          · simp [a, b]
      rw [← e]; exact hq
    case tuple.tuple l m =>
      obtain ⟨_, o1, vs, n1, e1, e2, e3, ra⟩ : ∃ a o vs n, s.heap.get? a = some o ∧ o.cls = .type "tuple" ∧ o.data = .seq vs n ∧ ∃ as, u = .ref a ∧ ReadsAll s.heap vs.toList l as := by
        cases r1 with
        | tuple g1 g2 g3 g4 => exact ⟨_, _, _, _, g1, g2, g3, _, rfl, g4⟩
      obtain ⟨_, o2, ws, n2, f1, f2, f3, rb⟩ : ∃ a o vs n, s.heap.get? a = some o ∧ o.cls = .type "tuple" ∧ o.data = .seq vs n ∧ ∃ as, v = .ref a ∧ ReadsAll s.heap vs.toList m as := by
        cases r2 with
        | tuple g1 g2 g3 g4 => exact ⟨_, _, _, _, g1, g2, g3, _, rfl, g4⟩
      obtain ⟨as', rfl, ra⟩ := ra
      obtain ⟨bs', rfl, rb⟩ := rb
      simp only [comP] at hc
      simp only [PyData.canLay0] at c1 c2
      simp only [PyData.depth] at hu
      have hsz := sz_tup l
      have items : ∀ (l m : List PyData) (vs ws : List Value) (as bs : List Addr) (N M : Nat), sizeOf l ≤ n → ReadsAll s.heap vs l as → ReadsAll s.heap ws m bs → comPs l m = true → PyData.canLayAll0 l = true → PyData.canLayAll0 m = true → A.in1.units + PyData.depthAll l < cLine →
          (N : Int) - l.length = (M : Int) - m.length → LexV prog w A.in1 s (decide (N < M)) vs ws (cmpPs l m == .lt) := by
        intro l
        induction l with
        | nil =>
          intro m vs ws as bs N M hn ra rb hc c1 c2 hu hl
          cases ra
          show (cmpPs [] m == .lt) = decide (N < M)
          cases m with
          | nil =>
            have : ¬ N < M := by simp at hl; omega
            simp [cmpPs, this]
          | cons y ys =>
            have : N < M := by simp at hl; omega
            simp [cmpPs, this]
        | cons x xs ihl =>
          intro m vs ws as bs N M hn ra rb hc c1 c2 hu hl
          cases ra with
          | @cons v1 vs1 _ _ as1 as2 rx ra =>
            cases m with
            | nil =>
              cases rb
              show (cmpPs (x :: xs) [] == .lt) = decide (N < M)
              have : ¬ N < M := by simp at hl; omega
              simp [cmpPs, this]
            | cons y ys =>
              cases rb with
              | @cons w1 ws1 _ _ bs1 bs2 ry rb =>
                simp only [comPs, Bool.and_eq_true] at hc
                simp only [PyData.canLayAll0, Bool.and_eq_true] at c1 c2
                simp only [PyData.depthAll] at hu
                have s1 := sz_cons x xs
                have hin : A.in1.units = A.units + 1 := rfl
                have hux : A.in1.units + x.depth < cLine := by omega
                refine ⟨PyData.eqv x y, eqAt_reads x y A.in1 s v1 w1 as1 bs1 rx ry c1.1 c2.1 (by have := Nat.min_le_left x.depth y.depth; omega), ?_⟩
                rw [(eqv_cmp _).1 x y (Nat.le_refl _) hc.1, cmpPs_cons]
                cases e : cmpP x y with
                | eq => exact ihl ys vs1 ws1 as2 bs2 N M (by omega) ra rb hc.2 c1.2 c2.2 (by rw [hin]; omega) (by simp at hl; omega)
                | lt =>
                  have := ih A.in1 x y v1 w1 as1 bs1 (by omega) rx ry hc.1 c1.1 c2.1 hux
                  unfold ltP at this
                  rw [e] at this
                  exact this
                | gt =>
                  have := ih A.in1 x y v1 w1 as1 bs1 (by omega) rx ry hc.1 c1.1 c2.1 hux
                  unfold ltP at this
                  rw [e] at this
                  exact this
      intro E Q hq
      obtain ⟨⟨cls, dd, data, sl⟩, e1, hcc, n1, hd1⟩ : ∃ o : Obj, s.heap.get? _ = some o ∧ o.cls = .type "tuple" ∧ ∃ n, o.data = .seq vs n := ⟨o1, e1, e2, n1, e3⟩
      obtain ⟨⟨cls2, dd2, data2, sl2⟩, f1, hcc2, n2, hd2⟩ : ∃ o : Obj, s.heap.get? _ = some o ∧ o.cls = .type "tuple" ∧ ∃ n, o.data = .seq ws n := ⟨o2, f1, f2, n2, f3⟩
      simp only at hcc hd1 hcc2 hd2
      subst hcc hd1 hcc2 hd2
      have hlen1 : vs.size = l.length := by
        have := readsAll_len ra
        simpa using this
      have hlen2 : ws.size = m.length := by
        have := readsAll_len rb
        simpa using this
      have L := items l m vs.toList ws.toList as' bs' vs.size ws.size (by omega) ra rb hc c1 c2 (by show A.units + 1 + _ < _; omega) (by omega)
      refine wpAny_richCompare_same_room (op := .Lt) ⟨_, e1, rfl⟩ ⟨_, f1, rfl⟩ PySem.F.slot_tuple_lt (wpAny_call_entry PySem.F.slot_tuple_lt ⟨_, e1, rfl⟩ PySem.F.entry_tuple_lt (tup_lt_tree e1 f1 L ?_) (PySem.F.args_tuple_lt_2 _ _)) (by omega)
      have e : ltP (.tuple l) (.tuple m) = (cmpPs l m == .lt) := by unfold ltP; rw [cmpP_tup]
      rw [e] at hq
      exact ⟨_, rfl, fun e => (nomatch e), hq⟩
end
end
end VS


set_option Elab.async false
set_option linter.all false
set_option maxRecDepth 100000
/-! VL2: sorting nested tuples of ints. -/
namespace VS
noncomputable section
open PySem PySem.Spec PyProof.Rows
open PySem.SeqAt
section
variable {prog : Program} {w : World} {A : Around} {s : Shared}
theorem lexV_data : ∀ (l m : List PyData) (vs ws : List Value) (as bs : List Addr) (N M : Nat), ReadsAll s.heap vs l as → ReadsAll s.heap ws m bs → comPs l m = true → PyData.canLayAll0 l = true → PyData.canLayAll0 m = true → A.units + PyData.depthAll l < cLine →
    (N : Int) - l.length = (M : Int) - m.length → LexV prog w A s (decide (N < M)) vs ws (cmpPs l m == .lt) := by
  intro l
  induction l with
  | nil =>
    intro m vs ws as bs N M ra rb hc c1 c2 hu hl
    cases ra
    show (cmpPs [] m == .lt) = decide (N < M)
    cases m with
    | nil =>
      have : ¬ N < M := by simp at hl; omega
      simp [cmpPs, this]
    | cons y ys =>
      have : N < M := by simp at hl; omega
      simp [cmpPs, this]
  | cons x xs ihl =>
    intro m vs ws as bs N M ra rb hc c1 c2 hu hl
    cases ra with
    | @cons v1 vs1 _ _ as1 as2 rx ra =>
      cases m with
      | nil =>
        cases rb
        show (cmpPs (x :: xs) [] == .lt) = decide (N < M)
        have : ¬ N < M := by simp at hl; omega
        simp [cmpPs, this]
      | cons y ys =>
        cases rb with
        | @cons w1 ws1 _ _ bs1 bs2 ry rb =>
          simp only [comPs, Bool.and_eq_true] at hc
          simp only [PyData.canLayAll0, Bool.and_eq_true] at c1 c2
          simp only [PyData.depthAll] at hu
          have hux : A.units + x.depth < cLine := by omega
          refine ⟨PyData.eqv x y, eqAt_reads x y A s v1 w1 as1 bs1 rx ry c1.1 c2.1 (by have := Nat.min_le_left x.depth y.depth; omega), ?_⟩
          rw [(eqv_cmp _).1 x y (Nat.le_refl _) hc.1, cmpPs_cons]
          cases e : cmpP x y with
          | eq => exact ihl ys vs1 ws1 as2 bs2 N M ra rb hc.2 c1.2 c2.2 (by omega) (by simp at hl; omega)
          | lt =>
            have := rcLt_data (prog := prog) (w := w) _ A x y v1 w1 as1 bs1 (Nat.le_refl _) rx ry hc.1 c1.1 c2.1 hux
            unfold ltP at this
            rw [e] at this
            exact this
          | gt =>
            have := rcLt_data (prog := prog) (w := w) _ A x y v1 w1 as1 bs1 (Nat.le_refl _) rx ry hc.1 c1.1 c2.1 hux
            unfold ltP at this
            rw [e] at this
            exact this
theorem plain_lay : ∀ n : Nat, (∀ x : PyData, sizeOf x ≤ n → plainP x = true → x.canLay0 = true) ∧ ∀ l : List PyData, sizeOf l ≤ n → plainPs l = true → PyData.canLayAll0 l = true := by
  intro n
  induction n with
  | zero =>
    refine ⟨fun x h => ?_, fun l h => ?_⟩
    · cases x <;> simp at h
    · cases l <;> simp at h
  | succ n ih =>
    refine ⟨fun x h hp => ?_, fun l h hp => ?_⟩
    · cases x <;> first | (simp [plainP] at hp; done) | skip
      case int i => rfl
      case tuple l =>
        have h1 := sz_tup l
        rw [plainP] at hp
        rw [PyData.canLay0]
        exact ih.2 l (by omega) hp
    · cases l with
      | nil => rfl
      | cons x xs =>
        have h1 := sz_cons x xs
        rw [plainPs, Bool.and_eq_true] at hp
        rw [PyData.canLayAll0, ih.1 x (by omega) hp.1, ih.2 xs (by omega) hp.2]; rfl
theorem plain_lay1 {x : PyData} (h : plainP x = true) : x.canLay0 = true := (plain_lay _).1 x (Nat.le_refl _) h
theorem plain_keeps {h h' : Heap} (k : ∀ b o, h.get? b = some o → o.cls = .type "tuple" → h'.get? b = some o) : ∀ n : Nat, (∀ (x : PyData) (v : Value) (as : List Addr), sizeOf x ≤ n → plainP x = true → Reads h v x as → Reads h' v x as) ∧
    ∀ (l : List PyData) (vs : List Value) (as : List Addr), sizeOf l ≤ n → plainPs l = true → ReadsAll h vs l as → ReadsAll h' vs l as := by
  intro n
  induction n with
  | zero =>
    refine ⟨fun x v as h => ?_, fun l v as h => ?_⟩
    · cases x <;> simp at h
    · cases l <;> simp at h
  | succ n ih =>
    refine ⟨fun x v as h hp r => ?_, fun l v as h hp r => ?_⟩
    · cases x <;> first | (simp [plainP] at hp; done) | skip
      case int i => cases r; exact .int _ _
      case tuple l =>
        have h1 := sz_tup l
        rw [plainP] at hp
        cases r with
        | tuple g1 g2 g3 g4 => exact .tuple (k _ _ g1 g2) g2 g3 (ih.2 l _ _ (by omega) hp g4)
    · cases l with
      | nil => cases r; exact .nil
      | cons x xs =>
        have h1 := sz_cons x xs
        rw [plainPs, Bool.and_eq_true] at hp
        cases r with
        | cons a b => exact .cons (ih.1 x _ _ (by omega) hp.1 a) (ih.2 xs _ _ (by omega) hp.2 b)
theorem keeps1 {h h' : Heap} (k : ∀ b o, h.get? b = some o → o.cls = .type "tuple" → h'.get? b = some o) {x : PyData} {v : Value} {as : List Addr} (hp : plainP x = true) (r : Reads h v x as) : Reads h' v x as := (plain_keeps k _).1 x v as (Nat.le_refl _) hp r
/-- a tuple read -/
theorem reads_tup {h : Heap} {v : Value} {l : List PyData} {as : List Addr} (r : Reads h v (.tuple l) as) : ∃ a dd items n sl, v = .ref a ∧ h.get? a = some { cls := .type "tuple", dict := dd, data := .seq items n, slots := sl } ∧ ReadsAll h items.toList l as := by
  cases r with
  | @tuple a o vs n xs as g1 g2 g3 g4 =>
    obtain ⟨cls, dd, data, sl⟩ := o
    simp only at g2 g3
    subst g2 g3
    exact ⟨a, dd, vs, n, sl, rfl, g1, g4⟩
/-- tuple.__lt__ called -/
theorem call_lt_data {l m : List PyData} {u v : Value} {as bs : List Addr} (r1 : Reads s.heap u (.tuple l) as) (r2 : Reads s.heap v (.tuple m) bs) (hc : comPs l m = true) (c1 : PyData.canLayAll0 l = true) (c2 : PyData.canLayAll0 m = true) (hu : A.units + 1 + PyData.depthAll l < cLine) {Q : Value → Shared → Prop} {E : Value → Shared → Prop}
    (h : Q (.bool (ltP (.tuple l) (.tuple m))) s) : wpAny (model prog w) A (call (.builtin "tuple.__lt__") [u, v]) Q E s := by
  obtain ⟨a, dd, items, n, sl, rfl, g1, ra⟩ := reads_tup r1
  obtain ⟨b, dd2, items2, n2, sl2, rfl, g2, rb⟩ := reads_tup r2
  have hlen1 : items.size = l.length := by
    have := readsAll_len ra
    simpa using this
  have hlen2 : items2.size = m.length := by
    have := readsAll_len rb
    simpa using this
  have L := lexV_data (prog := prog) (w := w) (A := A.in1) l m items.toList items2.toList as bs items.size items2.size ra rb hc c1 c2 hu (by omega)
  refine wpAny_call_entry PySem.F.slot_tuple_lt ⟨_, g1, rfl⟩ PySem.F.entry_tuple_lt (tup_lt_tree g1 g2 L ?_) (PySem.F.args_tuple_lt_2 _ _)
  have e : ltP (.tuple l) (.tuple m) = (cmpPs l m == .lt) := by unfold ltP; rw [cmpP_tup]
  rw [e] at h
  exact ⟨_, rfl, h⟩
theorem ltP_int (i j : Int) : ltP (.int i) (.int j) = decide (i < j) := by
  unfold ltP
  rw [cmpP_int]
  unfold cI
  by_cases a : i < j
  · rw [if_pos a]; simp [a]
  · rw [if_neg a]
    by_cases b : i = j
    · simp [b]
    · simp [a, b]
theorem oneLt_data {b : Bool} {x y : PyData} {u v : Value} {as bs : List Addr} (r1 : Reads s.heap u x as) (r2 : Reads s.heap v y bs) (hc : comP x y = true) (c1 : x.canLay0 = true) (c2 : y.canLay0 = true) (hu : A.units + 1 + x.depth < cLine) {Q : Bool → Shared → Prop} {E : Value → Shared → Prop}
    (h : Q (ltP x y) s) : wpAny (model prog w) A (oneLt' b u v) Q E s := by
  cases b with
  | false =>
    rw [oneLt'_eq]
    simp only [Bool.false_eq_true, if_false]
    refine wpAny_bind (rcLt_data (prog := prog) (w := w) _ A x y u v as bs (Nat.le_refl _) r1 r2 hc c1 c2 (by omega) _ _ ?_)
    exact wpAny_truthy_bool h
  | true =>
    cases x <;> cases y <;> first | (simp [comP] at hc; done) | skip
    case int.int i j =>
      cases r1
      cases r2
      rw [ltP_int] at h
      exact oneLt_int h
    case tuple.tuple l m =>
      simp only [comP] at hc
      simp only [PyData.canLay0] at c1 c2
      simp only [PyData.depth] at hu
      rw [oneLt'_eq]
      simp only [if_true]
      refine wpAny_bind (wpAny_cRoomFor (by omega) ?_)
      have hT : s.TypeIs u "tuple" := by
        obtain ⟨a, dd, items, n, sl, rfl, g1, ra⟩ := reads_tup r1
        exact ⟨_, g1, rfl⟩
      refine wpAny_bind (wpAny_callSpecialIfBound?_slot hT PySem.F.slot_tuple_lt (call_lt_data r1 r2 hc c1 c2 (by omega) ?_))
      exact wpAny_truthy_bool h
theorem katLex_data {b : Bool} {fin : Bool} {Q : Bool → Shared → Prop} : ∀ (l m : List PyData) (vs ws : List Value) (as bs : List Addr) (i : Nat), ReadsAll s.heap vs l as → ReadsAll s.heap ws m bs → comPs l m = true → PyData.canLayAll0 l = true → PyData.canLayAll0 m = true → A.units + 1 + PyData.depthAll l < cLine →
    (∀ r, (r = (cmpPs l m == .lt) ∨ (l.length = l.length ∧ False)) → Q r s) → (fin = true → False) ∨ True → ((l.length < m.length) = (fin = true)) → PySem.W.KatLex prog w A b fin Q (vs.zip ws) i s := by
  intro l
  induction l with
  | nil =>
    intro m vs ws as bs i ra rb hc c1 c2 hu hQ _ hf
    cases ra
    refine PySem.W.kat_nil (hQ _ (.inl ?_))
    cases m with
    | nil =>
      have : ¬ fin = true := by rw [← hf]; simp
      simp [cmpPs] at this ⊢
      exact this
    | cons y ys =>
      have : fin = true := by rw [← hf]; simp
      simp [cmpPs, this]
  | cons x xs ihl =>
    intro m vs ws as bs i ra rb hc c1 c2 hu hQ _ hf
    cases ra with
    | @cons v1 vs1 _ _ as1 as2 rx ra =>
      cases m with
      | nil =>
        cases rb
        refine PySem.W.kat_nil (hQ _ (.inl ?_))
        have : ¬ fin = true := by rw [← hf]; simp
        simp [cmpPs] at this ⊢
        exact this
      | cons y ys =>
        cases rb with
        | @cons w1 ws1 _ _ bs1 bs2 ry rb =>
          simp only [comPs, Bool.and_eq_true] at hc
          simp only [PyData.canLayAll0, Bool.and_eq_true] at c1 c2
          simp only [PyData.depthAll] at hu
          show PySem.W.KatLex prog w A b fin Q ((v1, w1) :: vs1.zip ws1) i s
          refine PySem.W.kat_cons (eqAt_reads x y A s v1 w1 as1 bs1 rx ry c1.1 c2.1 (by have := Nat.min_le_left x.depth y.depth; omega) prog w _ _ ?_)
          rw [(eqv_cmp _).1 x y (Nat.le_refl _) hc.1]
          cases e : cmpP x y with
          | eq => exact PySem.W.kat_yes (ihl ys vs1 ws1 as2 bs2 (i + 1) ra rb hc.2 c1.2 c2.2 (by omega) (fun r hr => hQ r (by rw [cmpPs_cons, e]; exact hr.imp id fun z => z.2.elim)) (.inr trivial) (by rw [← hf]; simp))
          | lt =>
            refine PySem.W.kat_no (oneLt_data rx ry hc.1 c1.1 c2.1 (by omega) (hQ _ (.inl ?_)))
            unfold ltP
            rw [cmpPs_cons, e]; rfl
          | gt =>
            refine PySem.W.kat_no (oneLt_data rx ry hc.1 c1.1 c2.1 (by omega) (hQ _ (.inl ?_)))
            unfold ltP
            rw [cmpPs_cons, e]; rfl
theorem keyLt_tups {b : Bool} {l m : List PyData} {u v : Value} {as bs : List Addr} (r1 : Reads s.heap u (.tuple l) as) (r2 : Reads s.heap v (.tuple m) bs) (hc : comPs l m = true) (c1 : PyData.canLayAll0 l = true) (c2 : PyData.canLayAll0 m = true) (hu : A.units + 1 + PyData.depthAll l < cLine) {Q : Bool → Shared → Prop} {E : Value → Shared → Prop}
    (h : Q (ltP (.tuple l) (.tuple m)) s) : wpAny (model prog w) A (keyLt' (tuples' b) u v) Q E s := by
  obtain ⟨a, dd, items, n, sl, rfl, g1, ra⟩ := reads_tup r1
  obtain ⟨b', dd2, items2, n2, sl2, rfl, g2, rb⟩ := reads_tup r2
  have hlen1 : items.size = l.length := by
    have := readsAll_len ra
    simpa using this
  have hlen2 : items2.size = m.length := by
    have := readsAll_len rb
    simpa using this
  have e : ltP (.tuple l) (.tuple m) = (cmpPs l m == .lt) := by unfold ltP; rw [cmpP_tup]
  rw [e] at h
  refine PySem.W.kat_lt g1 rfl g2 rfl (katLex_data l m _ _ as bs 0 ra rb hc c1 c2 hu (fun r hr => ?_) (.inr trivial) ?_)
  · rcases hr with rfl | hr
    · exact h
    · exact hr.2.elim
  · rw [hlen1, hlen2]; simp
theorem firstsG {M : Model} {E : Value → Shared → Prop} (f : Value → Option Value) : ∀ (vs : List Value) {Q : List (Option Value) → Shared → Prop}, (∀ v ∈ vs, ∃ a o xs n, v = .ref a ∧ s.heap.get? a = some o ∧ o.cls = .type "tuple" ∧ o.data = .seq xs n ∧ xs[0]? = f v) → Q (vs.map f) s → wpAny M A (vs.mapM firstOfTuple') Q E s
  | [], Q, _, h => by rw [List.mapM_nil]; exact wpAny_pure h
  | v :: vs, Q, t, h => by
    obtain ⟨a, o, xs, n, rfl, ho, hc, hd, hf⟩ := t v List.mem_cons_self
    rw [List.mapM_cons]
    refine wpAny_bind ?_
    rw [PySem.W.kas_first_eq]
    refine wpAny_bind (PySem.W.Looks.here (show PySem.W.Looks M s.heap (typeOf (.ref a)) o.cls from (PySem.W.Looks.ld ho).andThen .now) ?_)
    rw [hc, if_neg (by first | decide | simp)]
    refine wpAny_bind (listItems_at ho hd (wpAny_pure ?_))
    rw [hf]
    exact wpAny_bind (firstsG f vs (Q := fun bs s' => wpAny M A (pure (f (.ref a) :: bs)) Q E s') (fun u hu => t u (List.mem_cons_of_mem _ hu)) (wpAny_pure h))
end
end
end VS


set_option Elab.async false
set_option linter.all false
set_option maxRecDepth 100000
/-! VL3: sorted by data. -/
namespace VS
noncomputable section
open PySem PySem.Spec PyProof.Rows L2
section
variable {prog : Program} {w : World} {A : Around} {s : Shared} {E : Value → Shared → Prop}
theorem sorted_by {u : Value} {Q : Value → Shared → Prop}
    (hcol : wpAny (model prog w) A.in1 (collect u) (fun us s1 => us.length ≤ sizeLine ∧ ∃ ltv, SrtO.Swo ltv ∧ (2 ≤ us.length → ∀ (h₁ : Heap) (a : Addr), h₁.get? a = some (seqObj "list" us.toArray 0) → (∀ b o, s1.heap.get? b = some o → b ≠ a ∧ h₁.get? b = some o) → SrtO.SortableO prog w A.in1.in1 { s1 with heap := h₁ } a us ltv) ∧
      ∀ (out : List Value) (h' : Heap), SrtO.Srtd ltv out → SrtO.Stb ltv out us → (∀ b o, s1.heap.get? b = some o → h'.get? b = some o) → (∃ n, h'.get? s1.heap.objs.size = some (seqObj "list" out.toArray n)) → Q (.ref s1.heap.objs.size) { s1 with heap := h' }) E s) :
    wpAny (model prog w) A (call (.builtin "sorted") [u]) Q E s := by
  refine Calls.call_function_entry kind_sorted plain_sorted entry_sorted (args_sorted1 _) ?_
  unfold Builtin.«sorted»
  refine wpAny_bind (m := checkCount "sorted" 1 1 _) (wpAny_pure ?_)
  refine wpAny_bind (wpAny_mono hcol (fun us s1 h => ?_) fun _ _ e => e)
  obtain ⟨hz, ltv, O, hS, h⟩ := h
  refine wpAny_bind (wpAny_newList ?_ hz)
  have hoL : (s1.heap.push (seqObj "list" us.toArray 0)).get? s1.heap.objs.size = some (seqObj "list" us.toArray 0) := Heap.get?_push_size _ rfl
  have keep : ∀ b o, s1.heap.get? b = some o → b ≠ s1.heap.objs.size ∧ (s1.heap.push (seqObj "list" us.toArray 0)).get? b = some o := fun b o q => ⟨Nat.ne_of_lt (Heap.lt_size q), Heap.get?_push_of_some _ q⟩
  show wpAny _ _ _ _ _ { s1 with heap := s1.heap.push (seqObj "list" us.toArray 0) }
  refine wpAny_bind (wpAny_holding (wpAny_call_entry slot_list_sort ⟨_, hoL, rfl⟩ entry_list_sort (SrtO.list_sort_ord O hoL hz (fun h2 => hS h2 _ _ hoL keep) fun out hs hb => ⟨_, rfl, ?_⟩) (args_list_sort _)))
  refine wpAny_pure ⟨_, rfl, ?_⟩
  have ho1 := get?_update_seq hoL (fun _ => #[])
  have ho6 : ((((s1.heap.push (seqObj "list" us.toArray 0)).update s1.heap.objs.size (Obj.mapSeq fun _ => #[])).push (seqObj "tuple" us.toArray 0)).push (seqObj "list" #[] 0)).get? s1.heap.objs.size = _ :=
    Heap.get?_push_of_some _ (Heap.get?_push_of_some _ ho1)
  refine h out _ hs hb (fun b o e => ?_) ⟨_, get?_update_seq ho6 (fun _ => out.toArray)⟩
  have hne : b ≠ s1.heap.objs.size := (keep b o e).1
  unfold sortedHeap
  rw [Heap.get?_update_ne _ _ _ _ hne]
  refine Heap.get?_push_of_some _ (Heap.get?_push_of_some _ ?_)
  rw [Heap.get?_update_ne _ _ _ _ hne]
  exact (keep b o e).2
/-- all have a first item -/
theorem kat_of {h : Heap} : ∀ {vs : List Value}, (∀ v ∈ vs, ∃ a o xs n x, v = .ref a ∧ h.get? a = some o ∧ o.cls = .type "tuple" ∧ o.data = .seq xs n ∧ xs[0]? = some x) → ∃ fs, PySem.W.KatTups h vs fs ∧ fs.length = vs.length ∧ ∀ x ∈ fs, ∃ v ∈ vs, ∃ a o xs n, v = .ref a ∧ h.get? a = some o ∧ o.data = .seq xs n ∧ xs[0]? = some x
  | [], _ => ⟨[], PySem.W.KatTups.nil, rfl, fun x hx => absurd hx List.not_mem_nil⟩
  | v :: vs, hv => by
    obtain ⟨fs, h1, h2, h3⟩ := kat_of fun u hu => hv u (List.mem_cons_of_mem _ hu)
    obtain ⟨a, o, xs, n, x, rfl, ho, hc, hd, hx⟩ := hv v List.mem_cons_self
    refine ⟨x :: fs, PySem.W.KatTups.cons ho hc hd hx h1, by simp [h2], fun y hy => ?_⟩
    rcases List.mem_cons.mp hy with rfl | hy
    · exact ⟨_, List.mem_cons_self, a, o, xs, n, rfl, ho, hd, hx⟩
    · obtain ⟨u, hu, r⟩ := h3 y hy
      exact ⟨u, List.mem_cons_of_mem _ hu, r⟩
theorem data_sortable {a : Addr} {vs : List Value} {k : Value → PyData} (h2 : 2 ≤ vs.length) (hk : ∀ v ∈ vs, ∃ as, Reads s.heap v (k v) as) (hp : ∀ v ∈ vs, plainP (k v) = true) (hc : ∀ v ∈ vs, ∀ u ∈ vs, comP (k v) (k u) = true) (hd : ∀ v ∈ vs, (k v).depth ≤ 50)
    (hu : A.units + 60 < cLine) (ha : ∀ o, s.heap.get? a = some o → o.cls ≠ .type "tuple") : SrtO.SortableO prog w A s a vs fun v u => ltP (k v) (k u) := by
  intro h' keep
  have hk' : ∀ v ∈ vs, ∃ as, Reads h' v (k v) as := fun v hv => by
    obtain ⟨as, r⟩ := hk v hv
    exact ⟨as, keeps1 (fun b o e c => keep b o (fun z => ha o (z ▸ e) c) e) (hp v hv) r⟩
  obtain ⟨v0, rest, rfl⟩ : ∃ v0 rest, vs = v0 :: rest := by
    cases vs with
    | nil => simp at h2
    | cons v0 rest => exact ⟨v0, rest, rfl⟩
  have hm0 : v0 ∈ v0 :: rest := List.mem_cons_self
  cases e0 : k v0 <;> first | (have := hp v0 hm0; rw [e0] at this; simp [plainP] at this; done) | skip
  case int i0 =>
    have hints : ∀ v ∈ v0 :: rest, ∃ i t, k v = .int i ∧ v = .int i t := fun v hv => by
      have q := hc v0 hm0 v hv
      rw [e0] at q
      obtain ⟨as, r⟩ := hk' v hv
      cases e : k v <;> rw [e] at q r <;> first | (simp [comP] at q; done) | skip
      case int i =>
        cases r
        exact ⟨_, _, rfl, rfl⟩
    refine ⟨oneType', fun Q E hq => ?_, fun p q hp' hq' => ?_⟩
    · refine PySem.W.kas_kind (T := Value.type "int") h2 (fun v hv => ?_) (by decide) (by decide) hq
      obtain ⟨i, t, _, rfl⟩ := hints v hv
      exact PySem.W.Looks.of_pure rfl
    · obtain ⟨i, t, k1, ei⟩ := hints _ hp'
      obtain ⟨j, u, k2, ej⟩ := hints _ hq'
      show wpAny _ _ (keyLt' oneType' p.1 q.1) (fun r s' => s' = _ ∧ r = ltP (k p.1) (k q.1)) _ _
      rw [k1, k2, ltP_int, ei, ej, keyLt'_oneType]
      exact oneLt_int ⟨rfl, rfl⟩
  case tuple l0 =>
    have tups : ∀ v ∈ v0 :: rest, ∃ l as, k v = .tuple l ∧ Reads h' v (.tuple l) as ∧ PyData.canLayAll0 l = true ∧ PyData.depthAll l + 1 ≤ 50 := fun v hv => by
      have q := hc v0 hm0 v hv
      rw [e0] at q
      obtain ⟨as, r⟩ := hk' v hv
      have hpl := plain_lay1 (hp v hv)
      have hdd := hd v hv
      cases e : k v <;> rw [e] at q r hpl hdd <;> first | (simp [comP] at q; done) | skip
      case tuple l =>
        refine ⟨l, as, rfl, r, ?_, ?_⟩
        · simpa [PyData.canLay0] using hpl
        · simpa [PyData.depth] using hdd
    have com : ∀ v ∈ v0 :: rest, ∀ u ∈ v0 :: rest, ∀ l m, k v = .tuple l → k u = .tuple m → comPs l m = true := fun v hv u hu' l m el em => by
      have q := hc v hv u hu'
      rw [el, em] at q
      simpa [comP] using q
    have lts : ∀ (b : Bool) (κ : SortKind), (κ = tuples' b ∨ κ = oneType' ∨ κ = general') → SrtO.Cmp prog w A { s with heap := h' } κ (fun p => p.1 ∈ v0 :: rest) (SrtO.lt2 fun v u => ltP (k v) (k u)) := by
      intro b κ hκ p q hp' hq'
      obtain ⟨l, as, k1, r1, c1, d1⟩ := tups _ hp'
      obtain ⟨m, bs, k2, r2, c2, d2⟩ := tups _ hq'
      have hcm := com _ hp' _ hq' l m k1 k2
      show wpAny _ _ (keyLt' κ p.1 q.1) (fun r s' => s' = _ ∧ r = ltP (k p.1) (k q.1)) _ _
      rw [k1, k2]
      rcases hκ with rfl | rfl | rfl
      · exact keyLt_tups (s := { s with heap := h' }) r1 r2 hcm c1 c2 (by omega) ⟨rfl, rfl⟩
      · rw [keyLt'_oneType]
        exact oneLt_data (s := { s with heap := h' }) r1 r2 (by simpa [comP] using hcm) (by simpa [PyData.canLay0] using c1) (by simpa [PyData.canLay0] using c2) (by simp only [PyData.depth]; omega) ⟨rfl, rfl⟩
      · show wpAny _ _ (oneLt' false p.1 q.1) _ _ _
        exact oneLt_data (s := { s with heap := h' }) r1 r2 (by simpa [comP] using hcm) (by simpa [PyData.canLay0] using c1) (by simpa [PyData.canLay0] using c2) (by simp only [PyData.depth]; omega) ⟨rfl, rfl⟩
    have first : ∀ v ∈ v0 :: rest, ∃ a o xs n, v = .ref a ∧ h'.get? a = some o ∧ o.cls = .type "tuple" ∧ o.data = .seq xs n ∧ ∃ l as, k v = .tuple l ∧ ReadsAll h' xs.toList l as := fun v hv => by
      obtain ⟨l, as, k1, r1, c1, d1⟩ := tups v hv
      obtain ⟨a, dd, items, n, sl, rfl, g, ra⟩ := reads_tup r1
      exact ⟨a, _, items, n, rfl, g, rfl, rfl, l, as, k1, ra⟩
    by_cases hall : ∀ v ∈ v0 :: rest, k v ≠ .tuple []
    · have hne : ∀ v ∈ v0 :: rest, ∃ a o xs n x, v = .ref a ∧ h'.get? a = some o ∧ o.cls = .type "tuple" ∧ o.data = .seq xs n ∧ xs[0]? = some x := fun v hv => by
        obtain ⟨a, o, xs, n, e1, e2, e3, e4, l, as, e5, e6⟩ := first v hv
        cases l with
        | nil => exact absurd e5 (hall v hv)
        | cons y ys =>
          cases hx : xs.toList with
          | nil => rw [hx] at e6; cases e6
          | cons x xs' =>
            refine ⟨a, o, xs, n, x, e1, e2, e3, e4, ?_⟩
            have z := congrArg (fun l : List Value => l[0]?) hx
            simpa using z
      obtain ⟨fs, hf, hl, hfs⟩ := kat_of hne
      -- the firsts are of one kind
      have kinds : ∃ T : Value, (T == T) = true ∧ ∀ (M : Model), ∀ x ∈ fs, PySem.W.Looks M h' (typeOf x) T := by
        have rd : ∀ x ∈ fs, ∃ y ys v, v ∈ v0 :: rest ∧ k v = .tuple (y :: ys) ∧ ∃ as, Reads h' x y as := fun x hx => by
          obtain ⟨v, hv, a, o, xs, n, e1, e2, e3, e4⟩ := hfs x hx
          obtain ⟨a', o', xs', n', e1', e2', e3', e4', l, as, e5, e6⟩ := first v hv
          rw [e1] at e1'
          cases e1'
          rw [e2] at e2'
          cases e2'
          rw [e3] at e4'
          cases e4'
          cases l with
          | nil => exact absurd e5 (hall v hv)
          | cons y ys =>
            cases hxx : xs.toList with
            | nil => rw [hxx] at e6; cases e6
            | cons x' xs'' =>
              have z := congrArg (fun l : List Value => l[0]?) hxx
              have z' : xs[0]? = some x' := by simpa using z
              rw [e4] at z'
              cases z'
              rw [hxx] at e6
              cases e6 with
              | cons a b => exact ⟨y, ys, v, hv, e5, _, a⟩
        obtain ⟨y0, ys0, e00⟩ : ∃ y ys, l0 = y :: ys := by
          cases l0 with
          | nil => exact absurd e0 (hall v0 hm0)
          | cons y ys => exact ⟨y, ys, rfl⟩
        subst e00
        have cm : ∀ x ∈ fs, ∃ y as, comP y0 y = true ∧ Reads h' x y as := fun x hx => by
          obtain ⟨y, ys, v, hv, e, as, r⟩ := rd x hx
          have q := com v0 hm0 v hv _ _ e0 e
          simp only [comPs, Bool.and_eq_true] at q
          exact ⟨y, as, q.1, r⟩
        cases y0 <;> first | (obtain ⟨z, zs⟩ : ∃ z, z ∈ fs := (by cases fs with | nil => simp at hl | cons z zs => exact ⟨z, List.mem_cons_self⟩); obtain ⟨y, as, q, _⟩ := cm z zs; simp [comP] at q; done) | skip
        case int i =>
          refine ⟨.type "int", by decide, fun M x hx => ?_⟩
          obtain ⟨y, as, q, r⟩ := cm x hx
          cases y <;> first | (simp [comP] at q; done) | skip
          cases r
          exact PySem.W.Looks.of_pure rfl
        case tuple l =>
          refine ⟨.type "tuple", by decide, fun M x hx => ?_⟩
          obtain ⟨y, as, q, r⟩ := cm x hx
          cases y <;> first | (simp [comP] at q; done) | skip
          obtain ⟨a, dd, items, n, sl, rfl, g, ra⟩ := reads_tup r
          exact (PySem.W.Looks.ld g).andThen .now
      obtain ⟨T, hT2, hT⟩ := kinds
      refine ⟨tuples' (T != Value.type "tuple"), fun Q E hq => ?_, lts _ _ (.inl rfl)⟩
      exact PySem.W.kat_kind (s := { s with heap := h' }) hf (by rw [hl]; simp) (hT _) hT2 hq
    · have hall' : ∃ v ∈ v0 :: rest, k v = .tuple [] := Classical.byContradiction fun z => hall fun v hv e => z ⟨v, hv, e⟩
      let f : Value → Option Value := fun v => match v with
        | .ref a => (match h'.get? a with
          | some ⟨_, _, .seq xs _, _⟩ => xs[0]?
          | _ => none)
        | _ => none
      have hf : ∀ v ∈ v0 :: rest, ∃ a o xs n, v = .ref a ∧ h'.get? a = some o ∧ o.cls = .type "tuple" ∧ o.data = .seq xs n ∧ xs[0]? = f v := fun v hv => by
        obtain ⟨a, o, xs, n, rfl, e2, e3, e4, _⟩ := first v hv
        refine ⟨a, o, xs, n, rfl, e2, e3, e4, ?_⟩
        obtain ⟨c1, c2, c3, c4⟩ := o
        have e4 : c3 = .seq xs n := e4
        subst e4
        show xs[0]? = (match h'.get? a with | some ⟨_, _, .seq xs _, _⟩ => xs[0]? | _ => none)
        rw [e2]
      have hno : ((v0 :: rest).map f).toArray.all (·.isSome) = false := by
        obtain ⟨v, hv, e⟩ := hall'
        rw [Bool.eq_false_iff]
        intro z
        rw [List.all_toArray, List.all_eq_true] at z
        have q := z (f v) (List.mem_map.mpr ⟨v, hv, rfl⟩)
        obtain ⟨a, o, xs, n, e1, e2, e3, e4, e5⟩ := hf v hv
        obtain ⟨a', o', xs', n', e1', e2', e3', e4', l, as, e5', e6'⟩ := first v hv
        rw [e] at e5'
        cases e5'
        rw [e1] at e1'
        cases e1'
        rw [e2] at e2'
        cases e2'
        rw [e4] at e4'
        cases e4'
        have hx : xs.toList = [] := by
          cases hxx : xs.toList with
          | nil => rfl
          | cons x y => rw [hxx] at e6'; cases e6'
        have z' : xs[0]? = none := by
          have := congrArg (fun l : List Value => l[0]?) hx
          simpa using this
        rw [← e5, z'] at q
        cases q
      have oneT : ∀ {M : Model} {A : Around} {Q : Option Value → Shared → Prop} {E : Value → Shared → Prop}, Q (some (.type "tuple")) { s with heap := h' } → wpAny M A (oneTypeOnly' (v0 :: rest).toArray) Q E { s with heap := h' } := fun {M A Q E} hq => by
        rw [oneTypeOnly'_eq, List.mapM_toArray, map_eq_pure_bind]
        refine wpAny_bind (wpAny_bind (PySem.W.kas_mapM (r := Value.type "tuple") _ (fun v hv Q' hq' => ?_) (wpAny_pure ?_)))
        · obtain ⟨a, o, xs, n, rfl, e2, e3, e4, _⟩ := first v hv
          have L : PySem.W.Looks M h' (typeOf (.ref a)) o.cls := (PySem.W.Looks.ld e2).andThen .now
          rw [e3] at L
          exact L.here hq'
        · have hall2 : ((List.map (fun _ => Value.type "tuple") (v0 :: rest)).toArray.all fun x => x == Value.type "tuple") = true := by
            simp only [List.all_toArray, List.all_map, List.all_eq_true]
            intro _ _
            show (Value.type "tuple" == Value.type "tuple") = true
            decide
          have h0 : (List.map (fun _ => Value.type "tuple") (v0 :: rest)).toArray[0]? = some (Value.type "tuple") := by simp
          rw [h0]
          simp only [hall2, if_true]
          exact wpAny_pure hq
      refine ⟨if ((((v0 :: rest).map f).toArray[0]?).bind id).isSome = true then general' else oneType', fun Q E hq => ?_, lts true _ ?_⟩
      · rw [kat_kind_eq, List.mapM_toArray, map_eq_pure_bind]
        refine wpAny_bind (wpAny_bind (firstsG f (s := { s with heap := h' }) (v0 :: rest) hf (wpAny_pure ?_)))
        rw [if_neg (by rw [hno]; decide)]
        by_cases hg : ((((v0 :: rest).map f).toArray[0]?).bind id).isSome = true
        · rw [if_pos hg] at hq ⊢
          exact wpAny_pure hq
        · rw [if_neg hg] at hq ⊢
          exact wpAny_bind (oneT (wpAny_pure hq))
      · split
        · exact .inr (.inr rfl)
        · exact .inr (.inl rfl)
end
end
end VS


set_option Elab.async false
set_option linter.all false
set_option maxRecDepth 100000
/-! VL4: sorted by data. -/
namespace VS
noncomputable section
open PySem PySem.Spec PyProof.Rows L2
def sortOk (l : List D) : Bool := (l.all fun d => plainP d.toP && decide (d.toP.depth ≤ 50)) && (l.all fun d => l.all fun e => comP d.toP e.toP) && room l.length
def leD (d e : D) : Bool := !ltP e.toP d.toP
def sortD (l : List D) : List D := l.mergeSort leD
/-! ### one datum for one value -/
theorem reads_inj {h : Heap} : ∀ n : Nat, (∀ (x y : PyData) (v : Value) (as bs : List Addr), sizeOf x ≤ n → plainP x = true → plainP y = true → Reads h v x as → Reads h v y bs → x = y) ∧
    ∀ (l m : List PyData) (vs : List Value) (as bs : List Addr), sizeOf l ≤ n → plainPs l = true → plainPs m = true → ReadsAll h vs l as → ReadsAll h vs m bs → l = m := by
  intro n
  induction n with
  | zero =>
    refine ⟨fun x y v as bs h => ?_, fun l m v as bs h => ?_⟩
    · cases x <;> simp at h
    · cases l <;> simp at h
  | succ n ih =>
    refine ⟨fun x y v as bs h hp hq r1 r2 => ?_, fun l m v as bs h hp hq r1 r2 => ?_⟩
    · cases x <;> first | (simp [plainP] at hp; done) | skip
      case int i =>
        cases r1
        cases y <;> first | (simp [plainP] at hq; done) | skip
        case int j => cases r2; rfl
        case tuple l => cases r2
      case tuple l =>
        have h1 := sz_tup l
        rw [plainP] at hp
        cases y <;> first | (simp [plainP] at hq; done) | skip
        case int j => cases r2; cases r1
        case tuple m =>
          rw [plainP] at hq
          cases r1 with
          | tuple g1 g2 g3 g4 =>
            cases r2 with
            | tuple f1 f2 f3 f4 =>
              rw [g1] at f1
              cases f1
              rw [g3] at f3
              cases f3
              rw [ih.2 l m _ _ _ (by omega) hp hq g4 f4]
    · cases l with
      | nil => cases r1; cases r2; rfl
      | cons x xs =>
        have h1 := sz_cons x xs
        rw [plainPs, Bool.and_eq_true] at hp
        cases r1 with
        | cons a b =>
          cases r2 with
          | cons c d =>
            rw [plainPs, Bool.and_eq_true] at hq
            rw [ih.1 x _ _ _ _ (by omega) hp.1 hq.1 a c, ih.2 xs _ _ _ _ (by omega) hp.2 hq.2 b d]
theorem cmp_eq : ∀ n : Nat, (∀ x y : PyData, sizeOf x ≤ n → plainP x = true → plainP y = true → cmpP x y = .eq → x = y) ∧ ∀ l m : List PyData, sizeOf l ≤ n → plainPs l = true → plainPs m = true → cmpPs l m = .eq → l = m := by
  intro n
  induction n with
  | zero =>
    refine ⟨fun x y h => ?_, fun l m h => ?_⟩
    · cases x <;> simp at h
    · cases l <;> simp at h
  | succ n ih =>
    refine ⟨fun x y h hp hq e => ?_, fun l m h hp hq e => ?_⟩
    · cases x <;> cases y <;> first | (simp [plainP] at hp; done) | (simp [plainP] at hq; done) | (simp [cmpP, rnk, cI] at e; done) | skip
      case int.int i j =>
        rw [cmpP_int] at e
        unfold cI at e
        split at e
        · cases e
        · split at e
          · subst_vars; rfl
          · cases e
      case tuple.tuple l m =>
        have h1 := sz_tup l
        rw [plainP] at hp hq
        rw [cmpP_tup] at e
        rw [ih.2 l m (by omega) hp hq e]
    · cases l with
      | nil =>
        cases m with
        | nil => rfl
        | cons y ys => cases e
      | cons x xs =>
        cases m with
        | nil => cases e
        | cons y ys =>
          have h1 := sz_cons x xs
          rw [plainPs, Bool.and_eq_true] at hp hq
          rw [cmpPs_cons] at e
          cases e1 : cmpP x y with
          | lt => rw [e1] at e; cases e
          | gt => rw [e1] at e; cases e
          | eq =>
            rw [e1] at e
            rw [ih.1 x y (by omega) hp.1 hq.1 e1, ih.2 xs ys (by omega) hp.2 hq.2 e]
theorem toP_inj : ∀ (d e : D), plainP d.toP = true → d.toP = e.toP → d = e := by
  intro d
  induction d using D.ind with
  | h0 => intro e h; simp [D.toP, plainP] at h
  | h1 b => intro e h; simp [D.toP, plainP] at h
  | h2 i => intro e h q; cases e <;> simp [D.toP] at q <;> subst_vars <;> rfl
  | h3 s => intro e h; simp [D.toP, plainP] at h
  | h4 l ih =>
    intro e h q
    cases e <;> simp [D.toP] at q
    rename_i m
    rw [D.toP, plainP] at h
    have : ∀ (l m : List D), (∀ d ∈ l, ∀ e, plainP d.toP = true → d.toP = e.toP → d = e) → plainPs (D.toPs l) = true → D.toPs l = D.toPs m → l = m := by
      intro l
      induction l with
      | nil => intro m _ _ q; cases m <;> simp [D.toPs] at q ⊢
      | cons x xs ihx =>
        intro m hx hp q
        cases m with
        | nil => simp [D.toPs] at q
        | cons y ys =>
          simp only [D.toPs] at q hp
          injection q with q1 q2
          rw [plainPs, Bool.and_eq_true] at hp
          rw [hx x List.mem_cons_self y hp.1 q1, ihx ys (fun d hd => hx d (List.mem_cons_of_mem _ hd)) hp.2 q2]
    rw [this l m ih h q]
  | h5 l => intro e h; simp [D.toP, plainP] at h
  | h6 l => intro e h; simp [D.toP, plainP] at h
theorem perm_lift {α β : Type} (f : α → β) : ∀ {m n : List β}, m.Perm n → ∀ l : List α, n = l.map f → ∃ l' : List α, l'.Perm l ∧ l'.map f = m := by
  intro m n h
  induction h with
  | nil => intro l e; exact ⟨[], by cases l with | nil => exact .refl _ | cons a b => simp at e, rfl⟩
  | @cons x m n _ ih =>
    intro l e
    cases l with
    | nil => simp at e
    | cons a l =>
      rw [List.map_cons] at e
      injection e with e1 e2
      obtain ⟨l', h1, h2⟩ := ih l e2
      exact ⟨a :: l', h1.cons a, by rw [List.map_cons, h2, e1]⟩
  | swap x y l' =>
    intro l e
    match l, e with
    | a :: b :: l, e =>
      simp only [List.map_cons] at e
      injection e with e1 e2
      injection e2 with e2 e3
      exact ⟨b :: a :: l, .swap _ _ _, by simp [e1, e2, e3]⟩
    | [a], e => simp at e
    | [], e => simp at e
  | trans _ _ ih1 ih2 =>
    intro l e
    obtain ⟨l', h1, h2⟩ := ih2 l e
    obtain ⟨l'', h3, h4⟩ := ih1 l' h2.symm
    exact ⟨l'', h3.trans h1, h4⟩
/-- sorted lists of the same things are one -/
theorem sorted_uniq {α : Type} {lt : α → α → Bool} (anti : ∀ x y, lt x y = false → lt y x = false → x = y) : ∀ {l m : List α}, l.Perm m → l.Pairwise (fun x y => lt y x = false) → m.Pairwise (fun x y => lt y x = false) → l = m
  | [], m, h, _, _ => by rw [List.nil_perm.mp h]
  | x :: l, [], h, _, _ => by have := h.length_eq; simp at this
  | x :: l, y :: m, h, hl, hm => by
    have e : x = y := by
      by_cases exy : x = y
      · exact exy
      · have h1 : y ∈ x :: l := h.mem_iff.mpr List.mem_cons_self
        have h2 : x ∈ y :: m := h.mem_iff.mp List.mem_cons_self
        have h1' : y ∈ l := (List.mem_cons.mp h1).resolve_left fun z => exy z.symm
        have h2' : x ∈ m := (List.mem_cons.mp h2).resolve_left exy
        exact anti x y ((List.pairwise_cons.mp hm).1 x h2') ((List.pairwise_cons.mp hl).1 y h1')
    subst e
    rw [sorted_uniq anti h.cons_inv (List.pairwise_cons.mp hl).2 (List.pairwise_cons.mp hm).2]
/-- a datum, what it is in the heap, its value -/
theorem trip {K : PySem.W.Frag} {H : Hp} {A : List Addr} : ∀ {ds : List D} {vs : List V} {us : List Value}, Reps K H A ds vs → Vals vs us → ∃ T : List (D × V × Value), T.map (·.1) = ds ∧ T.map (·.2.1) = vs ∧ T.map (·.2.2) = us ∧ ∀ t ∈ T, Rep K H A t.1 t.2.1 ∧ RelV t.2.1 t.2.2
  | [], _, _, h, r => by
    rw [Reps] at h
    subst h
    cases r
    exact ⟨[], rfl, rfl, rfl, fun t ht => absurd ht List.not_mem_nil⟩
  | d :: ds, _, _, h, r => by
    rw [Reps] at h
    obtain ⟨v, vs, rfl, h1, h2⟩ := h
    cases r with
    | cons a b =>
      obtain ⟨T, e1, e2, e3, h3⟩ := trip h2 b
      refine ⟨(d, v, _) :: T, by rw [List.map_cons, e1], by rw [List.map_cons, e2], by rw [List.map_cons, e3], fun t ht => ?_⟩
      rcases List.mem_cons.mp ht with rfl | ht
      · exact ⟨h1, a⟩
      · exact h3 t ht
theorem trip_reps {K : PySem.W.Frag} {H : Hp} {A : List Addr} : ∀ {T : List (D × V × Value)}, (∀ t ∈ T, Rep K H A t.1 t.2.1 ∧ RelV t.2.1 t.2.2) → Reps K H A (T.map (·.1)) (T.map (·.2.1)) ∧ Vals (T.map (·.2.1)) (T.map (·.2.2))
  | [], _ => ⟨by rw [List.map_nil, List.map_nil, Reps], .nil⟩
  | t :: T, h => by
    obtain ⟨h1, h2⟩ := trip_reps fun u hu => h u (List.mem_cons_of_mem _ hu)
    obtain ⟨h3, h4⟩ := h t List.mem_cons_self
    rw [List.map_cons, List.map_cons, List.map_cons, Reps]
    exact ⟨⟨_, _, rfl, h3, h1⟩, .cons h4 h2⟩
theorem sortOk_iff {ds : List D} (h : sortOk ds = true) : (∀ d ∈ ds, plainP d.toP = true ∧ d.toP.depth ≤ 50) ∧ (∀ d ∈ ds, ∀ e ∈ ds, comP d.toP e.toP = true) ∧ room ds.length = true := by
  unfold sortOk at h
  rw [Bool.and_eq_true, Bool.and_eq_true] at h
  obtain ⟨⟨h1, h2⟩, h3⟩ := h
  refine ⟨fun d hd => ?_, fun d hd e he => ?_, h3⟩
  · have := List.all_eq_true.mp h1 d hd
    rw [Bool.and_eq_true] at this
    exact ⟨this.1, of_decide_eq_true this.2⟩
  · have := List.all_eq_true.mp h2 d hd
    exact List.all_eq_true.mp this e he
theorem leD_trans (a b c : D) (h1 : leD a b = true) (h2 : leD b c = true) : leD a c = true := by
  unfold leD at *
  rw [Bool.not_eq_true'] at *
  exact ltP_swo.tr _ _ _ h1 h2
theorem leD_total (a b : D) : (leD a b || leD b a) = true := by
  unfold leD
  cases h : ltP b.toP a.toP with
  | false => rfl
  | true => rw [ltP_swo.asym _ _ h]; rfl
theorem sortD_perm (ds : List D) : (sortD ds).Perm ds := List.mergeSort_perm ds leD
theorem sortD_sorted (ds : List D) : (sortD ds).Pairwise fun d e => leD d e = true := List.pairwise_mergeSort leD_trans leD_total ds
theorem leD_anti {d e : D} (hd : plainP d.toP = true) (he : plainP e.toP = true) (h1 : leD d e = true) (h2 : leD e d = true) : d = e := by
  unfold leD ltP at h1 h2
  rw [Bool.not_eq_true'] at h1 h2
  refine toP_inj d e hd ((cmp_eq _).1 _ _ (Nat.le_refl _) hd he ?_)
  rw [cmpP_swap d.toP e.toP] at h1
  cases q : cmpP d.toP e.toP with
  | lt => rw [q] at h2; exact absurd h2 (by decide)
  | eq => rfl
  | gt => rw [q] at h1; exact absurd h1 (by decide)
section
variable {X : Cx} {T : List TK} {pins : List (Addr × Obj)} {σ : L2.St} {H : Hp} {s : Shared} {A : List Addr}
/-- what sorted asks of the collected things, by data -/
theorem sort_post {ds : List D} {vs : List V} {us : List Value} {Q : L2.VK} {B : Around} (I : Inv X pins σ H s) (rv : Vals vs us) (hr : Reps X.K H A ds vs) (ok : sortOk ds = true) (lA : Lists H A) (tA : Tabs T H) (hu : B.units + 60 < cLine) (post : ∀ v H' F, New X.K H A (.own ((sortD ds).map O.fz)) v H' F → Q v H') :
    us.length ≤ sizeLine ∧ ∃ ltv, SrtO.Swo ltv ∧ (2 ≤ us.length → ∀ (h₁ : Heap) (a : Addr), h₁.get? a = some (seqObj "list" us.toArray 0) → (∀ b o, s.heap.get? b = some o → b ≠ a ∧ h₁.get? b = some o) → SrtO.SortableO X.prog X.w B { s with heap := h₁ } a us ltv) ∧
      ∀ (out : List Value) (h' : Heap), SrtO.Srtd ltv out → SrtO.Stb ltv out us → (∀ b o, s.heap.get? b = some o → h'.get? b = some o) → (∃ n, h'.get? s.heap.objs.size = some (seqObj "list" out.toArray n)) → EP X pins σ Q (.ref s.heap.objs.size) { s with heap := h' } := by
  classical
  obtain ⟨ok1, ok2, ok3⟩ := sortOk_iff ok
  obtain ⟨Tr, e1, e2, e3, ht⟩ := trip hr rv
  have hrd : ∀ t ∈ Tr, ∃ as, Reads s.heap t.2.2 t.1.toP as := fun t h => Dp.reads I _ _ _ (ht t h).1.dp (ht t h).2
  have hmem : ∀ t ∈ Tr, t.1 ∈ ds := fun t h => by rw [← e1]; exact List.mem_map.mpr ⟨t, h, rfl⟩
  -- the key of a value
  let k : Value → PyData := fun u => if h : ∃ x, plainP x = true ∧ ∃ as, Reads s.heap u x as then h.choose else .none
  have hk : ∀ t ∈ Tr, k t.2.2 = t.1.toP := fun t h => by
    obtain ⟨as, r⟩ := hrd t h
    have hex : ∃ x, plainP x = true ∧ ∃ as, Reads s.heap t.2.2 x as := ⟨_, (ok1 _ (hmem t h)).1, as, r⟩
    show (if h : ∃ x, plainP x = true ∧ ∃ as, Reads s.heap t.2.2 x as then h.choose else .none) = _
    rw [dif_pos hex]
    obtain ⟨p1, as', r'⟩ := hex.choose_spec
    exact (reads_inj _).1 _ _ _ _ _ (Nat.le_refl _) p1 (ok1 _ (hmem t h)).1 r' r
  have hus : ∀ u ∈ us, ∃ t ∈ Tr, t.2.2 = u := fun u hu => by
    rw [← e3] at hu
    obtain ⟨t, h, e⟩ := List.mem_map.mp hu
    exact ⟨t, h, e⟩
  have hlen : us.length ≤ sizeLine := by
    rw [← rv.length, hr.length]; exact room_line ok3
  refine ⟨hlen, fun v u => VS.ltP (k v) (k u), ⟨fun x y h => ltP_swo.asym _ _ h, fun x y z h1 h2 => ltP_swo.tr _ _ _ h1 h2⟩, fun h2 h₁ a ha kk => ?_, fun out h' hs hb kp hn => ?_⟩
  · refine data_sortable (s := { s with heap := h₁ }) h2 (fun v hv => ?_) (fun v hv => ?_) (fun v hv u hu' => ?_) (fun v hv => ?_) hu fun o e => ?_
    · obtain ⟨t, h, rfl⟩ := hus v hv
      obtain ⟨as, r⟩ := hrd t h
      rw [hk t h]
      exact ⟨as, keeps1 (fun b o e _ => (kk b o e).2) (ok1 _ (hmem t h)).1 r⟩
    · obtain ⟨t, h, rfl⟩ := hus v hv
      rw [hk t h]; exact (ok1 _ (hmem t h)).1
    · obtain ⟨t, h, rfl⟩ := hus v hv
      obtain ⟨t', h', rfl⟩ := hus u hu'
      rw [hk t h, hk t' h']; exact ok2 _ (hmem t h) _ (hmem t' h')
    · obtain ⟨t, h, rfl⟩ := hus v hv
      rw [hk t h]; exact (ok1 _ (hmem t h)).2
    · have e : h₁.get? a = some o := e
      rw [ha] at e
      cases e
      intro c
      exact absurd (Value.type.inj c) (by decide)
  · obtain ⟨Tr', p1, p2⟩ := perm_lift (fun t : D × V × Value => t.2.2) hb.perm Tr e3.symm
    have ht' : ∀ t ∈ Tr', Rep X.K H A t.1 t.2.1 ∧ RelV t.2.1 t.2.2 := fun t h => ht t (p1.mem_iff.mp h)
    obtain ⟨r1, r2⟩ := trip_reps ht'
    have hd : Tr'.map (·.1) = sortD ds := by
      have a1 : (Tr'.map (·.1)).Perm ds := by rw [← e1]; exact p1.map _
      have key : ∀ d ∈ ds, plainP d.toP = true := fun d h => (ok1 d h).1
      have a2 : (Tr'.map (·.1)).Pairwise fun d e => leD d e = true := by
        rw [← p2] at hs
        unfold SrtO.Srtd at hs
        rw [List.pairwise_map] at hs ⊢
        refine List.Pairwise.imp_of_mem (fun {x y} hx hy h => ?_) hs
        have hx' := p1.mem_iff.mp hx
        have hy' := p1.mem_iff.mp hy
        have h : VS.ltP (k y.2.2) (k x.2.2) = false := h
        unfold leD
        rw [hk x hx', hk y hy'] at h
        rw [h]; rfl
      -- both sorted, the same things
      have anti : ∀ {l m : List D}, (∀ d ∈ l, plainP d.toP = true) → l.Perm m → l.Pairwise (fun d e => leD d e = true) → m.Pairwise (fun d e => leD d e = true) → l = m := by
        intro l
        induction l with
        | nil => intro m _ h _ _; rw [List.nil_perm.mp h]
        | cons x l ih =>
          intro m hp h hl hm
          cases m with
          | nil => have := h.length_eq; simp at this
          | cons y m =>
            have e : x = y := by
              by_cases exy : x = y
              · exact exy
              · have h1 : y ∈ x :: l := h.mem_iff.mpr List.mem_cons_self
                have h2 : x ∈ y :: m := h.mem_iff.mp List.mem_cons_self
                have h1' : y ∈ l := (List.mem_cons.mp h1).resolve_left fun z => exy z.symm
                have h2' : x ∈ m := (List.mem_cons.mp h2).resolve_left exy
                exact leD_anti (hp x List.mem_cons_self) (hp y h1) ((List.pairwise_cons.mp hl).1 y h1') ((List.pairwise_cons.mp hm).1 x h2')
            subst e
            rw [ih (fun d hd => hp d (List.mem_cons_of_mem _ hd)) h.cons_inv (List.pairwise_cons.mp hl).2 (List.pairwise_cons.mp hm).2]
      exact anti (fun d h => key d (a1.mem_iff.mp h)) (a1.trans (sortD_perm ds).symm) a2 (sortD_sorted ds)
    rw [hd] at r1
    rw [p2] at r2
    obtain ⟨n, hn⟩ := hn
    have nw := New.lst r1 lA tA (I.hok.fresh (Nat.le_refl _))
    refine ⟨.ref s.heap.objs.size, upd H s.heap.objs.size (.lst (Tr'.map (·.2.1))), I.laid (t' := s.toks) kp (Nat.le_refl _) ⟨?_, out, n, r2, hn⟩, rfl, post _ _ _ nw⟩
    rw [r2.length, hb.perm.length_eq]
    exact hlen
end
end
end VS


set_option Elab.async false
set_option linter.all false
set_option maxRecDepth 100000
/-! VX0: a generator expression's loops by data. -/
namespace VS
noncomputable section
open PySem PySem.Spec PyProof.Rows L2
abbrev IF := Env' → Option (List D × Env')
/-- the last clause's loop; stop: whether the taker is done -/
@[simp] def gRun (own : List Nat) (stop : D → Option Bool) (b : BF) (c : TF) (f : VF) : List D → Env' → Option (Bool × List D × Env')
  | [], ε => some (false, [], ε)
  | d :: ds, ε => match b d ε with
    | none => none
    | some ε1 => match c ε1 with
      | some (true, ε2) => match f ε2 with
        | some (.o o, ε3) => match stop o.val with
          | some true => some (true, [o.val], wipeE ε3 own)
          | some false => match gRun own stop b c f ds (wipeE ε3 own) with
            | some (z, os, ε4) => some (z, o.val :: os, ε4)
            | none => none
          | none => none
        | _ => none
      | some (false, ε2) => gRun own stop b c f ds (wipeE ε2 own)
      | none => none
/-- two clauses -/
@[simp] def gRun2 (own own1 : List Nat) (stop : D → Option Bool) (b : BF) (c : TF) (it1 : IF) (b1 : BF) (c1 : TF) (f : VF) : List D → Env' → Option (Bool × List D × Env')
  | [], ε => some (false, [], ε)
  | d :: ds, ε => match b d ε with
    | none => none
    | some ε1 => match c ε1 with
      | some (true, ε2) => match it1 ε2 with
        | some (ds1, ε3) => match gRun own1 stop b1 c1 f ds1 (wipeE ε3 own1) with
          | some (true, os, ε4) => some (true, os, wipeE ε4 own)
          | some (false, os, ε4) => match gRun2 own own1 stop b c it1 b1 c1 f ds (wipeE ε4 own) with
            | some (z, os', ε5) => some (z, os ++ os', ε5)
            | none => none
          | none => none
        | none => none
      | some (false, ε2) => gRun2 own own1 stop b c it1 b1 c1 f ds (wipeE ε2 own)
      | none => none
section
variable {K : PySem.W.Frag} {T : List TK} {P : List Nat} {H H' H'' : Hp} {M M' M'' R R' F F' A A' : List Addr} {ε ε' : Env'} {σ σ' σ'' : L2.St} {X : Cx}
theorem wipeE_out {i : Nat} : ∀ {vs : List Nat} {ε : Env'}, i ∉ vs → (wipeE ε vs)[i]? = ε[i]?
  | [], _, _ => rfl
  | v :: vs, ε, h => by
    rw [wipeE, List.getElem?_set_ne (fun e => h (by rw [e]; exact List.mem_cons_self)), wipeE_out fun z => h (List.mem_cons_of_mem _ z)]
theorem wipeE_in {i : Nat} {o : O} : ∀ {vs : List Nat} {ε : Env'}, i ∈ vs → (wipeE ε vs)[i]? ≠ some (some o)
  | [], _, h => by cases h
  | v :: vs, ε, h => by
    rw [wipeE]
    by_cases e : v = i
    · subst e
      intro z
      rw [List.getElem?_set] at z
      simp at z
    · rw [List.getElem?_set_ne e]
      exact wipeE_in ((List.mem_cons.mp h).resolve_left fun z => e z.symm)
/-- what the slots hold that are forgotten does not matter -/
theorem Ok.slots {own : List Nat} (k : Ok K T H M R (wipeE ε own) σ) (hw : L2.wipe σ' own = L2.wipe σ own) : Ok K T H M R (wipeE ε own) σ' := by
  have hl : σ'.length = σ.length := by
    have := congrArg List.length hw
    rw [wipe_length, wipe_length] at this
    exact this
  refine ⟨k.rep.swap hl fun i o e => ?_, k.nd, k.ls, k.tab⟩
  have hi : i ∉ own := fun z => wipeE_in z e
  have := congrArg (·[i]?) hw
  simp only [wipe_out hi] at this
  exact this
theorem Ok.wiped (k : Ok K T H M R ε σ) (own : List Nat) : ∃ M', (∀ a ∈ M', a ∈ M) ∧ Ok K T H M' R (wipeE ε own) σ :=
  let ⟨M', s, k'⟩ := k.wipe own; ⟨M', s, Ok.unwipe own k'⟩
/-- what the taker does with data -/
structure TkD (K : PySem.W.Frag) (Yl : YlT) (stop : D → Option Bool) (S : Hp → Prop) : Prop where
  go : ∀ ys y H p d A, Rep K H A d y → stop d = some false → p → Yl ys y H p
  st : ∀ ys y H p d A, Rep K H A d y → stop d = some true → S H → Yl ys y H p
/-- a state in the loop -/
structure LpS (K : PySem.W.Frag) (T : List TK) (H1 : Hp) (M1 R : List Addr) (own : List Nat) (σ : L2.St) (H : Hp) (M : List Addr) (ε : Env') (σ' : L2.St) (acc : List D) (ys : List V) : Prop where
  ok : Ok K T H M R ε σ'
  hw : L2.wipe σ' own = L2.wipe σ own
  stp : Stp T H1 M1 H M
  acc : Reps K H (M ++ R) acc ys
theorem LpS.len {H1 : Hp} {M1 : List Addr} {own : List Nat} {acc : List D} {ys : List V} (k : LpS K T H1 M1 R own σ H M ε σ' acc ys) : σ'.length = σ.length := by
  have := congrArg List.length k.hw
  rw [wipe_length, wipe_length] at this
  exact this
theorem LpS.wiped {H1 : Hp} {M1 : List Addr} {own : List Nat} {acc : List D} {ys : List V} (k : LpS K T H1 M1 R own σ H M ε σ' acc ys) (vs : List Nat) : ∃ M', LpS K T H1 M1 R own σ H M' (wipeE ε vs) σ' acc ys :=
  let ⟨M', s, k'⟩ := k.ok.wiped vs
  ⟨M', k', k.hw, k.stp.less s, k.acc.anti (fun a h => (List.mem_append.mp h).elim (fun z => List.mem_append_left _ (s a z)) fun z => List.mem_append_right _ z) _ _⟩
theorem LpS.step {H1 : Hp} {M1 : List Addr} {own : List Nat} {acc : List D} {ys : List V} {σ2 : L2.St} (k : LpS K T H1 M1 R own σ H M ε σ' acc ys) (hk : Ok K T H' M' R ε' σ2) (hs : Stp T H M H' M') (hw : L2.wipe σ2 own = L2.wipe σ own) : LpS K T H1 M1 R own σ H' M' ε' σ2 acc ys :=
  ⟨hk, hw, k.stp.trans hs, k.acc.later hs k.ok.tab k.ok.ls1⟩
theorem gxIn_of {b : BF} {c : TF} {f : VF} {own own1 : List Nat} {n : Nat} {P' : List Nat} {stop : D → Option Bool} {Yl : YlT} {S : Hp → Prop} (hP : ∀ i, i < n → i ∉ own → i ∈ P') {H1 : Hp} {M1 : List Addr} {J : It} {ds : List D} {z : Bool} {os : List D} {ε2 : Env'} {cont : List V → L2.St → Hp → Prop} {Hj : Hp} {Mj : List Addr}
    (tk : TkD K Yl stop S) (hσ : σ.length = n) (hJ : ItOk K T J ds Hj Mj R) (hroom : os.length ≤ sizeLine)
    (hstop : z = true → ∀ M3 H3 σ3, Ok K T H3 M3 R ε2 σ3 → L2.wipe σ3 own = L2.wipe σ own → Stp T H1 M1 H3 M3 → S H3)
    (hend : z = false → ∀ M3 ys H3 σ3, LpS K T H1 M1 R own σ H3 M3 ε2 σ3 os ys → cont ys σ3 H3) :
    ∀ (m i : Nat) (σ3 : L2.St) (H3 : Hp) (M3 : List Addr) (ε3 : Env') (acc rest : List D) (ys : List V), m = ds.length - i → i ≤ ds.length → LpS K T H1 M1 R own σ H3 M3 (wipeE ε3 own1) σ3 acc ys → Stp T Hj Mj H3 M3 →
      gRun own1 stop b c f (ds.drop i) (wipeE ε3 own1) = some (z, rest, ε2) → os = acc ++ rest →
      gxIn Yl J (gB K T P' b) (tT K T c) (tV K T f) cont m i ys σ3 H3 := by
  intro m
  induction m with
  | zero =>
    intro i σ3 H3 M3 ε3 acc rest ys hm hi k3 sj hr hos
    have hj := hJ H3 M3 i (sj.more _) k3.ok.tab k3.ok.ls
    have hle : ds.length ≤ i := by omega
    rw [List.drop_of_length_le hle] at hr
    cases hr
    rw [List.append_nil] at hos
    subst hos
    exact ⟨hj.2 hle, hend rfl M3 ys H3 σ3 k3⟩
  | succ m ih =>
    intro i σ3 H3 M3 ε3 acc rest ys hm hi k3 sj hr hos
    have hlt : i < ds.length := by omega
    have hj := hJ H3 M3 i (sj.more _) k3.ok.tab k3.ok.ls
    have hdi : ds[i]? = some ds[i] := List.getElem?_eq_getElem hlt
    obtain ⟨go, yl⟩ := hj.1 _ hdi
    refine ⟨go, fun x H4 hy => ?_⟩
    obtain ⟨sm4, rx⟩ := yl x H4 hy
    rw [List.drop_eq_getElem_cons hlt, gRun] at hr
    have k4 : LpS K T H1 M1 R own σ H4 M3 (wipeE ε3 own1) σ3 acc ys := k3.step (k3.ok.same sm4) (Stp.ofSame sm4) k3.hw
    have sj4 : Stp T Hj Mj H4 M3 := sj.trans (Stp.ofSame sm4)
    split at hr
    · cases hr
    · rename_i ε5 hb5
      refine ⟨M3, R, wipeE ε3 own1, ds[i], ε5, k4.ok, rx, hb5, fun σ5 H5 M5 e5 => ?_⟩
      have hw5 : L2.wipe σ5 own = L2.wipe σ own := (wipe_eq e5.pr.1 fun j hj1 hj2 => by rw [wipe_out hj2]; exact e5.pr.2 j (hP j (by rw [k4.len] at hj1; omega) hj2)).trans k4.hw
      have k5 := k4.step e5.ok e5.stp hw5
      have sj5 := sj4.trans e5.stp
      split at hr
      · rename_i ε6 h6
        split at hr
        · rename_i o ε7 h7
          refine ⟨M5, R, ε5, true, ε6, k5.ok, h6, fun H6 M6 ok6 st6 => ?_⟩
          have k6 := k5.step ok6 st6 hw5
          have sj6 := sj5.trans st6
          show tV K T f σ5 H6 _
          refine ⟨M6, R, ε6, .o o, ε7, ok6, h7, fun y H7 M7 F7 p7 => ?_⟩
          have p7 : Post K T H6 M6 R ε7 σ5 o y H7 M7 F7 := p7
          have k7 := k6.step p7.ok' p7.stp' hw5
          have sj7 := sj6.trans p7.stp'
          have ry : Rep K H7 (M7 ++ R) o.val y := p7.data
          split at hr
          · rename_i hst
            cases hr
            refine ⟨?_, tk.st _ _ _ _ _ _ ry hst ?_⟩
            · rw [k7.acc.length]
              rw [hos, List.length_append] at hroom
              have : [o.val].length = 1 := rfl
              omega
            · obtain ⟨M8, k8⟩ := k7.wiped own1
              exact hstop rfl M8 H7 σ5 k8.ok k8.hw k8.stp
          · rename_i hst
            split at hr
            · rename_i z' os' ε8 h8
              cases hr
              refine ⟨?_, tk.go _ _ _ _ _ _ ry hst ?_⟩
              · rw [k7.acc.length]
                rw [hos, List.length_append, List.length_cons] at hroom
                omega
              · obtain ⟨M8, s8, ok8⟩ := k7.ok.wiped own1
                have k8 : LpS K T H1 M1 R own σ H7 M8 (wipeE ε7 own1) σ5 (acc ++ [o.val]) (ys ++ [y]) := ⟨ok8, hw5, k7.stp.less s8, (k7.acc.append (by rw [Reps]; exact ⟨y, [], rfl, ry, by rw [Reps]⟩)).anti (fun a h => (List.mem_append.mp h).elim (fun z => List.mem_append_left _ (s8 a z)) fun z => List.mem_append_right _ z) _ _⟩
                exact ih (i + 1) σ5 H7 M8 ε7 (acc ++ [o.val]) os' (ys ++ [y]) (by omega) hlt k8 (sj7.less s8) h8 (by rw [hos, List.append_assoc]; rfl)
            · cases hr
          · cases hr
        · cases hr
      · rename_i ε6 h6
        refine ⟨M5, R, ε5, false, ε6, k5.ok, h6, fun H6 M6 ok6 st6 => ?_⟩
        have k6 := k5.step ok6 st6 hw5
        obtain ⟨M8, s8, ok8⟩ := k6.ok.wiped own1
        have k8 : LpS K T H1 M1 R own σ H6 M8 (wipeE ε6 own1) σ5 acc ys := ⟨ok8, hw5, k6.stp.less s8, k6.acc.anti (fun a h => (List.mem_append.mp h).elim (fun z => List.mem_append_left _ (s8 a z)) fun z => List.mem_append_right _ z) _ _⟩
        exact ih (i + 1) σ5 H6 M8 ε6 acc rest ys (by omega) hlt k8 ((sj5.trans st6).less s8) hr hos
      · cases hr
end
end
end VS


set_option Elab.async false
set_option linter.all false
set_option maxRecDepth 100000
/-! VX1: two clauses by data; the table grown. -/
namespace VS
noncomputable section
open PySem PySem.Spec PyProof.Rows L2
section
variable {K : PySem.W.Frag} {T : List TK} {P : List Nat} {H H' H'' : Hp} {M M' M'' R R' F F' A A' : List Addr} {ε ε' : Env'} {σ σ' σ'' : L2.St} {X : Cx}
theorem gxOut_of {b b1 : BF} {c c1 : TF} {f : VF} {it1 : IF} {own own1 : List Nat} {n : Nat} {P' : List Nat} {stop : D → Option Bool} {Yl : YlT} {S : Hp → Prop} (hP : ∀ i, i < n → i ∉ own → i ∈ P') {H1 : Hp} {M1 : List Addr} {J : It} {ds : List D} {z : Bool} {os : List D} {ε2 : Env'} {cont : List V → L2.St → Hp → Prop}
    (tk : TkD K Yl stop S) (hσ : σ.length = n) (hJ : ItOk K T J ds H1 M1 R) (hroom : os.length ≤ sizeLine)
    (hstop : z = true → ∀ M3 H3 σ3, Ok K T H3 M3 R ε2 σ3 → L2.wipe σ3 own = L2.wipe σ own → Stp T H1 M1 H3 M3 → S H3)
    (hend : z = false → ∀ M3 ys H3 σ3, LpS K T H1 M1 R own σ H3 M3 ε2 σ3 os ys → cont ys σ3 H3) :
    ∀ (m i : Nat) (σ3 : L2.St) (H3 : Hp) (M3 : List Addr) (ε3 : Env') (acc rest : List D) (ys : List V), m = ds.length - i → i ≤ ds.length → LpS K T H1 M1 R own σ H3 M3 (wipeE ε3 own) σ3 acc ys →
      gRun2 own own1 stop b c it1 b1 c1 f (ds.drop i) (wipeE ε3 own) = some (z, rest, ε2) → os = acc ++ rest →
      gxOut Yl J (gB K T P' b) (tT K T c) (wI K T it1) (gB K T P' b1) (tT K T c1) (tV K T f) cont m i ys σ3 H3 := by
  intro m
  induction m with
  | zero =>
    intro i σ3 H3 M3 ε3 acc rest ys hm hi k3 hr hos
    have hj := hJ H3 M3 i (k3.stp.more _) k3.ok.tab k3.ok.ls
    have hle : ds.length ≤ i := by omega
    rw [List.drop_of_length_le hle] at hr
    cases hr
    rw [List.append_nil] at hos
    subst hos
    exact ⟨hj.2 hle, hend rfl M3 ys H3 σ3 k3⟩
  | succ m ih =>
    intro i σ3 H3 M3 ε3 acc rest ys hm hi k3 hr hos
    have hlt : i < ds.length := by omega
    have hj := hJ H3 M3 i (k3.stp.more _) k3.ok.tab k3.ok.ls
    have hdi : ds[i]? = some ds[i] := List.getElem?_eq_getElem hlt
    obtain ⟨go, yl⟩ := hj.1 _ hdi
    refine ⟨go, fun x H4 hy => ?_⟩
    obtain ⟨sm4, rx⟩ := yl x H4 hy
    rw [List.drop_eq_getElem_cons hlt, gRun2] at hr
    have k4 : LpS K T H1 M1 R own σ H4 M3 (wipeE ε3 own) σ3 acc ys := k3.step (k3.ok.same sm4) (Stp.ofSame sm4) k3.hw
    split at hr
    · cases hr
    · rename_i ε5 hb5
      refine ⟨M3, R, wipeE ε3 own, ds[i], ε5, k4.ok, rx, hb5, fun σ5 H5 M5 e5 => ?_⟩
      have hw5 : L2.wipe σ5 own = L2.wipe σ own := (wipe_eq e5.pr.1 fun j hj1 hj2 => by rw [wipe_out hj2]; exact e5.pr.2 j (hP j (by rw [k4.len] at hj1; omega) hj2)).trans k4.hw
      have k5 := k4.step e5.ok e5.stp hw5
      split at hr
      · rename_i ε6 h6
        refine ⟨M5, R, ε5, true, ε6, k5.ok, h6, fun H6 M6 ok6 st6 => ?_⟩
        have k6 := k5.step ok6 st6 hw5
        show wI K T it1 σ5 H6 _
        split at hr
        · rename_i ds1 ε7 h7
          refine ⟨M6, R, ε6, ds1, ε7, ok6, h7, fun H7 M7 J1 ok7 st7 hJ1 => ⟨ds1.length, ?_⟩⟩
          have k7 := k6.step ok7 st7 hw5
          obtain ⟨M8, s8, ok8⟩ := k7.ok.wiped own1
          have k8 : LpS K T H1 M1 R own σ H7 M8 (wipeE ε7 own1) σ5 acc ys := ⟨ok8, hw5, k7.stp.less s8, k7.acc.anti (fun a h => (List.mem_append.mp h).elim (fun z => List.mem_append_left _ (s8 a z)) fun z => List.mem_append_right _ z) _ _⟩
          have sj8 : Stp T H7 M7 H7 M8 := Stp.refl.less s8
          split at hr
          · rename_i os1 ε8 h8
            cases hr
            refine gxIn_of (os := acc ++ rest) (z := true) (own := own) hP tk hσ hJ1 (by rw [← hos]; exact hroom) (fun _ M9 H9 σ9 k9 w9 s9 => ?_) (fun e => by cases e) ds1.length 0 σ5 H7 M8 ε7 acc rest ys (by omega) (Nat.zero_le _) k8 sj8 h8 rfl
            obtain ⟨M10, s10, ok10⟩ := k9.wiped own
            exact hstop rfl M10 H9 σ9 ok10 w9 (s9.less s10)
          · rename_i os1 ε8 h8
            split at hr
            · rename_i z' os2 ε9 h9
              cases hr
              refine gxIn_of (os := acc ++ os1) (z := false) (own := own) hP tk hσ hJ1 ?_ (fun e => by cases e) (fun _ M9 ys9 H9 σ9 k9 => ?_) ds1.length 0 σ5 H7 M8 ε7 acc os1 ys (by omega) (Nat.zero_le _) k8 sj8 h8 rfl
              · rw [hos, List.length_append, List.length_append] at hroom
                rw [List.length_append]
                omega
              · obtain ⟨M10, k10⟩ := k9.wiped own
                exact ih (i + 1) σ9 H9 M10 ε8 (acc ++ os1) os2 ys9 (by omega) hlt k10 h9 (by rw [hos, List.append_assoc])
            · cases hr
          · cases hr
        · cases hr
      · rename_i ε6 h6
        refine ⟨M5, R, ε5, false, ε6, k5.ok, h6, fun H6 M6 ok6 st6 => ?_⟩
        have k6 := k5.step ok6 st6 hw5
        obtain ⟨M8, k8⟩ := k6.wiped own
        exact ih (i + 1) σ5 H6 M8 ε6 acc rest ys (by omega) hlt k8 hr hos
      · cases hr
theorem wipe_wipe {own : List Nat} : L2.wipe (L2.wipe σ own) own = L2.wipe σ own :=
  wipe_eq (wipe_length σ own) fun i _ hi => rfl
/-- the code table has grown -/
theorem Ok.grown {t : TK} {Q : Addr} (k : Ok K T H M R ε σ) (h : GrownT T Q H H' t) : Ok K (t :: T) H' M R ε σ ∧ Stp T H M H' M := by
  obtain ⟨hd, hk, ⟨ps, more, g1, g2⟩, tb⟩ := h
  have keep : ∀ b o, H b = some o → NT o → H' b = some o := fun b o e hn => by
    by_cases z : b = Q
    · rw [z, g1] at e
      cases e
      exact absurd rfl (hn _)
    · exact hk b o z e
  have nP : ∀ a vs, H a = some (.lst vs) → H' a = some (.lst vs) := fun a vs e => keep a _ e (fun ps z => by cases z)
  have kp : Keep T H M H' := fun b o e _ hn => keep b o e hn
  refine ⟨⟨k.rep.mono (T := T) (M := []) (fun b o e _ hb => keep b o e hb) k.tab .nil (fun a h => by cases h) (fun a h => .inl h) (fun a _ z => by cases z), k.nd, fun a ha => ?_, tb⟩, ⟨kp, fun b o e => ?_, fun a ha => .inl ha, fun P ps' e => ?_⟩⟩
  · obtain ⟨vs, e⟩ := k.ls a ha
    exact ⟨vs, nP a vs e⟩
  · by_cases z : b = Q
    · exact ⟨_, by rw [z]; exact g2⟩
    · exact ⟨o, hk b o z e⟩
  · by_cases z : P = Q
    · rw [z, g1] at e
      cases e
      exact ⟨more, by rw [z]; exact g2⟩
    · exact ⟨#[], by rw [hk P _ z e]; simp⟩
theorem Ok.tail {t : TK} (k : Ok K (t :: T) H M R ε σ) : Ok K T H M R ε σ := ⟨k.rep, k.nd, k.ls, k.tab.tail⟩
theorem Stp.tail {T' : List TK} (s : Stp T' H M H' M') : Stp T H M H' M' := ⟨s.keep, s.live, s.sub, s.grow⟩
end
end
end VS


set_option Elab.async false
set_option linter.all false
set_option maxRecDepth 100000
/-! VX2: f(x for ..) by data. -/
namespace VS
noncomputable section
open PySem PySem.Spec PyProof.Rows L2
/-- a taker by data: when it stops (with sv), what it gives at the end -/
structure Tkr (X : Cx) (T : List TK) (k : Nat) (f : Value) (stop : D → Option Bool) (sv : Bool) (fin : List D → Option O) (Yl : L2.VK → YlT) (cont : L2.VK → List V → Hp → Prop) : Prop where
  call : CallG X f k Yl cont
  tkd : ∀ Q, TkD X.K (Yl Q) stop fun H => Q (.bl sv) H
  fin : ∀ Q H A ds ys o, Lists H A → Tabs T H → Reps X.K H A ds ys → fin ds = some o → (∀ v H' F, New X.K H A o v H' F → Q v H') → cont Q ys H
/-- what the taker gives -/
@[simp] def tkEnd (sv : Bool) (fin : List D → Option O) (z : Bool) (os : List D) : Option O := match z with
  | true => some (.fz (.bl sv))
  | false => fin os
@[simp] def vGx (n : Nat) (own : List Nat) (stop : D → Option Bool) (sv : Bool) (fin : List D → Option O) (it : IF) (b : BF) (c : TF) (f : VF) : VF := fun ε => match it ε with
  | some (ds, ε1) => if clearable own ε1 && decide (ε1.length = n) then
      match gRun own stop b c f ds (wipeE ε1 own) with
      | some (z, os, ε2) => if room os.length then match tkEnd sv fin z os with
          | some o => some (.o o, restore own ε1 ε2)
          | none => none
        else none
      | none => none
    else none
  | none => none
@[simp] def vGx2 (n : Nat) (own own1 : List Nat) (stop : D → Option Bool) (sv : Bool) (fin : List D → Option O) (it : IF) (b : BF) (c : TF) (it1 : IF) (b1 : BF) (c1 : TF) (f : VF) : VF := fun ε => match it ε with
  | some (ds, ε1) => if clearable own ε1 && decide (ε1.length = n) then
      match gRun2 own own1 stop b c it1 b1 c1 f ds (wipeE ε1 own) with
      | some (z, os, ε2) => if room os.length then match tkEnd sv fin z os with
          | some o => some (.o o, restore own ε1 ε2)
          | none => none
        else none
      | none => none
    else none
  | none => none
theorem gRun_wiped {own : List Nat} {stop : D → Option Bool} {b : BF} {c : TF} {f : VF} : ∀ {ds : List D} {ε ε2 : Env'} {z : Bool} {os : List D}, gRun own stop b c f ds (wipeE ε own) = some (z, os, ε2) → ∃ ε3, ε2 = wipeE ε3 own
  | [], ε, ε2, z, os, h => by cases h; exact ⟨_, rfl⟩
  | d :: ds, ε, ε2, z, os, h => by
    rw [gRun] at h
    split at h
    · cases h
    · split at h
      · split at h
        · split at h
          · cases h; exact ⟨_, rfl⟩
          · split at h
            · rename_i h8
              cases h
              exact gRun_wiped h8
            · cases h
          · cases h
        · cases h
      · exact gRun_wiped h
      · cases h
theorem gRun2_wiped {own own1 : List Nat} {stop : D → Option Bool} {b : BF} {c : TF} {it1 : IF} {b1 : BF} {c1 : TF} {f : VF} : ∀ {ds : List D} {ε ε2 : Env'} {z : Bool} {os : List D}, gRun2 own own1 stop b c it1 b1 c1 f ds (wipeE ε own) = some (z, os, ε2) → ∃ ε3, ε2 = wipeE ε3 own
  | [], ε, ε2, z, os, h => by cases h; exact ⟨_, rfl⟩
  | d :: ds, ε, ε2, z, os, h => by
    rw [gRun2] at h
    split at h
    · cases h
    · split at h
      · split at h
        · split at h
          · cases h; exact ⟨_, rfl⟩
          · split at h
            · rename_i h8
              cases h
              exact gRun2_wiped h8
            · cases h
          · cases h
        · cases h
      · exact gRun2_wiped h
      · cases h
section
variable {K : PySem.W.Frag} {T : List TK} {H H' H'' : Hp} {M M' M'' R R' F F' A A' : List Addr} {ε ε' : Env'} {σ σ' σ'' : L2.St} {X : Cx}
theorem gx_of {k : Nat} {fv : Value} {stop : D → Option Bool} {sv : Bool} {fin : List D → Option O} {Yl : L2.VK → YlT} {cont : L2.VK → List V → Hp → Prop} {it : IF} {own : List Nat} {n : Nat} {P : Addr} {Q : L2.VK} {g : List D → Env' → Option (Bool × List D × Env')} {lp : LpT}
    (tk : Tkr X T k fv stop sv fin Yl cont)
    (hlp : ∀ (t : TK) (H1 H2 : Hp) (M1 R : List Addr) (J : It) (ds : List D) (ε1 : Env') (z : Bool) (os : List D) (ε2 : Env') (ct : List V → L2.St → Hp → Prop) (S : Hp → Prop), Ok K (t :: T) H2 M1 R (wipeE ε1 own) (L2.wipe σ own) → σ.length = n → ItOk K (t :: T) J ds H2 M1 R → os.length ≤ sizeLine → TkD K (Yl Q) stop S →
      (z = true → ∀ M3 H3 σ3, Ok K (t :: T) H3 M3 R ε2 σ3 → L2.wipe σ3 own = L2.wipe σ own → Stp (t :: T) H2 M1 H3 M3 → S H3) →
      (z = false → ∀ M3 ys H3 σ3, LpS K (t :: T) H2 M1 R own σ H3 M3 ε2 σ3 os ys → ct ys σ3 H3) → g ds (wipeE ε1 own) = some (z, os, ε2) → ∃ m, lp t J (Yl Q) ct m [] (L2.wipe σ own) H2)
    (hK : X.K = K)
    (h : tV K T (fun ε => match it ε with
      | some (ds, ε1) => if clearable own ε1 && decide (ε1.length = n) then
          match g ds (wipeE ε1 own) with
          | some (z, os, ε2) => if room os.length then match tkEnd sv fin z os with
              | some o => some (.o o, restore own ε1 ε2)
              | none => none
            else none
          | none => none
        else none
      | none => none) σ H Q) (hwr : ∀ (ds : List D) (ε1 : Env') (z : Bool) (os : List D) (ε2 : Env'), g ds (wipeE ε1 own) = some (z, os, ε2) → ∃ ε3, ε2 = wipeE ε3 own) : tGx T P (wI K T it) own lp σ H (Yl Q) (cont Q) := by
  subst hK
  obtain ⟨M, R, ε, r, ε', ok, hf, post⟩ := h
  cases h1 : it ε with
  | none => simp only [h1] at hf; cases hf
  | some q =>
    obtain ⟨ds, ε1⟩ := q
    simp only [h1] at hf
    by_cases hc : (clearable own ε1 && decide (ε1.length = n)) = true
    · rw [if_pos hc] at hf
      rw [Bool.and_eq_true] at hc
      obtain ⟨hcl, hn⟩ := hc
      have hn : ε1.length = n := of_decide_eq_true hn
      cases h2 : g ds (wipeE ε1 own) with
      | none => rw [h2] at hf; cases hf
      | some q =>
        obtain ⟨z, os, ε2⟩ := q
        simp only [h2] at hf
        by_cases hroom : room os.length = true
        · rw [if_pos hroom] at hf
          cases h3 : tkEnd sv fin z os with
          | none => rw [h3] at hf; cases hf
          | some o =>
            rw [h3] at hf
            cases hf
            refine ⟨M, R, ε, ds, ε1, ok, h1, fun H1 M1 J ok1 st1 hJ => ⟨ok1.tab, fun H2 t hg => ?_⟩⟩
            obtain ⟨ok2, st2⟩ := ok1.grown hg
            have hσ : σ.length = n := ok1.len.trans hn
            have hJ2 : ItOk X.K (t :: T) J ds H2 M1 R := fun H3 M3 i s3 t3 l3 => hJ H3 M3 i ((st2.more _).trans s3.tail) t3.tail l3
            obtain ⟨M2, s2, ok3⟩ := ok2.wipe own
            have hJ3 : ItOk X.K (t :: T) J ds H2 M2 R := fun H3 M3 i s3 t3 l3 => hJ2 H3 M3 i (((Stp.refl.less s2).more _).trans s3) t3 l3
            obtain ⟨ε3, rfl⟩ := hwr _ _ _ _ _ h2
            have back : ∀ {M3 : List Addr} {H3 : Hp} {σ3 : L2.St}, Ok X.K (t :: T) H3 M3 R (wipeE ε3 own) σ3 → L2.wipe σ3 own = L2.wipe σ own → Stp (t :: T) H2 M2 H3 M3 →
                ∃ M4, (∀ a ∈ M4, a ∈ M3) ∧ Ok X.K T H3 M4 R (VS.restore own ε1 (wipeE ε3 own)) σ ∧ Stp T H M H3 M4 := by
              intro M3 H3 σ3 k3 w3 s3
              have k4 : Ok X.K T H3 M3 R (wipeE ε3 own) σ := (k3.slots w3.symm).tail
              have s4 : Stp T H1 M1 H3 M3 := (st2.less s2).trans s3.tail
              obtain ⟨M4, s5, k5⟩ := Ok.restore (F := []) ok1 s4 own hcl (fun a h => h) k4 (fun a h => by cases h)
              exact ⟨M4, s5, k5, st1.trans (s4.less s5)⟩
            refine hlp t H1 H2 M2 R J ds ε1 z os _ _ (fun H => Q (.bl sv) H) ok3 hσ hJ3 (room_line hroom) (tk.tkd Q) (fun hz M3 H3 σ3 k3 w3 s3 => ?_) (fun hz M3 ys H3 σ3 k3 => ?_) h2
            · subst hz
              cases h3
              obtain ⟨M4, s4, k4, st4⟩ := back k3 w3 s3
              exact post _ H3 M4 [] (Post.fz k4 st4 (by rw [Rep]))
            · subst hz
              obtain ⟨M4, s4, k4, st4⟩ := back k3.ok k3.hw k3.stp
              have rz : Reps X.K H3 (M4 ++ R) os ys := k3.acc.anti (fun a h => (List.mem_append.mp h).elim (fun z => List.mem_append_left _ (s4 a z)) fun z => List.mem_append_right _ z) _ _
              exact tk.fin Q H3 (M4 ++ R) os ys o k4.ls k4.tab rz h3 fun v H' F nw => post v H' M4 F ((New.post k4 nw).before st4)
        · rw [if_neg hroom] at hf; cases hf
    · rw [if_neg hc] at hf
      cases hf
end
end
end VS


set_option Elab.async false
set_option linter.all false
set_option maxRecDepth 100000
/-! VX3: the takers: tuple, any, all, sum, sorted. -/
namespace VS
noncomputable section
open PySem PySem.Spec PyProof.Rows L2 GenW
section
variable {X : Cx} {k : Nat} {T : List TK}
theorem cg_tuple (hr : Room (k + 6) X.A) : CallG X (.type "tuple") k (fun _ => yAll) fun Q ys H' => ∀ p, H' p = none → Q (.ref p) (upd H' p (.tup ys)) := by
  intro pins s sc σ H ex u Q I hex hG
  refine call_tuple_gm (EX := noX) hr I.ok.frames (gmade_of hG) (fun S s' acc H' ys hc => ?_) fun e s' g hc => (noX_cx hc).elim
  have I2 : Inv X pins σ H' s' := I.call' (ch := ex) hc.os hc.un hc.hok hc.bare hex
  refine ⟨.ref s'.heap.objs.size, upd H' s'.heap.objs.size (.tup ys), I2.laid (t' := s'.toks) (o := .tup ys) (fun b ob q => Heap.get?_push_of_some _ q) (Nat.le_refl _) ?_, rfl, hc.q _ (I2.hok.fresh (Nat.le_refl _))⟩
  exact ⟨hc.len, acc.toList, hc.vals, by rw [Array.toArray_toList]; exact IsTup.new _ _⟩
theorem cg_sorted (hr : Room (k + 6) X.A) : CallG X (.builtin "sorted") k (fun _ => yAll) fun Q ys H' => ∃ A ds, Lists H' A ∧ Tabs T H' ∧ Reps X.K H' A ds ys ∧ sortOk ds = true ∧ ∀ v H2 F, New X.K H' A (.own ((sortD ds).map O.fz)) v H2 F → Q v H2 := by
  intro pins s sc σ H ex u Q I hex hG
  refine sorted_by (collect_gm (EX := noX) (hr.in1.mono (by omega)) (by exact I.ok.frames) (gmade_of hG) (fun S s' acc H' ys hc => ?_) fun e s' g hc => (noX_cx hc).elim)
  have I2 : Inv X pins σ H' s' := I.call' (ch := ex) hc.os hc.un hc.hok hc.bare hex
  obtain ⟨A, ds, lA, tA, hr', ok, post⟩ := hc.q
  exact sort_post I2 hc.vals hr' ok lA tA (by have := hr.in1.in1.units; omega) post
/-! ### by data -/
@[simp] def stNo : D → Option Bool := fun _ => some false
@[simp] def stInt : D → Option Bool
  | .int _ => some false
  | _ => none
@[simp] def stBl (c : Bool) : D → Option Bool
  | .bl b => some (b == c)
  | _ => none
@[simp] def fTup : List D → Option O := fun ds => some (.fz (.tup ds))
@[simp] def fBl (c : Bool) : List D → Option O := fun _ => some (.fz (.bl c))
@[simp] def fSum : List D → Option O := fun ds => match intsOf ds with
  | some ns => some (.fz (.int ns.sum))
  | none => none
@[simp] def fSort : List D → Option O := fun ds => if sortOk ds then some (.own ((sortD ds).map O.fz)) else none
theorem tkd_all {K : PySem.W.Frag} {S : Hp → Prop} : TkD K yAll stNo S := ⟨fun _ _ _ _ _ _ _ _ p => p, fun _ _ _ _ _ _ _ h => by cases h⟩
theorem tkr_tuple (hr : Room (k + 6) X.A) : Tkr X T k (.type "tuple") stNo false fTup (fun _ => yAll) fun Q ys H' => ∀ p, H' p = none → Q (.ref p) (upd H' p (.tup ys)) where
  call := cg_tuple hr
  tkd := fun _ => tkd_all
  fin := fun Q H A ds ys o lA tA h e post p hp => by
    cases e
    exact post _ _ _ (New.tup h lA tA hp)
theorem tkr_sorted (hr : Room (k + 6) X.A) : Tkr X T k (.builtin "sorted") stNo false fSort (fun _ => yAll) fun Q ys H' => ∃ A ds, Lists H' A ∧ Tabs T H' ∧ Reps X.K H' A ds ys ∧ sortOk ds = true ∧ ∀ v H2 F, New X.K H' A (.own ((sortD ds).map O.fz)) v H2 F → Q v H2 where
  call := cg_sorted hr
  tkd := fun _ => tkd_all
  fin := fun Q H A ds ys o lA tA h e post => by
    unfold fSort at e
    split at e
    · rename_i hs
      cases e
      exact ⟨A, ds, lA, tA, h, hs, post⟩
    · cases e
theorem tkd_stop {K : PySem.W.Frag} {c : Bool} {S : Hp → Prop} : TkD K (yStop c S) (stBl c) S where
  go := fun ys y H p d A h e q => by
    cases d <;> first | (cases e; done) | skip
    rename_i b
    rw [Rep] at h
    have e : (b == c) = false := Option.some.inj e
    exact ⟨b, h, by rw [if_neg (by simpa using e)]; exact q⟩
  st := fun ys y H p d A h e q => by
    cases d <;> first | (cases e; done) | skip
    rename_i b
    rw [Rep] at h
    have e : (b == c) = true := Option.some.inj e
    exact ⟨b, h, by rw [if_pos (by simpa using e)]; exact q⟩
theorem tkr_any (hr : Room (k + 3) X.A) : Tkr X T k (.builtin "any") (stBl true) true (fBl false) (fun Q => yStop true fun H' => Q (.bl true) H') fun Q _ H' => Q (.bl false) H' where
  call := cg_any hr
  tkd := fun _ => tkd_stop
  fin := fun Q H A ds ys o lA tA h e post => by
    cases e
    exact post _ _ _ (New.fz (by rw [Rep]))
theorem tkr_all (hr : Room (k + 3) X.A) : Tkr X T k (.builtin "all") (stBl false) false (fBl true) (fun Q => yStop false fun H' => Q (.bl false) H') fun Q _ H' => Q (.bl true) H' where
  call := cg_all hr
  tkd := fun _ => tkd_stop
  fin := fun Q H A ds ys o lA tA h e post => by
    cases e
    exact post _ _ _ (New.fz (by rw [Rep]))
theorem tkr_sum (hr : Room (k + 3) X.A) : Tkr X T k (.builtin "sum") stInt false fSum (fun _ => yInt) fun Q ys H' => ∀ is : List Int, ys = is.map V.int → Q (.int is.sum) H' where
  call := cg_sum hr
  tkd := fun _ => ⟨fun ys y H p d A h e q => by
      cases d <;> first | (cases e; done) | skip
      rw [Rep] at h
      exact ⟨⟨_, h⟩, q⟩, fun ys y H p d A h e q => by cases d <;> cases e⟩
  fin := fun Q H A ds ys o lA tA h e post is hys => by
    unfold fSum at e
    split at e
    · rename_i ns hns
      cases e
      rw [intsOf_eq hns] at h
      rw [h.intsV] at hys
      have := map_int_inj hys
      subst this
      exact post _ _ _ (New.fz (by rw [Rep]))
    · cases e
end
end
end VS


set_option Elab.async false
set_option linter.all false
set_option maxRecDepth 100000
/-! VX4: rules for f(x for ..). -/
namespace VS
noncomputable section
open PySem PySem.Spec PyProof.Rows L2 GenW
abbrev GnF := (D → Option Bool) → Bool → (List D → Option O) → VF
/-- a generator expression by data -/
structure VGn (X : Cx) (T : List TK) (k : Nat) (e : Expr) (m : GnF) : Prop where
  gen : ∃ tg, PGenC X k e tg ∧ ∀ {fv : Value} {stop : D → Option Bool} {sv : Bool} {fin : List D → Option O} {Yl : L2.VK → YlT} {cont : L2.VK → List V → Hp → Prop}, Tkr X T k fv stop sv fin Yl cont → ∀ σ H Q, tV X.K T (m stop sv fin) σ H Q → tg σ H (Yl Q) (cont Q)
section
variable {X : Cx} {T : List TK} {k : Nat}
theorem vgn_one {scope : Scope} {own : List Str} {slots : List Nat} {tg elt iter : Expr} {ifs : List Expr} {pos : Pos} {it : IF} {b : BF} {c : TF} {f : VF} {kk n : Nat} {t2 : TK}
    (hr : Room kk X.A) (bm : BM X.base X.mg) (ht2 : t2 ∈ T) (hcode : X.env.code = .ref t2.c) (hst : t2.dyn = false → PySem.W.CodeHd X.base t2.c t2.P ∧ mainGlobals ≠ t2.P) (L : GxS X.env.scope scope own) (hN : ∀ (i : Nat) (y : Str), X.N[i]? = some y → y = (".0" : Str) ∨ y ∈ own → i ∈ slots)
    (hi : VI X T tg iter it)
    (hg : ∀ (A : Around) (s : Shared) (H : Hp) (C : Addr) (t : TK) (ex : List Addr) (pn : List (Addr × Obj)), Room k (A.deeper (gxEnv X scope C (.ref t.c))) → t.dyn = true → VG (gxCx X A s H scope C (.ref t.c) ex pn) (t :: T) (notIn slots n) tg b)
    (ht : ∀ (A : Around) (s : Shared) (H : Hp) (C : Addr) (t : TK) (ex : List Addr) (pn : List (Addr × Obj)), Room k (A.deeper (gxEnv X scope C (.ref t.c))) → t.dyn = true → VTs (gxCx X A s H scope C (.ref t.c) ex pn) (t :: T) ifs c)
    (he : ∀ (A : Around) (s : Shared) (H : Hp) (C : Addr) (t : TK) (ex : List Addr) (pn : List (Addr × Obj)), Room k (A.deeper (gxEnv X scope C (.ref t.c))) → t.dyn = true → VE (gxCx X A s H scope C (.ref t.c) ex pn) (t :: T) elt f)
    (hs : ∀ v, genFold iter X.env v = pure v := by intro _; rfl) :
    VGn X T (k + 1) (.GeneratorExp elt [⟨tg, iter, ifs, 0⟩] scope pos) fun stop sv fin => vGx n slots stop sv fin it b c f := by
  refine ⟨_, pgen_one (k := k) hr bm ht2 hcode hst L hN hi.pi (tb := fun t => gB X.K (t :: T) (notIn slots n) b) (tt := fun t => tT X.K (t :: T) c) (te := fun t => tV X.K (t :: T) f) (fun A s H C t ex pn r d => (hg A s H C t ex pn r d).pg) (fun A s H C t ex pn r d => (ht A s H C t ex pn r d).pt) (fun A s H C t ex pn r d => (he A s H C t ex pn r d).pe) hs, fun tk σ H Q h => ?_⟩
  refine gx_of (g := gRun slots _ b c f) tk (fun t H1 H2 M1 R J ds ε1 z os ε2 ct S ok hσ hJ hroom tkd hz hn hr => ⟨ds.length, ?_⟩) rfl h fun ds ε1 z os ε2 hr => gRun_wiped hr
  refine gxIn_of (σ := σ) (own := slots) (own1 := slots) (fun i h1 h2 => notIn_mem h1 h2) tkd hσ hJ hroom hz hn ds.length 0 (L2.wipe σ slots) H2 M1 ε1 [] os [] (by omega) (Nat.zero_le _) ⟨ok, wipe_wipe, Stp.refl, by rw [Reps]⟩ Stp.refl hr rfl
theorem vgn_two {scope : Scope} {own : List Str} {slots slots1 : List Nat} {tg elt iter tg1 iter1 : Expr} {ifs ifs1 : List Expr} {pos : Pos} {it it1 : IF} {b b1 : BF} {c c1 : TF} {f : VF} {kk n : Nat} {t2 : TK}
    (hr : Room kk X.A) (bm : BM X.base X.mg) (ht2 : t2 ∈ T) (hcode : X.env.code = .ref t2.c) (hst : t2.dyn = false → PySem.W.CodeHd X.base t2.c t2.P ∧ mainGlobals ≠ t2.P) (L : GxS X.env.scope scope own) (hN : ∀ (i : Nat) (y : Str), X.N[i]? = some y → y = (".0" : Str) ∨ y ∈ own → i ∈ slots)
    (hi : VI X T tg iter it)
    (hg : ∀ (A : Around) (s : Shared) (H : Hp) (C : Addr) (t : TK) (ex : List Addr) (pn : List (Addr × Obj)), Room k (A.deeper (gxEnv X scope C (.ref t.c))) → t.dyn = true → VG (gxCx X A s H scope C (.ref t.c) ex pn) (t :: T) (notIn slots n) tg b)
    (ht : ∀ (A : Around) (s : Shared) (H : Hp) (C : Addr) (t : TK) (ex : List Addr) (pn : List (Addr × Obj)), Room k (A.deeper (gxEnv X scope C (.ref t.c))) → t.dyn = true → VTs (gxCx X A s H scope C (.ref t.c) ex pn) (t :: T) ifs c)
    (hi1 : ∀ (A : Around) (s : Shared) (H : Hp) (C : Addr) (t : TK) (ex : List Addr) (pn : List (Addr × Obj)), Room k (A.deeper (gxEnv X scope C (.ref t.c))) → t.dyn = true → VI (gxCx X A s H scope C (.ref t.c) ex pn) (t :: T) tg1 iter1 it1)
    (hg1 : ∀ (A : Around) (s : Shared) (H : Hp) (C : Addr) (t : TK) (ex : List Addr) (pn : List (Addr × Obj)), Room k (A.deeper (gxEnv X scope C (.ref t.c))) → t.dyn = true → VG (gxCx X A s H scope C (.ref t.c) ex pn) (t :: T) (notIn slots n) tg1 b1)
    (ht1 : ∀ (A : Around) (s : Shared) (H : Hp) (C : Addr) (t : TK) (ex : List Addr) (pn : List (Addr × Obj)), Room k (A.deeper (gxEnv X scope C (.ref t.c))) → t.dyn = true → VTs (gxCx X A s H scope C (.ref t.c) ex pn) (t :: T) ifs1 c1)
    (he : ∀ (A : Around) (s : Shared) (H : Hp) (C : Addr) (t : TK) (ex : List Addr) (pn : List (Addr × Obj)), Room k (A.deeper (gxEnv X scope C (.ref t.c))) → t.dyn = true → VE (gxCx X A s H scope C (.ref t.c) ex pn) (t :: T) elt f)
    (hs : ∀ v, genFold iter X.env v = pure v := by intro _; rfl) (hs1 : ∀ C code x, foldedSetIterable iter1 (gxEnv X scope C code) x = pure x := by intro _ _ _; rfl) :
    VGn X T (k + 1) (.GeneratorExp elt [⟨tg, iter, ifs, 0⟩, ⟨tg1, iter1, ifs1, 0⟩] scope pos) fun stop sv fin => vGx2 n slots slots1 stop sv fin it b c it1 b1 c1 f := by
  refine ⟨_, pgen_two (k := k) hr bm ht2 hcode hst L hN hi.pi (tb := fun t => gB X.K (t :: T) (notIn slots n) b) (tt := fun t => tT X.K (t :: T) c) (te := fun t => tV X.K (t :: T) f) (wi1 := fun t => wI X.K (t :: T) it1) (tb1 := fun t => gB X.K (t :: T) (notIn slots n) b1) (tt1 := fun t => tT X.K (t :: T) c1) (fun A s H C t ex pn r d => (hg A s H C t ex pn r d).pg) (fun A s H C t ex pn r d => (ht A s H C t ex pn r d).pt) (fun A s H C t ex pn r d => (hi1 A s H C t ex pn r d).pi) (fun A s H C t ex pn r d => (hg1 A s H C t ex pn r d).pg) (fun A s H C t ex pn r d => (ht1 A s H C t ex pn r d).pt) (fun A s H C t ex pn r d => (he A s H C t ex pn r d).pe) hs hs1, fun tk σ H Q h => ?_⟩
  refine gx_of (g := gRun2 slots slots1 _ b c it1 b1 c1 f) tk (fun t H1 H2 M1 R J ds ε1 z os ε2 ct S ok hσ hJ hroom tkd hz hn hr => ⟨ds.length, ?_⟩) rfl h fun ds ε1 z os ε2 hr => gRun2_wiped hr
  refine gxOut_of (σ := σ) (own := slots) (own1 := slots1) (fun i h1 h2 => notIn_mem h1 h2) tkd hσ hJ hroom hz hn ds.length 0 (L2.wipe σ slots) H2 M1 ε1 [] os [] (by omega) (Nat.zero_le _) ⟨ok, wipe_wipe, Stp.refl, by rw [Reps]⟩ hr rfl
theorem ve_gB {x : Str} {id : String} {e : Expr} {m : GnF} {p pos : Pos} {stop : D → Option Bool} {sv : Bool} {fin : List D → Option O} {Yl : L2.VK → YlT} {cont : L2.VK → List V → Hp → Prop} (tk : Tkr X T k (.builtin id) stop sv fin Yl cont) (h : VGn X T k e m) (hg : Gl X x) (hmg : X.mg x = none) (hv : bootBuiltins x = some (.builtin id)) (hn : x ≠ "__name__") (hdb : (x == ("__debug__" : Str)) = false)
    (he : starEach [e] X.env = (false, eval e X.env) :: starEach [] X.env := by rfl) (hpl : (backTo pos (starEach [] X.env)).any (·.1) = false := by rfl) : VE X T (.Call (.Name x p) [e] [] pos) (m stop sv fin) := by
  obtain ⟨tg, h1, h2⟩ := h.gen
  exact ⟨PE.imp (pe_gB tk.call h1 hg hmg hv hn hdb he hpl) fun σ H Q q => h2 tk σ H Q q⟩
theorem ve_gT {x : Str} {id : String} {e : Expr} {m : GnF} {p pos : Pos} {stop : D → Option Bool} {sv : Bool} {fin : List D → Option O} {Yl : L2.VK → YlT} {cont : L2.VK → List V → Hp → Prop} (tk : Tkr X T k (.type id) stop sv fin Yl cont) (h : VGn X T k e m) (hg : Gl X x) (hmg : X.mg x = none) (hv : bootBuiltins x = some (.type id)) (hn : x ≠ "__name__") (hdb : (x == ("__debug__" : Str)) = false)
    (he : starEach [e] X.env = (false, eval e X.env) :: starEach [] X.env := by rfl) (hpl : (backTo pos (starEach [] X.env)).any (·.1) = false := by rfl) : VE X T (.Call (.Name x p) [e] [] pos) (m stop sv fin) := by
  obtain ⟨tg, h1, h2⟩ := h.gen
  exact ⟨PE.imp (pe_gT tk.call h1 hg hmg hv hn hdb he hpl) fun σ H Q q => h2 tk σ H Q q⟩
end
/-! ### at a place -/
section
variable {Pg : Program} {w : World} {K : PySem.W.Frag} {mg : Str → Option Value} {base : Heap} {N : List Str} {k j : Nat} {X : Cx} {sc scope : Scope} {fb : Str → Bool} {cv : Value} {T : List TK}
/-- where the elements stand -/
theorem CF.gx (c : CF Pg w K mg base N k X sc fb cv) {A : Around} {s : Shared} {H : Hp} {C : Addr} {code : Value} {ex : List Addr} {pn : List (Addr × Obj)} (r : Room j (A.deeper (gxEnv X scope C code))) : CF Pg w K mg base N j (gxCx X A s H scope C code ex pn) scope (fun x => scope.names.lookup x == some .cell) code :=
  ⟨c.eP, c.eW, c.eK, c.eM, c.eB, c.eN, c.nd, rfl, rfl, r, rfl, rfl, rfl⟩
theorem kt_new {t : TK} (d : t.dyn = true) : KT base (t :: T) (.ref t.c) := ⟨t, List.mem_cons_self, rfl, fun h => by rw [d] at h; cases h⟩
/-- the scope of a generator expression, looked at -/
def gxB (N : List Str) (sc scope : Scope) (own : List Str) (slots : List Nat) : Bool :=
  decide (scope.kind = .function) && !scope.isCoroutine && (scope.names.all fun y => scope.names.lookup y.1 == some y.2) && (scope.names.lookup (".0" : Str) == some NameKind.local) &&
  (scope.names.all fun y => !(y.2 == .local || y.2 == .cell) || (y.1 == (".0" : Str) || own.contains y.1)) && (scope.names.all fun y => !(y.2 == .free) || (sc.names.lookup y.1 == some .cell || sc.names.lookup y.1 == some .free)) &&
  ((List.range N.length).all fun i => match N[i]? with
    | some y => !(y == (".0" : Str) || own.contains y) || slots.contains i
    | none => true)
theorem gxB_iff {own : List Str} {slots : List Nat} (h : gxB N sc scope own slots = true) : GxS sc scope own ∧ ∀ (i : Nat) (y : Str), N[i]? = some y → y = (".0" : Str) ∨ y ∈ own → i ∈ slots := by
  unfold gxB at h
  simp only [Bool.and_eq_true] at h
  obtain ⟨⟨⟨⟨⟨⟨h1, h2⟩, h3⟩, h4⟩, h5⟩, h6⟩, h7⟩ := h
  refine ⟨⟨of_decide_eq_true h1, by simpa using h2, fun y hy => by simpa using List.all_eq_true.mp h3 y hy, by simpa using h4, fun y hy => ?_, fun y hy e => ?_⟩, fun i y e hy => ?_⟩
  · have key : ∀ kd, scope.names.lookup y = some kd → (kd = .local ∨ kd = .cell) → y = (".0" : Str) ∨ y ∈ own := fun kd e hk => by
      have := List.all_eq_true.mp h5 _ (PySem.mem_of_lookup e)
      rcases hk with rfl | rfl <;> simpa using this
    rcases hy with hy | hy
    · exact key _ hy (.inl rfl)
    · exact key _ hy (.inr rfl)
  · have := List.all_eq_true.mp h6 y hy
    rw [e] at this
    simpa using this
  · have hlt : i < N.length := (List.getElem?_eq_some_iff.mp e).1
    have := List.all_eq_true.mp h7 i (List.mem_range.mpr hlt)
    rw [e] at this
    have hb : (y == (".0" : Str) || own.contains y) = true := by
      rcases hy with rfl | hy
      · simp
      · simp [hy]
    simp only [hb] at this
    simpa using this
/-- the contexts of the elements, for all -/
def InGx (Pg : Program) (w : World) (K : PySem.W.Frag) (mg : Str → Option Value) (base : Heap) (N : List Str) (j : Nat) (scope : Scope) (T : List TK) (Ψ : Cx → List TK → Prop) : Prop :=
  ∀ (X' : Cx) (t : TK), t.dyn = true → KT base (t :: T) (.ref t.c) → CF Pg w K mg base N j X' scope (fun x => scope.names.lookup x == some .cell) (.ref t.c) → Ψ X' (t :: T)
theorem CF.g1 (c : CF Pg w K mg base N k X sc fb cv) (bm : BM base mg) (kt : KT base T cv) {own : List Str} {slots : List Nat} {tg elt iter : Expr} {ifs : List Expr} {pos : Pos} {it : IF} {b : BF} {cc : TF} {f : VF} {n : Nat} (j : Nat) (ok : gxB N sc scope own slots = true)
    (hi : VI X T tg iter it)
    (hg : ∀ (X' : Cx) (t : TK), t.dyn = true → KT base (t :: T) (.ref t.c) → CF Pg w K mg base N j X' scope (fun x => scope.names.lookup x == some .cell) (.ref t.c) → VG X' (t :: T) (notIn slots n) tg b)
    (ht : ∀ (X' : Cx) (t : TK), t.dyn = true → KT base (t :: T) (.ref t.c) → CF Pg w K mg base N j X' scope (fun x => scope.names.lookup x == some .cell) (.ref t.c) → VTs X' (t :: T) ifs cc)
    (he : ∀ (X' : Cx) (t : TK), t.dyn = true → KT base (t :: T) (.ref t.c) → CF Pg w K mg base N j X' scope (fun x => scope.names.lookup x == some .cell) (.ref t.c) → VE X' (t :: T) elt f)
    (hs : ∀ v, genFold iter X.env v = pure v := by intro _; rfl) :
    VGn X T (j + 1) (.GeneratorExp elt [⟨tg, iter, ifs, 0⟩] scope pos) fun stop sv fin => vGx n slots stop sv fin it b cc f := by
  obtain ⟨t2, m2, e2, st⟩ := kt
  obtain ⟨L, hN⟩ := gxB_iff ok
  exact vgn_one c.room (by rw [c.eB, c.eM]; exact bm) m2 (by rw [c.cde]; exact e2) (by rw [c.eB]; exact st) (by rw [c.eS]; exact L) (by rw [c.eN]; exact hN) hi (fun A s H C t ex pn r d => hg _ t d (kt_new d) (c.gx r)) (fun A s H C t ex pn r d => ht _ t d (kt_new d) (c.gx r)) (fun A s H C t ex pn r d => he _ t d (kt_new d) (c.gx r)) hs
theorem CF.g2 (c : CF Pg w K mg base N k X sc fb cv) (bm : BM base mg) (kt : KT base T cv) {own : List Str} {slots slots1 : List Nat} {tg elt iter tg1 iter1 : Expr} {ifs ifs1 : List Expr} {pos : Pos} {it it1 : IF} {b b1 : BF} {cc cc1 : TF} {f : VF} {n : Nat} (j : Nat) (ok : gxB N sc scope own slots = true)
    (hi : VI X T tg iter it)
    (hg : ∀ (X' : Cx) (t : TK), t.dyn = true → KT base (t :: T) (.ref t.c) → CF Pg w K mg base N j X' scope (fun x => scope.names.lookup x == some .cell) (.ref t.c) → VG X' (t :: T) (notIn slots n) tg b)
    (ht : ∀ (X' : Cx) (t : TK), t.dyn = true → KT base (t :: T) (.ref t.c) → CF Pg w K mg base N j X' scope (fun x => scope.names.lookup x == some .cell) (.ref t.c) → VTs X' (t :: T) ifs cc)
    (hi1 : ∀ (X' : Cx) (t : TK), t.dyn = true → KT base (t :: T) (.ref t.c) → CF Pg w K mg base N j X' scope (fun x => scope.names.lookup x == some .cell) (.ref t.c) → VI X' (t :: T) tg1 iter1 it1)
    (hg1 : ∀ (X' : Cx) (t : TK), t.dyn = true → KT base (t :: T) (.ref t.c) → CF Pg w K mg base N j X' scope (fun x => scope.names.lookup x == some .cell) (.ref t.c) → VG X' (t :: T) (notIn slots n) tg1 b1)
    (ht1 : ∀ (X' : Cx) (t : TK), t.dyn = true → KT base (t :: T) (.ref t.c) → CF Pg w K mg base N j X' scope (fun x => scope.names.lookup x == some .cell) (.ref t.c) → VTs X' (t :: T) ifs1 cc1)
    (he : ∀ (X' : Cx) (t : TK), t.dyn = true → KT base (t :: T) (.ref t.c) → CF Pg w K mg base N j X' scope (fun x => scope.names.lookup x == some .cell) (.ref t.c) → VE X' (t :: T) elt f)
    (hs : ∀ v, genFold iter X.env v = pure v := by intro _; rfl) (hs1 : ∀ C code x, foldedSetIterable iter1 (gxEnv X scope C code) x = pure x := by intro _ _ _; rfl) :
    VGn X T (j + 1) (.GeneratorExp elt [⟨tg, iter, ifs, 0⟩, ⟨tg1, iter1, ifs1, 0⟩] scope pos) fun stop sv fin => vGx2 n slots slots1 stop sv fin it b cc it1 b1 cc1 f := by
  obtain ⟨t2, m2, e2, st⟩ := kt
  obtain ⟨L, hN⟩ := gxB_iff ok
  exact vgn_two c.room (by rw [c.eB, c.eM]; exact bm) m2 (by rw [c.cde]; exact e2) (by rw [c.eB]; exact st) (by rw [c.eS]; exact L) (by rw [c.eN]; exact hN) hi (fun A s H C t ex pn r d => hg _ t d (kt_new d) (c.gx r)) (fun A s H C t ex pn r d => ht _ t d (kt_new d) (c.gx r)) (fun A s H C t ex pn r d => hi1 _ t d (kt_new d) (c.gx r)) (fun A s H C t ex pn r d => hg1 _ t d (kt_new d) (c.gx r)) (fun A s H C t ex pn r d => ht1 _ t d (kt_new d) (c.gx r)) (fun A s H C t ex pn r d => he _ t d (kt_new d) (c.gx r)) hs hs1
/-- a def, called where more code is known -/
theorem fn_up {f : Addr} {fd : FuncData} {ps : List Str} {n : Nat} {G : Fn} {t : TK} (d : t.dyn = true) (F : FnOk Pg w K mg base CX0 k f fd ps (spF K T n G)) : FnOk Pg w K mg base CX0 k f fd ps (spF K (t :: T) n G) := by
  refine FnOk.imp F fun vs H Q E h => ?_
  obtain ⟨R, os, Fo, r, fin, ok, hl, hf, post⟩ := h
  refine ⟨R, os, Fo, r, fin, ok.tail, hl, hf, fun v H' Ff Fr p => post v H' Ff Fr ⟨⟨p.ok.rep, p.ok.nd, p.ok.ls, ?_⟩, ⟨p.stp.keep, p.stp.live, p.stp.sub, p.stp.grow⟩, p.rep⟩⟩
  exact Stp.lift (D := [t]) p.stp ok.ls1 ok.tab p.ok.tab fun u hu => by rw [List.mem_singleton.mp hu]; exact d
end
end
end VS


set_option Elab.async false
set_option linter.all false
set_option maxRecDepth 100000
/-! VX5: owned lists at the end of a path; targets that take what is owned. -/
namespace VS
noncomputable section
open PySem PySem.Spec PyProof.Rows L2
/-- the list at a may be changed: put says what the slots are then -/
structure Chg (K : PySem.W.Frag) (T : List TK) (H : Hp) (M F R : List Addr) (σ : L2.St) (l : List O) (put : List O → Env') (a : Addr) (vs : List V) (F' : List Addr) : Prop where
  at_ : H a = some (.lst vs)
  mem : a ∈ M
  rep : RepOs K H (M ++ (F ++ R)) l vs F'
  nd : (a :: (F' ++ F)).Nodup
  inM : ∀ b ∈ F', b ∈ M
  set : ∀ l' vs' G Fr, (G ++ Fr).Nodup → (∀ b ∈ G ++ Fr, b ∈ F' ++ F) → RepOs K (L2.upd H a (.lst vs')) (M ++ (F ++ R)) l' vs' G → ∃ M3, Ok K T (L2.upd H a (.lst vs')) M3 (Fr ++ R) (put l') σ ∧ (∀ b ∈ M3, b ∈ M ++ F) ∧ (∀ b ∈ M3, b ∉ Fr)
section
variable {K : PySem.W.Frag} {T : List TK} {P : List Nat} {H H' H'' : Hp} {M M' M'' R R' F F' A A' : List Addr} {ε ε' : Env'} {σ σ' σ'' : L2.St} {X : Cx} {l : List O} {put : List O → Env'} {a : Addr} {vs : List V}
/-- the item at k leaves -/
theorem Chg.popped {k : Nat} {o : O} (c : Chg K T H M [] R σ l put a vs F') (tab : Tabs T H) (hk : l[k]? = some o) : ∃ y M3 Fk, vs[k]? = some y ∧ Post K T H M R (put (l.eraseIdx k)) σ o y (L2.upd H a (.lst (vs.eraseIdx k))) M3 Fk := by
  obtain ⟨c2, c3, c4, c5, c6, c7⟩ := c
  obtain ⟨y, Fk, G, g1, g2, g3, g4⟩ := c4.at hk
  refine ⟨y, ?_⟩
  have nda : a ∉ F' := fun z => (List.nodup_cons.mp c5).1 (List.mem_append_left _ z)
  have ndF : F'.Nodup := by
    have := (List.nodup_cons.mp c5).2
    rw [List.append_nil] at this
    exact this
  have hA : a ∈ M ++ ([] ++ R) := List.mem_append_left _ c3
  have nG : a ∉ G := fun z => nda (g2.mem_iff.mpr (List.mem_append_right _ z))
  have nK : a ∉ Fk := fun z => nda (g2.mem_iff.mpr (List.mem_append_left _ z))
  obtain ⟨M3, k3, s3, s4⟩ := c7 (l.eraseIdx k) (vs.eraseIdx k) G Fk ((g2.trans List.perm_append_comm).nodup_iff.mp ndF) (fun b hb => by
    rw [List.append_nil]
    exact (g2.trans List.perm_append_comm).mem_iff.mpr hb) (g4.upd (vs' := vs) tab (lists1 c2) hA nG)
  have inM : ∀ b ∈ M3 ++ Fk, b ∈ M := fun b hb => (List.mem_append.mp hb).elim (fun z => by simpa using s3 b z) fun z => c6 b (g2.mem_iff.mpr (List.mem_append_left _ z))
  refine ⟨M3, Fk, g1, k3, Stp.upd c3 c2 inM, (g3.upd tab (lists1 c2) hA nK).anti (fun b hb => ?_) _ _ _⟩
  rcases List.mem_append.mp hb with z | z
  · exact List.mem_append_left _ (inM b (List.mem_append_left _ z))
  · rcases List.mem_append.mp z with z | z
    · exact List.mem_append_left _ (inM b (List.mem_append_right _ z))
    · exact List.mem_append_right _ z
/-- o is stored at k -/
theorem Chg.stored {k : Nat} {o : O} {y : V} (c : Chg K T H M F R σ l put a vs F') (tab : Tabs T H) (ho : RepO K H (M ++ (F ++ R)) o y F) (hk : k < l.length) : ∃ M3, Ok K T (L2.upd H a (.lst (vs.set k y))) M3 R (put (l.set k o)) σ ∧ ∀ b ∈ M3, b ∈ M ++ F := by
  obtain ⟨c2, c3, c4, c5, c6, c7⟩ := c
  obtain ⟨z, Fk, G, g1, g2, g3, g4⟩ := c4.at (List.getElem?_eq_getElem hk)
  have nda : a ∉ F' ++ F := (List.nodup_cons.mp c5).1
  have ndF : (F' ++ F).Nodup := (List.nodup_cons.mp c5).2
  have hA : a ∈ M ++ (F ++ R) := List.mem_append_left _ c3
  have nG : a ∉ G := fun z => nda (List.mem_append_left _ (g2.mem_iff.mpr (List.mem_append_right _ z)))
  have nF : a ∉ F := fun z => nda (List.mem_append_right _ z)
  have kv : k < vs.length := by rw [c4.length]; exact hk
  obtain ⟨G', p', r'⟩ := RepOs.back (g4.upd (vs' := vs) (ws := vs.set k y) tab (lists1 c2) hA nG) (ho.upd tab (lists1 c2) hA nF) hk kv
  have mem : ∀ b ∈ G' ++ [], b ∈ F' ++ F := fun b hb => by
    rw [List.append_nil] at hb
    rcases List.mem_append.mp (p'.mem_iff.mp hb) with z | z
    · exact List.mem_append_right _ z
    · exact List.mem_append_left _ (g2.mem_iff.mpr (List.mem_append_right _ z))
  have nd' : (G' ++ []).Nodup := by
    rw [List.append_nil]
    refine p'.nodup_iff.mpr ?_
    have h1 := List.nodup_append.mp ndF
    have h2 := List.nodup_append.mp (g2.nodup_iff.mp h1.1)
    refine List.nodup_append.mpr ⟨h1.2.1, h2.2.1, fun x hx z hz e => ?_⟩
    subst e
    exact h1.2.2 x (g2.mem_iff.mpr (List.mem_append_right _ hz)) x hx rfl
  obtain ⟨M3, k3, s3, _⟩ := c7 (l.set k o) (vs.set k y) G' [] nd' mem r'
  exact ⟨M3, k3, s3⟩
theorem RepOs.reverse : ∀ {l : List O} {vs : List V} {F : List Addr}, RepOs K H A l vs F → ∃ F', F'.Perm F ∧ RepOs K H A l.reverse vs.reverse F'
  | [], _, _, h => by
    rw [RepOs] at h
    obtain ⟨rfl, rfl⟩ := h
    exact ⟨[], .refl _, by simp [RepOs]⟩
  | o :: l, _, _, h => by
    rw [RepOs] at h
    obtain ⟨v, r, F1, F2, rfl, rfl, h1, h2⟩ := h
    obtain ⟨F', p, q⟩ := RepOs.reverse h2
    refine ⟨F' ++ F1, (List.Perm.append_right F1 p).trans List.perm_append_comm, ?_⟩
    rw [List.reverse_cons, List.reverse_cons]
    have r1 : RepOs K H A (l.reverse ++ [o]) (r.reverse ++ [v]) (F' ++ (F1 ++ [])) := RepOs.append q (by
      rw [RepOs]
      exact ⟨v, [], F1, [], rfl, rfl, h1, by rw [RepOs]; exact ⟨rfl, rfl⟩⟩)
    rw [List.append_nil] at r1
    exact r1
/-- turned about -/
theorem Chg.turned (c : Chg K T H M [] R σ l put a vs F') (tab : Tabs T H) : ∃ M3, Ok K T (L2.upd H a (.lst vs.reverse)) M3 R (put l.reverse) σ ∧ ∀ b ∈ M3, b ∈ M := by
  obtain ⟨c2, c3, c4, c5, c6, c7⟩ := c
  have nda : a ∉ F' := fun z => (List.nodup_cons.mp c5).1 (List.mem_append_left _ z)
  have hA : a ∈ M ++ ([] ++ R) := List.mem_append_left _ c3
  obtain ⟨G, p, r⟩ := (c4.upd (vs' := vs) (ws := vs.reverse) tab (lists1 c2) hA nda).reverse
  have ndF : F'.Nodup := by
    have := (List.nodup_cons.mp c5).2
    rw [List.append_nil] at this
    exact this
  obtain ⟨M3, k3, s3, _⟩ := c7 l.reverse vs.reverse G [] (by rw [List.append_nil]; exact p.nodup_iff.mpr ndF) (fun b hb => by
    rw [List.append_nil] at hb ⊢
    exact p.mem_iff.mp hb) r
  exact ⟨M3, k3, fun b hb => by simpa using s3 b hb⟩
/-- o comes behind the last -/
theorem Chg.more {o : O} {y : V} (c : Chg K T H M F R σ l put a vs F') (tab : Tabs T H) (ho : RepO K H (M ++ (F ++ R)) o y F) : ∃ M3, Ok K T (L2.upd H a (.lst (vs ++ [y]))) M3 R (put (l ++ [o])) σ ∧ ∀ b ∈ M3, b ∈ M ++ F := by
  obtain ⟨c2, c3, c4, c5, c6, c7⟩ := c
  have nda : a ∉ F' ++ F := (List.nodup_cons.mp c5).1
  have ndF : (F' ++ F).Nodup := (List.nodup_cons.mp c5).2
  have hA : a ∈ M ++ (F ++ R) := List.mem_append_left _ c3
  have r1 : RepOs K (L2.upd H a (.lst (vs ++ [y]))) (M ++ (F ++ R)) (l ++ [o]) (vs ++ [y]) (F' ++ (F ++ [])) := RepOs.append (c4.upd (vs' := vs) tab (lists1 c2) hA fun z => nda (List.mem_append_left _ z)) (by
    rw [RepOs]
    exact ⟨y, [], F, [], rfl, rfl, ho.upd tab (lists1 c2) hA (fun z => nda (List.mem_append_right _ z)), by rw [RepOs]; exact ⟨rfl, rfl⟩⟩)
  rw [List.append_nil] at r1
  obtain ⟨M3, k3, s3, _⟩ := c7 (l ++ [o]) (vs ++ [y]) (F' ++ F) [] (by rw [List.append_nil]; exact ndF) (fun b hb => by simpa using hb) r1
  exact ⟨M3, k3, s3⟩

/-- a path to an owned list: its items, and the slots with other ones -/
abbrev Mp := Env' → Option (List O × (List O → Env'))
def tM (K : PySem.W.Frag) (T : List TK) (m : Mp) : TE := fun σ H Q => ∃ M F R ε l put, Ok K T H M (F ++ R) ε σ ∧ m ε = some (l, put) ∧ ∀ a vs F', Chg K T H M F R σ l put a vs F' → Q (.ref a) H
/-- o is the list at the end of the path m -/
structure VM (X : Cx) (T : List TK) (o : Expr) (m : Mp) : Prop where
  pe : PE X o (tM X.K T m)
@[simp] def m1 (i : Nat) : Mp := fun ε => match ε[i]? with
  | some (some (.own l)) => some (l, fun l' => ε.set i (some (.own l')))
  | _ => none
@[simp] def m2 (i : Nat) (h : Pl) : Mp := fun ε => match ε[i]?, h ε with
  | some (some (.own l)), some (.fz (.int n)) => match ixN l.length n with
    | some k => match l[k]? with
      | some (.own l2) => some (l2, fun l' => ε.set i (some (.own (l.set k (.own l')))))
      | _ => none
    | none => none
  | _, _ => none
theorem vm1 {i : Nat} {o : Expr} (ho : PE X o (tVar i)) : VM X T o (m1 i) := by
  refine ⟨PE.imp ho fun σ H Q h => ?_⟩
  obtain ⟨M, F, R, ε, l, put, ok, hm, post⟩ := h
  unfold m1 at hm
  split at hm
  · rename_i l e
    cases hm
    obtain ⟨a, vs, F', c1, c2, c3, c4, c5, c6, c7⟩ := Ok.change (Fr := []) ok e
    exact ⟨_, c1, post a vs F' ⟨c2, c3, c4, c5, c6, c7⟩⟩
  · cases hm
theorem vm2 {i : Nat} {o j : Expr} {h : Pl} {pos : Pos} (ho : PE X o (tVar i)) (hj : VP X T j h) (hpl : PlainIx j) : VM X T (.Subscript o j pos) (m2 i h) := by
  refine ⟨PE.imp (pe_ix ix_list ho hj.pe hpl) fun σ H Q hh => ?_⟩
  obtain ⟨M, F, R, ε, l, put, ok, hm, post⟩ := hh
  unfold m2 at hm
  split at hm
  · rename_i l1 n e1 e2
    split at hm
    · rename_i k hk
      split at hm
      · rename_i l2 hl2
        cases hm
        obtain ⟨a, vs, a2, vs2, F2, c1, c2, c3, c4, c5, c6, c7, c8, c9, c10⟩ := Ok.change2 ok e1 hl2
        refine ⟨_, c1, M, F ++ R, ε, _, ok, e2, fun w Fw rw_ _ => ?_⟩
        rw [RepO, Rep] at rw_
        obtain ⟨_, rfl⟩ := rw_
        exact ⟨a, vs, n, .ref a2, rfl, rfl, SqL.of c2, atI_of hk c3 c4, post a2 vs2 F2 ⟨c5, c6, c7, c8, c9, c10⟩⟩
      · cases hm
    · cases hm
  · cases hm
/-- the state of a path's end -/
theorem tM_of {m : Mp} {σ : L2.St} {H : Hp} {Q : L2.VK} {ε : Env'} {l : List O} {put : List O → Env'} (ok : Ok K T H M (F ++ R) ε σ) (hm : m ε = some (l, put)) (h : ∀ a vs F', Chg K T H M F R σ l put a vs F' → Q (.ref a) H) : tM K T m σ H Q := ⟨M, F, R, ε, l, put, ok, hm, h⟩

/-! ### methods without arguments -/
@[simp] def vMpop (m : Mp) : VF := fun ε => match m ε with
  | some (l, put) => match l[l.length - 1]? with
    | some o => some (.o o, put (l.eraseIdx (l.length - 1)))
    | none => none
  | none => none
theorem ve_mpop {m : Mp} {o : Expr} {apos cpos : Pos} (he : PE X (.Call (.Attribute o "pop" apos) [] [] cpos) (tBM0 X.K "list" rPop (tM X.K T m))) : VE X T (.Call (.Attribute o "pop" apos) [] [] cpos) (vMpop m) := by
  refine ⟨PE.imp he fun σ H Q h => ?_⟩
  obtain ⟨M, R, ε, r, ε', ok, hf, post⟩ := h
  unfold vMpop at hf
  split at hf
  · rename_i l put hm
    split at hf
    · rename_i o1 ho
      cases hf
      refine tM_of (F := []) ok hm fun a vs F' c => ?_
      obtain ⟨y, M3, Fk, h1, h2⟩ := c.popped ok.tab ho
      have hl : vs.length = l.length := c.rep.length
      refine ⟨.inl ⟨rfl, vs, SqL.of c.at_⟩, a, vs, y, rfl, rfl, c.at_, by rw [hl]; exact h1, ?_⟩
      have e2 : vs.eraseIdx (l.length - 1) = vs.dropLast := by rw [← hl, eraseIdx_last]
      rw [e2] at h2
      exact post _ _ M3 Fk h2
    · cases hf
  · cases hf
@[simp] def vMrev (m : Mp) : VF := fun ε => match m ε with
  | some (l, put) => some (.o (.fz .non), put l.reverse)
  | none => none
theorem ve_mrev {m : Mp} {o : Expr} {apos cpos : Pos} (he : PE X (.Call (.Attribute o "reverse" apos) [] [] cpos) (tBM0 X.K "list" rReverse (tM X.K T m))) : VE X T (.Call (.Attribute o "reverse" apos) [] [] cpos) (vMrev m) := by
  refine ⟨PE.imp he fun σ H Q h => ?_⟩
  obtain ⟨M, R, ε, r, ε', ok, hf, post⟩ := h
  unfold vMrev at hf
  split at hf
  · rename_i l put hm
    cases hf
    refine tM_of (F := []) ok hm fun a vs F' c => ?_
    obtain ⟨M3, k3, s3⟩ := c.turned ok.tab
    exact ⟨.inl ⟨rfl, vs, SqL.of c.at_⟩, a, vs, rfl, rfl, c.at_, post _ _ M3 [] (Post.fz k3 (Stp.upd c.mem c.at_ s3) (by rw [Rep]))⟩
  · cases hf

/-! ### targets -/
abbrev BO := O → Env' → Option Env'
def gO (K : PySem.W.Frag) (T : List TK) (P : List Nat) (b : BO) : TG := fun v σ H Q => ∃ M F R ε o ε', Ok K T H M (F ++ R) ε σ ∧ RepO K H (M ++ (F ++ R)) o v F ∧ b o ε = some ε' ∧ ∀ σ' H' M', Ok K T H' M' R ε' σ' → Stp T H (M ++ F) H' M' → Same' P σ σ' → Q σ' H'
structure VGO (X : Cx) (T : List TK) (P : List Nat) (tg : Expr) (b : BO) : Prop where
  pg : PG X tg (gO X.K T P b)
def gOs (K : PySem.W.Frag) (T : List TK) (P : List Nat) (bs : List O → Env' → Option Env') : TGs := fun vs σ H Q => ∃ M F R ε os ε', Ok K T H M (F ++ R) ε σ ∧ RepOs K H (M ++ (F ++ R)) os vs F ∧ bs os ε = some ε' ∧ ∀ σ' H' M', Ok K T H' M' R ε' σ' → Stp T H (M ++ F) H' M' → Same' P σ σ' → Q σ' H'
structure VGOs (X : Cx) (T : List TK) (P : List Nat) (tgs : List Expr) (bs : List O → Env' → Option Env') (n : Nat) : Prop where
  pg : PGs X tgs (gOs X.K T P bs)
  len : (∀ os ε ε', bs os ε = some ε' → os.length = n)
@[simp] def bNil : List O → Env' → Option Env'
  | [], ε => some ε
  | _, _ => none
@[simp] def bCons (b : BO) (bs : List O → Env' → Option Env') : List O → Env' → Option Env'
  | o :: os, ε => match b o ε with
    | some ε1 => bs os ε1
    | none => none
  | _, _ => none
theorem Stp.wide (s : Stp T H M H' M') (h : ∀ a ∈ M, a ∈ M'') : Stp T H M'' H' M' := ⟨fun b o e hm ht => s.keep b o e (fun z => hm (h b z)) ht, s.live, fun a ha => (s.sub a ha).elim (fun z => .inl (h a z)) .inr, s.grow⟩
theorem vgos_nil : VGOs X T P [] bNil 0 := by
  refine ⟨PGs.imp pgs_nil fun vs σ H Q h => ?_, fun os ε ε' h => ?_⟩
  · obtain ⟨M, F, R, ε, os, ε', ok, ro, e, post⟩ := h
    unfold bNil at e
    split at e
    · cases e
      rw [RepOs] at ro
      obtain ⟨rfl, rfl⟩ := ro
      exact ⟨rfl, post _ _ M ok (Stp.refl.wide fun a h => List.mem_append_left _ h) .refl⟩
    · cases e
  · unfold bNil at h
    split at h
    · rfl
    · cases h
theorem vgos_cons {tg : Expr} {tgs : List Expr} {b : BO} {bs : List O → Env' → Option Env'} {n : Nat} (h : VGO X T P tg b) (hr : VGOs X T P tgs bs n) (hp : (assignEach (tg :: tgs) X.env).map (·.2) = assign tg X.env :: (assignEach tgs X.env).map (·.2) := by rfl) : VGOs X T P (tg :: tgs) (bCons b bs) (n + 1) := by
  refine ⟨PGs.imp (pgs_cons h.pg hr.pg hp) fun vs σ H Q hh => ?_, fun os ε ε' hh => ?_⟩
  · obtain ⟨M, F, R, ε, os, ε', ok, ro, e, post⟩ := hh
    cases os with
    | nil => cases e
    | cons o os =>
      rw [bCons] at e
      split at e
      · rename_i ε1 e1
        rw [RepOs] at ro
        obtain ⟨v, r, F1, F2, rfl, rfl, h1, h2⟩ := ro
        have mem : ∀ a, a ∈ M ++ (F1 ++ (F2 ++ R)) ↔ a ∈ M ++ ((F1 ++ F2) ++ R) := fun a => by simp [List.append_assoc]
        rw [List.append_assoc] at ok
        refine ⟨v, r, rfl, M, F1, F2 ++ R, ε, o, ε1, ok, h1.anti (fun a h => (mem a).mp h) _ _ _, e1, fun σ1 H1 M1 k1 s1 p1 => ?_⟩
        have nd := ok.nd
        have h3 : RepOs X.K H1 (M1 ++ (F2 ++ R)) os r F2 := by
          refine h2.mono s1.keep ok.tab (fun a ha => ?_) (fun a ha => ?_) (fun a ha => ?_) _ _ _ fun a ha z => ?_
          · rcases List.mem_append.mp ha with z | z
            · exact ok.ls a (List.mem_append_left _ z)
            · exact ok.ls a (List.mem_append_right _ (List.mem_append_left _ z))
          · rcases List.mem_append.mp ha with z | z
            · exact List.mem_append_left _ z
            · exact List.mem_append_right _ (List.mem_append_left _ (List.mem_append_left _ z))
          · rcases List.mem_append.mp ha with z | z
            · rcases s1.sub a z with z | z
              · rcases List.mem_append.mp z with z | z
                · exact .inl (List.mem_append_left _ z)
                · exact .inl (List.mem_append_right _ (List.mem_append_left _ (List.mem_append_left _ z)))
              · exact .inr z
            · rcases List.mem_append.mp z with z | z
              · exact .inl (List.mem_append_right _ (List.mem_append_left _ (List.mem_append_right _ z)))
              · exact .inl (List.mem_append_right _ (List.mem_append_right _ z))
          · rcases List.mem_append.mp z with z | z
            · exact (List.nodup_append.mp nd).2.2 a z a (List.mem_append_right _ (List.mem_append_left _ ha)) rfl
            · exact (List.nodup_append.mp (List.nodup_append.mp nd).2.1).2.2 a z a (List.mem_append_left _ ha) rfl
        refine ⟨M1, F2, R, ε1, os, ε', k1, h3, e, fun σ2 H2 M2 k2 s2 p2 => post σ2 H2 M2 k2 ?_ (p1.trans p2)⟩
        have s1' : Stp T H (M ++ (F1 ++ F2)) H1 (M1 ++ F2) := by
          refine ⟨fun b o e hm ht => s1.keep b o e (fun z => hm ?_) ht, s1.live, fun a ha => ?_, s1.grow⟩
          · rcases List.mem_append.mp z with z | z
            · exact List.mem_append_left _ z
            · exact List.mem_append_right _ (List.mem_append_left _ z)
          · rcases List.mem_append.mp ha with z | z
            · rcases s1.sub a z with z | z
              · rcases List.mem_append.mp z with z | z
                · exact .inl (List.mem_append_left _ z)
                · exact .inl (List.mem_append_right _ (List.mem_append_left _ z))
              · exact .inr z
            · exact .inl (List.mem_append_right _ (List.mem_append_right _ z))
        exact s1'.trans s2
      · cases e
  · unfold bCons at hh
    split at hh
    · split at hh
      · rw [List.length_cons, hr.len _ _ _ hh]
      · cases hh
    · cases hh
@[simp] def bN (i : Nat) : BO := fun o ε => if i < ε.length then some (ε.set i (some o)) else none
theorem vgo_name {i : Nat} {x : Expr} (hP : i ∉ P) (hpg : PG X x (gName i)) : VGO X T P x (bN i) := by
  refine ⟨PG.imp hpg fun v σ H Q h => ?_⟩
  obtain ⟨M, F, R, ε, o, ε', ok, ro, e, post⟩ := h
  unfold bN at e
  split at e
  · rename_i hl
    cases e
    obtain ⟨M1, s1, k1⟩ := ok.setNone i
    have memA : ∀ a ∈ M1 ++ (F ++ R), a ∈ M ++ (F ++ R) := fun a ha => (List.mem_append.mp ha).elim (fun z => List.mem_append_left _ (s1 a z)) fun z => List.mem_append_right _ z
    obtain ⟨M2, p2, k2⟩ := k1.put (i := i) (ro.anti memA _ _ _) hl
    have m2 : ∀ a ∈ M2, a ∈ M ++ F := fun a ha => (List.mem_append.mp (p2.mem_iff.mp ha)).elim (fun z => List.mem_append_right _ z) fun z => List.mem_append_left _ (s1 a z)
    exact post _ _ M2 k2 (Stp.refl.less m2) (Same'.set hP)
  · cases e
/-- a target that takes data -/
@[simp] def bD (b : BF) : BO := fun o ε => b o.val ε
theorem RepO.data {o : O} {v : V} (ok : Ok K T H M (F ++ R) ε σ) (h : RepO K H (M ++ (F ++ R)) o v F) : Rep K H (M ++ R) o.val v :=
  h.freeze (fun a h => (List.mem_append.mp h).elim (fun z => List.mem_append_left _ z) fun z => List.mem_append_right _ (List.mem_append_right _ z)) _ _ _ fun a ha z => by
    rcases List.mem_append.mp z with z | z
    · exact ok.apart (List.mem_append_left _ ha) z
    · exact (List.nodup_append.mp (List.nodup_append.mp ok.nd).2.1).2.2 a ha a z rfl
theorem vgo_d {tg : Expr} {b : BF} (h : VG X T P tg b) : VGO X T P tg (bD b) := by
  refine ⟨PG.imp h.pg fun v σ H Q hh => ?_⟩
  obtain ⟨M, F, R, ε, o, ε', ok, ro, e, post⟩ := hh
  exact ⟨M, R, ε, o.val, ε', ok.drop, RepO.data ok ro, e, fun σ' H' M' es => post σ' H' M' es.ok (es.stp.wide fun a h => List.mem_append_left _ h) es.pr⟩
/-- m[h] = .. -/
@[simp] def bSub (m : Mp) (h : Pl) : BO := fun o ε => match m ε, h ε with
  | some (l, put), some (.fz (.int n)) => match ixN l.length n with
    | some k => some (put (l.set k o))
    | none => none
  | _, _ => none
theorem vgo_sub {m : Mp} {h : Pl} {tg : Expr} (hs : PG X tg (gSub (tM X.K T m) (tP X.K T h) rSetL)) : VGO X T P tg (bSub m h) := by
  refine ⟨PG.imp hs fun v σ H Q hh => ?_⟩
  obtain ⟨M, F, R, ε, o, ε', ok, ro, e, post⟩ := hh
  unfold bSub at e
  split at e
  · rename_i l put n e1 e2
    split at e
    · rename_i k hk
      cases e
      refine tM_of ok e1 fun a vs F' c => ⟨M, F ++ R, ε, _, ok, e2, fun w F2 r2 _ => ?_⟩
      rw [RepO, Rep] at r2
      obtain ⟨_, rfl⟩ := r2
      obtain ⟨_, hk1, _, _⟩ := ixN_seq hk
      obtain ⟨M3, c5, c6⟩ := c.stored ok.tab ro hk1
      exact ⟨a, vs, n, k, rfl, rfl, c.at_, by rw [c.rep.length]; exact hk, post σ _ M3 c5 (Stp.upd (List.mem_append_left _ c.mem) c.at_ c6) .refl⟩
    · cases e
  · cases e
/-- tg = e -/
@[simp] def sTo (f : VF) (b : BO) : SF := fun ε => match f ε with
  | some (.o o, ε1) => match b o ε1 with
    | some ε2 => some (.nx, ε2)
    | none => none
  | _ => none
theorem vs_to {tg e : Expr} {f : VF} {b : BO} {pos : Pos} (hs : PS X (.Assign [tg] e pos) (tAsg (tV X.K T f) (gO X.K T P b))) : VS X T P (.Assign [tg] e pos) (sTo f b) := by
  refine ⟨PS.imp hs fun D σ H hh => ?_⟩
  obtain ⟨M, R, ε, fl, ε', ok, hf, post⟩ := hh
  unfold sTo at hf
  split at hf
  · rename_i o ε1 h1
    split at hf
    · rename_i h2
      cases hf
      refine ⟨M, R, ε, _, _, ok, h1, fun v H1 M1 F1 p1 => ?_⟩
      have p1 : Post _ T H M R ε1 σ o v H1 M1 F1 := p1
      exact ⟨M1, F1, R, ε1, o, _, p1.ok, p1.rep, h2, fun σ' H' M' k s p => post σ' H' M' ⟨k, p1.stp.trans s, p⟩⟩
    · cases hf
  · cases hf
/-- t1, t2, .. = e1, e2, .. -/
@[simp] def sTos (fs : List VF) (bs : List O → Env' → Option Env') : SF := fun ε => match evs fs ε with
  | some (rs, ε1) => match allO rs with
    | some os => if room os.length then match bs os ε1 with
        | some ε2 => some (.nx, ε2)
        | none => none
      else none
    | none => none
  | none => none
theorem vs_tos {tgs es : List Expr} {bs : List O → Env' → Option Env'} {n : Nat} {fs : List VF} {k1 k2 : Nat} {p1 p2 pos : Pos} (hb : ∀ os ε ε', bs os ε = some ε' → os.length = n) (hs : PS X (.Assign [.Tuple tgs k1 p1] (.Tuple es k2 p2) pos) (tAsg (tTup (fun σ H Q => chain X.K T fs σ H Q)) (gTup X.K n (gOs X.K T P bs)))) : VS X T P (.Assign [.Tuple tgs k1 p1] (.Tuple es k2 p2) pos) (sTos fs bs) := by
  refine ⟨PS.imp hs fun D σ H h => ?_⟩
  obtain ⟨M, R, ε, fl, ε', ok, hf, post⟩ := h
  unfold sTos at hf
  split at hf
  · rename_i rs ε1 h1
    split at hf
    · rename_i os h2
      split at hf
      · rename_i hr
        split at hf
        · rename_i h3
          cases hf
          refine chain_of ok h1 fun vs H1 M1 F1 p => ?_
          have ho := Held.all p.rep h2
          refine ⟨by rw [ho.length]; exact room_line hr, fun q hq => ⟨q, vs, rfl, SqT.of upd_same, ho.length.trans (hb _ _ _ h3), ?_⟩⟩
          have sm : Same H1 (upd H1 q (.tup vs)) := fun b o e => by rw [upd_ne (ne_of_none e hq)]; exact e
          have ok2 := p.ok.same sm
          have ho2 : RepOs X.K (upd H1 q (.tup vs)) (M1 ++ (F1 ++ R)) os vs F1 := ho.mono (T := T) (M := []) (Keep.ofSame sm) p.ok.tab .nil (fun a h => by cases h) (fun a h => .inl h) _ _ _ fun a _ z => by cases z
          exact ⟨M1, F1, R, ε1, os, _, ok2, ho2, h3, fun σ' H' M' k s pr => post σ' H' M' ⟨k, (p.stp.trans (Stp.ofSame sm)).trans s, pr⟩⟩
        · cases hf
      · cases hf
    · cases hf
  · cases hf
end
end
end VS


set_option Elab.async false
set_option linter.all false
set_option maxRecDepth 100000
/-! VX6: sorted of a sequence, lists repeated; the rules at a place. -/
namespace VS
noncomputable section
open PySem PySem.Spec PyProof.Rows L2 GenW
section
variable {X : Cx} {T : List TK} {K : PySem.W.Frag} {P : List Nat}
@[simp] def pSorted : List D → Option O
  | [d] => match seqOf d with
    | some ds => fSort ds
    | none => none
  | _ => none
theorem Rep0.seqV {H : Hp} {A : List Addr} {d : D} {v : V} {ds : List D} (h : Rep0 K H A d v) (e : seqOf d = some ds) : ∃ a vs, v = .ref a ∧ (SqT K H a vs ∨ SqL K H a vs) ∧ Reps K H A ds vs := by
  cases d <;> first | (cases e; done) | skip
  case tup l =>
    cases e
    have h : Rep K H A (.tup _) v := h
    rw [Rep] at h
    obtain ⟨a, vs, rfl, h1, h2⟩ := h
    exact ⟨a, vs, rfl, .inl h1, h2⟩
  case lst l =>
    cases e
    obtain ⟨a, vs, rfl, h1, h2⟩ := h
    exact ⟨a, vs, rfl, .inr (SqL.of h1), h2⟩
  case scr ns =>
    cases e
    have h : Rep K H A (.scr ns) v := h
    rw [Rep] at h
    obtain ⟨a, rfl, h1⟩ := h
    exact ⟨a, _, rfl, .inr h1.sq, Reps.ints⟩
theorem cd_sorted (hu : X.A.units + 62 < cLine) : CallR X (.builtin "sorted") (rP X.K T pSorted) := by
  intro pins s σ H vs us Q I r h
  obtain ⟨A, ds, o, lA, tA, hx, hp, post⟩ := h
  unfold pSorted at hp
  split at hp
  · rename_i d
    split at hp
    · rename_i l hl
      unfold fSort at hp
      split at hp
      · rename_i hs
        cases hp
        obtain ⟨v, rfl, hv⟩ := hx.one
        obtain ⟨a, ws, rfl, hq, hr⟩ := hv.seqV hl
        have main : ∀ (its : List Value) (s1 : Shared), Vals ws its → Inv X pins σ H s1 → _ := fun its s1 rv I1 => sort_post (Q := Q) (B := X.A.in1.in1) I1 rv hr hs lA tA (by show X.A.units + 1 + 1 + 60 < cLine; omega) post
        rw [Vals.ref1 r]
        refine sorted_by ?_
        rcases hq with hq | hq
        · obtain ⟨its, rv, ⟨ob, ho, hc, n, hd⟩, hz⟩ := I.tuple hq
          have hl' := rv.length
          refine wpAny_collect_seq a (.inr rfl) ho hc hd (fun h' hk => ?_) (by rw [List.size_toArray]; omega)
          have e : its.toArray.toList = its := by simp
          rw [e]
          exact main its _ rv (I.kept (t' := s.toks) hk)
        · obtain ⟨its, rv, pl, hz⟩ := I.list hq
          obtain ⟨ob, ho, hc, n, hd⟩ := pl.isList
          have hl' := rv.length
          refine wpAny_collect_seq a (.inl rfl) ho hc hd (fun h' hk => ?_) (by rw [List.size_toArray]; omega)
          have e : its.toArray.toList = its := by simp
          rw [e]
          exact main its _ rv (I.kept (t' := s.toks) hk)
      · cases hp
    · cases hp
  · cases hp
/-! ### lists repeated -/
def repD (l : List D) (k : Int) : List D := (List.replicate k.toNat l).flatten
@[simp] def pMulL : D → D → Option O
  | .int i, .int j => if s64 i || s64 j then some (.fz (.int (i * j))) else none
  | .lst l, .int k => if small k && room (l.length * k.toNat) then some (.own ((repD l k).map O.fz)) else none
  | _, _ => none
theorem Reps.flat {H : Hp} {A : List Addr} {l : List D} {vs : List V} (h : Reps K H A l vs) : ∀ n : Nat, Reps K H A (List.replicate n l).flatten (List.replicate n vs).flatten
  | 0 => by simp [Reps]
  | n + 1 => by
    rw [List.replicate_succ, List.replicate_succ, List.flatten_cons, List.flatten_cons]
    exact h.append (Reps.flat h n)
theorem od_mulL : OpR X (binaryOp .Mult) (rP2 X.K T pMulL) := OpR.imp ((od_mul (T := T)).or op_rep) fun x y H Q h => by
  obtain ⟨A, d, e, o, lA, tA, hx, hy, hp, post⟩ := h
  unfold pMulL at hp
  split at hp
  · exact .inl ⟨A, _, _, o, lA, tA, hx, hy, hp, post⟩
  · rename_i l k
    split at hp
    · rename_i hr
      cases hp
      rw [Bool.and_eq_true] at hr
      obtain ⟨a, vs, rfl, h1, h2⟩ := hx
      obtain ⟨b1, b2⟩ := small_iff hr.1
      refine .inr ⟨a, k, vs, rfl, hy, h1, by omega, by omega, by rw [h2.length]; exact room_line hr.2, fun p hp => ?_⟩
      exact post _ _ [p] (New.lst (h2.flat _) lA tA hp)
    · cases hp
  · cases hp
end
section
variable {Pg : Program} {w : World} {K : PySem.W.Frag} {mg : Str → Option Value} {base : Heap} {N : List Str} {k j : Nat} {X : Cx} {sc scope : Scope} {fb : Str → Bool} {cv : Value} {T : List TK} {P : List Nat}
theorem CF.tupG (c : CF Pg w K mg base N k X sc fb cv) (hj : j + 6 ≤ k) {e : Expr} {m : GnF} {p pos : Pos} (h : VGn X T j e m) (hg : glB sc "tuple" = true) (hm : mg "tuple" = none)
    (he : starEach [e] X.env = (false, eval e X.env) :: starEach [] X.env := by rfl) (hpl : (backTo pos (starEach [] X.env)).any (·.1) = false := by rfl) : VE X T (.Call (.Name "tuple" p) [e] [] pos) (m stNo false fTup) := by
  obtain ⟨h1, h2⟩ := c.gl hg
  exact ve_gT (tkr_tuple (c.room.mono hj)) h h1 (by rw [c.eM]; exact hm) (by rfl) (okName_iff h2).2.2 (okName_iff h2).1 he hpl
theorem CF.sortG (c : CF Pg w K mg base N k X sc fb cv) (hj : j + 6 ≤ k) {e : Expr} {m : GnF} {p pos : Pos} (h : VGn X T j e m) (hg : glB sc "sorted" = true) (hm : mg "sorted" = none)
    (he : starEach [e] X.env = (false, eval e X.env) :: starEach [] X.env := by rfl) (hpl : (backTo pos (starEach [] X.env)).any (·.1) = false := by rfl) : VE X T (.Call (.Name "sorted" p) [e] [] pos) (m stNo false fSort) := by
  obtain ⟨h1, h2⟩ := c.gl hg
  exact ve_gB (tkr_sorted (c.room.mono hj)) h h1 (by rw [c.eM]; exact hm) (by rfl) (okName_iff h2).2.2 (okName_iff h2).1 he hpl
theorem CF.anyG (c : CF Pg w K mg base N k X sc fb cv) (hj : j + 6 ≤ k) {e : Expr} {m : GnF} {p pos : Pos} (h : VGn X T j e m) (hg : glB sc "any" = true) (hm : mg "any" = none)
    (he : starEach [e] X.env = (false, eval e X.env) :: starEach [] X.env := by rfl) (hpl : (backTo pos (starEach [] X.env)).any (·.1) = false := by rfl) : VE X T (.Call (.Name "any" p) [e] [] pos) (m (stBl true) true (fBl false)) := by
  obtain ⟨h1, h2⟩ := c.gl hg
  exact ve_gB (tkr_any (c.room.mono (by omega))) h h1 (by rw [c.eM]; exact hm) (by rfl) (okName_iff h2).2.2 (okName_iff h2).1 he hpl
theorem CF.allG (c : CF Pg w K mg base N k X sc fb cv) (hj : j + 6 ≤ k) {e : Expr} {m : GnF} {p pos : Pos} (h : VGn X T j e m) (hg : glB sc "all" = true) (hm : mg "all" = none)
    (he : starEach [e] X.env = (false, eval e X.env) :: starEach [] X.env := by rfl) (hpl : (backTo pos (starEach [] X.env)).any (·.1) = false := by rfl) : VE X T (.Call (.Name "all" p) [e] [] pos) (m (stBl false) false (fBl true)) := by
  obtain ⟨h1, h2⟩ := c.gl hg
  exact ve_gB (tkr_all (c.room.mono (by omega))) h h1 (by rw [c.eM]; exact hm) (by rfl) (okName_iff h2).2.2 (okName_iff h2).1 he hpl
theorem CF.sumG (c : CF Pg w K mg base N k X sc fb cv) (hj : j + 6 ≤ k) {e : Expr} {m : GnF} {p pos : Pos} (h : VGn X T j e m) (hg : glB sc "sum" = true) (hm : mg "sum" = none)
    (he : starEach [e] X.env = (false, eval e X.env) :: starEach [] X.env := by rfl) (hpl : (backTo pos (starEach [] X.env)).any (·.1) = false := by rfl) : VE X T (.Call (.Name "sum" p) [e] [] pos) (m stInt false fSum) := by
  obtain ⟨h1, h2⟩ := c.gl hg
  exact ve_gB (tkr_sum (c.room.mono (by omega))) h h1 (by rw [c.eM]; exact hm) (by rfl) (okName_iff h2).2.2 (okName_iff h2).1 he hpl
theorem CF.sorted (c : CF Pg w K mg base N k X sc fb cv) {e : Expr} {fs : List VF} {pn pos : Pos} (hg : glB sc "sorted" = true) (hm : mg "sorted" = none) (ha : VA X T [e] fs)
    (he : starEach [e] X.env = (false, eval e X.env) :: starEach [] X.env := by rfl) (hpl : (backTo pos (starEach [] X.env)).any (·.1) = false := by rfl) : VE X T (.Call (.Name "sorted" pn) [e] [] pos) (vPrim pSorted fs) :=
  c.cb (cd_sorted (by have := c.hu; omega)) hg hm (by rfl) ha he hpl
/-! ### paths -/
theorem CF.m1 (c : CF Pg w K mg base N k X sc fb cv) {i : Nat} {x : Str} {np : Pos} (h : rdB N sc i x = true) : VM X T (.Name x np) (m1 i) := vm1 (c.tv h)
theorem CF.m2 (c : CF Pg w K mg base N k X sc fb cv) {i : Nat} {x : Str} {np pos : Pos} {j : Expr} {g : Pl} (h : rdB N sc i x = true) (hj : VP X T j g) (hpl : PlainIx j) : VM X T (.Subscript (.Name x np) j pos) (m2 i g) := vm2 (c.tv h) hj hpl
theorem VM.pop {o : Expr} {m : Mp} {apos cpos : Pos} (h : VM X T o m) (hbase : attributeBase o "pop" X.env (eval o X.env) = eval o X.env := by rfl) (hline : (apos.endLine == cpos.line) = true := by rfl) : VE X T (.Call (.Attribute o "pop" apos) [] [] cpos) (vMpop m) :=
  ve_mpop (pe_bm0 PySem.F.plainAttrs_list PySem.F.slot_list_pop PySem.F.type_list_pop mt_pop h.pe hbase hline)
theorem VM.reverse {o : Expr} {m : Mp} {apos cpos : Pos} (h : VM X T o m) (hbase : attributeBase o "reverse" X.env (eval o X.env) = eval o X.env := by rfl) (hline : (apos.endLine == cpos.line) = true := by rfl) : VE X T (.Call (.Attribute o "reverse" apos) [] [] cpos) (vMrev m) :=
  ve_mrev (pe_bm0 PySem.F.plainAttrs_list PySem.F.slot_list_reverse PySem.F.type_list_reverse mt_reverse h.pe hbase hline)
/-! ### targets -/
theorem CF.to1 (c : CF Pg w K mg base N k X sc fb cv) {i : Nat} {x : Str} {pos : Pos} (h : stB N sc fb i x = true) (hP : i ∉ P) : VGO X T P (.Name x pos) (bN i) := by
  obtain ⟨h1, h2, h3, h4⟩ := c.loc h
  exact vgo_name hP (pg_name h1 h2 h3 h4)
theorem VM.to {o j : Expr} {m : Mp} {g : Pl} {pos : Pos} (h : VM X T o m) (hj : VP X T j g)
    (ha : ∀ v, assign (.Subscript o j pos) X.env v = (do
      let ov ← holding [v] (eval o X.env)
      let iv ← holding [v, ov] (eval j X.env)
      standAt pos
      holding [v, ov, iv] (setItem ov iv v)
      release [v, ov, iv] []) := by intro _; rfl) : VGO X T P (.Subscript o j pos) (bSub m g) := vgo_sub (pg_sub h.pe hj.pe set_list ha)
theorem CF.sto (c : CF Pg w K mg base N k X sc fb cv) {tg e : Expr} {f : VF} {b : BO} {pos : Pos} (he : VE X T e f) (hg : VGO X T P tg b) (hs : swapsWithSole [tg] e pos.line X.env = pure false := by rfl) (hw : swappedStores [tg] e X.env = pure none := by rfl)
    (h1 : (assignEach [tg] X.env).map (·.2) = [assign tg X.env] := by rfl) : VS X T P (.Assign [tg] e pos) (sTo f b) := vs_to (ps_asg he.pe hg.pg hs hw h1)
theorem CF.stos (c : CF Pg w K mg base N k X sc fb cv) {tgs es : List Expr} {bs : List O → Env' → Option Env'} {n : Nat} {fs : List VF} {k1 k2 : Nat} {p1 p2 pos : Pos} (hg : VGOs X T P tgs bs n) (he : VA X T es fs) (hw : swappedStores [.Tuple tgs k1 p1] (.Tuple es k2 p2) X.env = pure none)
    (hl : (assignEach tgs X.env).length = n := by rfl) (hst : (assignEach tgs X.env).findIdx? (·.1) = none := by rfl) (hs : swapsWithSole [.Tuple tgs k1 p1] (.Tuple es k2 p2) pos.line X.env = pure false := by rfl)
    (h1 : (assignEach [.Tuple tgs k1 p1] X.env).map (·.2) = [assign (.Tuple tgs k1 p1) X.env] := by rfl) : VS X T P (.Assign [.Tuple tgs k1 p1] (.Tuple es k2 p2) pos) (sTos fs bs) :=
  vs_tos hg.len (ps_asg (pe_tup he.pa) (pg_tup c.calm hg.pg hl hst) hs hw h1)
end
end
end VS


set_option Elab.async false
set_option linter.all false
set_option maxRecDepth 100000
/-! VX7: a law's end. -/
namespace VS
noncomputable section
open PySem PySem.Spec PyProof.Rows L2
/-- a def of the text, as the head's facts tell it -/
def dfOf (x : Str) (st : Stmt) : He.DefD := ⟨(x, none), x, x, defArgs st, defBody st, defScope st, [], []⟩
theorem fun_of {K : PySem.W.Frag} {x : Str} {st : Stmt} {f : Addr} {fd : FuncData} (F : FunD K x x (defArgs st) (defBody st) (defScope st) [] [] f fd) : Fun K x x st f fd := by
  obtain ⟨oc, od, dV, kV, doc, pm, an, cdv, ct, osl, e, lk, hc, hd, hk⟩ := F.ex
  have e2 : dV = .none := by
    rcases hd with ⟨_, h⟩ | ⟨h, _⟩
    · exact h
    · exact absurd rfl h
  subst e2
  exact ⟨⟨oc, od, kV, doc, pm, an, cdv, ct, osl, e, lk, hc⟩, F.kp⟩
/-- the code objects of the defs tf -/
def tkOf (K : PySem.W.Frag) (tf : List He.Defn) : List TK := tf.map fun p => ⟨(He.cT K p).1, (He.cT K p).2, false⟩
theorem kt_of {K : PySem.W.Frag} {base : Heap} {mg : Str → Option Value} {x : Str} {st : Stmt} {fd : FuncData} {tf : List He.Defn} (F : Fun K x x st (He.fAd K (x, none)) fd) (hm : (x, none) ∈ tf) (tb : ∀ p ∈ tf.map (He.cT K), LamX.TabB base mg p.1 p.2) : KT base (tkOf K tf) fd.code := by
  obtain ⟨oc, od, kV, doc, pm, an, cdv, ct, osl, e, lk, hc⟩ := F.ex
  subst e
  obtain ⟨c, e⟩ := He.codeIn_ref hc
  have e2 := He.codeOf_eq (p := (x, none)) (c := c) lk e
  refine ⟨⟨(He.cT K (x, none)).1, (He.cT K (x, none)).2, false⟩, List.mem_map.mpr ⟨_, hm, rfl⟩, ?_, fun _ => ?_⟩
  · show cdv = .ref (He.codeOf K (x, none))
    rw [e2]
    exact e
  · have t := tb (He.cT K (x, none)) (List.mem_map.mpr ⟨_, hm, rfl⟩)
    exact ⟨t.code, t.gP⟩
theorem bm_of {K : PySem.W.Frag} {base : Heap} {mg : Str → Option Value} {tf : List He.Defn} (hm : tf ≠ []) (tb : ∀ p ∈ tf.map (He.cT K), LamX.TabB base mg p.1 p.2) : BM base mg := by
  cases tf with
  | nil => exact absurd rfl hm
  | cons p tf => exact ⟨_, (tb (He.cT K p) (by simp)).bm⟩
theorem tkOf_ok {K : PySem.W.Frag} {H : Hp} {tf : List He.Defn} (h : ∀ p ∈ tf.map (He.cT K), H p.2 = some (.tbl #[])) : ∀ t ∈ tkOf K tf, t.dyn = false ∧ H t.P = some (.tbl #[]) := fun t ht => by
  obtain ⟨p, hp, rfl⟩ := List.mem_map.mp ht
  exact ⟨rfl, h _ (List.mem_map.mpr ⟨p, hp, rfl⟩)⟩
/-- the law's promise at the head's heap -/
theorem law_at {l : PySem.W.OpenLaw} {w : World} {K : PySem.W.Frag} {k : Nat} {mg : Str → Option Value} {fa : Addr} {h : Heap} {tf : List He.Defn} {fa' : List He.Fa} {fn : List He.DefD} {ts : List He.Tab} {ex : PySem.W.Frag → Bool} {F : Fn} {fd : FuncData} (KX : K.In h) (c : He.SaysX fa' fn ts tf ex w h K)
    (hb : ∀ (s : Shared) (u : Value), BindsTo s fd ⟨[u], []⟩ [("script", u)]) (hF : ∀ ns : List Int, ns.length ≤ 63 → (∀ z ∈ ns, Builtin.Int.intBits z ≤ 1048576) → ∃ fin, F [.fz (.scr ns)] = some (.fz (.bl true), fin))
    (ok : ∀ base : Heap, K.In base → base.Ns mainGlobals mg → (∀ p ∈ tf.map (He.cT K), LamX.TabB base mg p.1 p.2) → FnOk l.prog w K mg base CX0 k fa fd ["script"] (spF K (tkOf K tf) 1 F)) : LamX.LawAtS l w K CX0 k 63 "script" mg fa h := by
  refine ⟨fd, tf.map (He.cT K), spF K (tkOf K tf) 1 F, fun p hp => ?_, fun p hp => ?_, fun p hp => ?_, hb, fun H a ns hl hbits hH hS => ?_, ok⟩
  · obtain ⟨q, hq, rfl⟩ := List.mem_map.mp hp
    exact c.empty q hq
  · obtain ⟨q, hq, rfl⟩ := List.mem_map.mp hp
    exact c.out q hq
  · obtain ⟨q, hq, rfl⟩ := List.mem_map.mp hp
    exact PySem.W.codeHd_of_K KX (c.hd q hq)
  · obtain ⟨fin, e⟩ := hF ns hl hbits
    exact law_sp e hS (tkOf_ok hH)
end
end VS


set_option Elab.async false
set_option linter.all false
set_option maxRecDepth 100000
/-! VX8: slots forgotten behind a block. -/
namespace VS
noncomputable section
open PySem PySem.Spec PyProof.Rows L2
@[simp] def sWipe (ws : List Nat) (f : SF) : SF := fun ε => match f ε with
  | some (fl, ε1) => some (fl, wipeE ε1 ws)
  | none => none
section
variable {K : PySem.W.Frag} {T : List TK} {P : List Nat} {H H' : Hp} {M M' R F : List Addr} {ε ε' : Env'} {σ σ' : L2.St} {X : Cx}
theorem After.wipe {D : Ends} {fl : Fl} {ws : List Nat} (h : After K T P D σ H M R fl (wipeE ε ws)) : After K T P D σ H M R fl ε := by
  have go : ∀ {σ' H' M'}, EndS K T P H M R ε σ σ' H' M' → ∃ M'', EndS K T P H M R (wipeE ε ws) σ σ' H' M'' := fun {σ' H' M'} e =>
    let ⟨M'', s, k⟩ := e.ok.wiped ws
    ⟨M'', k, e.stp.less s, e.pr⟩
  cases fl with
  | nx => exact fun σ' H' M' e => let ⟨_, e'⟩ := go e; h σ' H' _ e'
  | bk => exact fun σ' H' M' e => let ⟨_, e'⟩ := go e; h σ' H' _ e'
  | ct => exact fun σ' H' M' e => let ⟨_, e'⟩ := go e; h σ' H' _ e'
  | rt o =>
    exact fun σ' v H' M' F e => by
      obtain ⟨M'', s, k⟩ := e.post.ok.wiped ws
      refine h σ' v H' M'' F ⟨⟨k, e.post.stp.less fun a ha => ?_, e.post.rep.anti (fun a ha => ?_) _ _ _⟩, e.pr⟩
      · exact (List.mem_append.mp ha).elim (fun z => List.mem_append_left _ (s a z)) fun z => List.mem_append_right _ z
      · exact (List.mem_append.mp ha).elim (fun z => List.mem_append_left _ (s a z)) fun z => List.mem_append_right _ z
theorem vss_wipe (ws : List Nat) {st : List Stmt} {f : SF} (h : VSs X T P st f) : VSs X T P st (sWipe ws f) := by
  refine ⟨PSs.imp h.ps fun D σ H hh => ?_⟩
  obtain ⟨M, R, ε, fl, ε', ok, hf, post⟩ := hh
  unfold sWipe at hf
  split at hf
  · rename_i fl1 ε1 h1
    cases hf
    exact ⟨M, R, ε, fl, ε1, ok, h1, After.wipe post⟩
  · cases hf
theorem vs_wipe (ws : List Nat) {st : Stmt} {f : SF} (h : VS X T P st f) : VS X T P st (sWipe ws f) := by
  refine ⟨PS.imp h.ps fun D σ H hh => ?_⟩
  obtain ⟨M, R, ε, fl, ε', ok, hf, post⟩ := hh
  unfold sWipe at hf
  split at hf
  · rename_i fl1 ε1 h1
    cases hf
    exact ⟨M, R, ε, fl, ε1, ok, h1, After.wipe post⟩
  · cases hf
/-! ### slots frozen -/
@[simp] def frzE (ε : Env') (i : Nat) : Env' := match ε[i]? with
  | some (some o) => ε.set i (some (.fz o.val))
  | _ => ε
@[simp] def sFz (i : Nat) (f : SF) : SF := fun ε => match f ε with
  | some (fl, ε1) => some (fl, frzE ε1 i)
  | none => none
theorem Ok.frzE (k : Ok K T H M R ε σ) (i : Nat) : ∃ M', (∀ a ∈ M', a ∈ M) ∧ Ok K T H M' R (VS.frzE ε i) σ := by
  unfold VS.frzE
  split
  · rename_i o e
    obtain ⟨v, M', h1, h2, h3, h4⟩ := k.frozen e
    exact ⟨M', h2, h3⟩
  · exact ⟨M, fun _ h => h, k⟩
theorem After.frz {D : Ends} {fl : Fl} {i : Nat} (h : After K T P D σ H M R fl (VS.frzE ε i)) : After K T P D σ H M R fl ε := by
  have go : ∀ {σ' H' M'}, EndS K T P H M R ε σ σ' H' M' → ∃ M'', EndS K T P H M R (VS.frzE ε i) σ σ' H' M'' := fun {σ' H' M'} e =>
    let ⟨M'', s, k⟩ := e.ok.frzE i
    ⟨M'', k, e.stp.less s, e.pr⟩
  cases fl with
  | nx => exact fun σ' H' M' e => let ⟨_, e'⟩ := go e; h σ' H' _ e'
  | bk => exact fun σ' H' M' e => let ⟨_, e'⟩ := go e; h σ' H' _ e'
  | ct => exact fun σ' H' M' e => let ⟨_, e'⟩ := go e; h σ' H' _ e'
  | rt o =>
    exact fun σ' v H' M' F e => by
      obtain ⟨M'', s, k⟩ := e.post.ok.frzE i
      refine h σ' v H' M'' F ⟨⟨k, e.post.stp.less fun a ha => ?_, e.post.rep.anti (fun a ha => ?_) _ _ _⟩, e.pr⟩
      · exact (List.mem_append.mp ha).elim (fun z => List.mem_append_left _ (s a z)) fun z => List.mem_append_right _ z
      · exact (List.mem_append.mp ha).elim (fun z => List.mem_append_left _ (s a z)) fun z => List.mem_append_right _ z
theorem vs_fz (i : Nat) {st : Stmt} {f : SF} (h : VS X T P st f) : VS X T P st (sFz i f) := by
  refine ⟨PS.imp h.ps fun D σ H hh => ?_⟩
  obtain ⟨M, R, ε, fl, ε', ok, hf, post⟩ := hh
  unfold sFz at hf
  split at hf
  · rename_i fl1 ε1 h1
    cases hf
    exact ⟨M, R, ε, fl, ε1, ok, h1, After.frz post⟩
  · cases hf
end
end
end VS


set_option Elab.async false
set_option linter.all false
set_option maxRecDepth 100000
/-! VX9: short names. -/
namespace VS
noncomputable section
open PySem PySem.Spec PyProof.Rows L2
@[simp] def gx1 (n : Nat) (own : List Nat) (it : IF) (b : BF) (c : TF) (f : VF) : GnF := fun stop sv fin => vGx n own stop sv fin it b c f
@[simp] def gx2 (n : Nat) (own own1 : List Nat) (it : IF) (b : BF) (c : TF) (it1 : IF) (b1 : BF) (c1 : TF) (f : VF) : GnF := fun stop sv fin => vGx2 n own own1 stop sv fin it b c it1 b1 c1 f
end
end VS


set_option Elab.async false
set_option linter.all false
set_option maxRecDepth 100000
/-! VX10: plain lemmas. -/
namespace VS
noncomputable section
open PySem PySem.Spec PyProof.Rows L2
theorem mk_rt {n N : Nat} {P : List Nat} {body : SF} {os : List O} {o : O} {ε : Env'} (hl : os.length = n) (h : body (os.map some ++ List.replicate (N - n) none) = some (.rt o, ε)) : mkFn n N P body os = some (o, wipeE (ε.take n) (notIn P n)) := by
  unfold mkFn
  rw [if_pos hl, h]
theorem mk_nx {n N : Nat} {P : List Nat} {body : SF} {os : List O} {ε : Env'} (hl : os.length = n) (h : body (os.map some ++ List.replicate (N - n) none) = some (.nx, ε)) : mkFn n N P body os = some (.fz .non, wipeE (ε.take n) (notIn P n)) := by
  unfold mkFn
  rw [if_pos hl, h]
theorem flatD_app : ∀ (l : List D) (m : List O), flatD (l.map O.fz ++ m) = (flatD m).map (l ++ ·)
  | [], m => by
    rw [List.map_nil, List.nil_append]
    cases flatD m <;> rfl
  | d :: l, m => by
    have ih := flatD_app l m
    rw [List.map_cons, List.cons_append, flatD, ih]
    cases flatD m <;> rfl
@[simp] theorem flatD_app1 {α : Type} (f : α → D) (l : List α) (d : D) : flatD (l.map (fun i => O.fz (f i)) ++ [O.fz d]) = some (l.map f ++ [d]) := by
  have h := flatD_app (l.map f) [O.fz d]
  rw [List.map_map] at h
  exact h
@[simp] theorem erase_last1 {α β : Type} (f : α → β) (l : List α) (x : β) : (List.map f l ++ [x]).eraseIdx l.length = List.map f l := by
  have h := eraseIdx_last (List.map f l ++ [x])
  rw [List.length_append, List.length_map] at h
  have e : l.length + [x].length - 1 = l.length := by simp
  rw [e] at h
  rw [h, List.dropLast_concat]
@[simp] theorem vals_append (l m : List O) : O.vals (l ++ m) = O.vals l ++ O.vals m := by
  rw [O.vals_map, O.vals_map, O.vals_map, List.map_append]
@[simp] theorem vals_comp {α : Type} (f : α → D) (l : List α) : O.vals (l.map (O.fz ∘ f)) = l.map f := vals_ints f l
/-- a comprehension whose elements are made one by one -/
theorem lc_gen {α : Type} {own : List Nat} {b : BF} {f : VF} (g : α → O) (Q : α → Prop) (Inv : Env' → Prop) : ∀ {ds : List D}, (∀ d ∈ ds, ∀ ε, Inv ε → ∃ ε1 x ε2, b d ε = some ε1 ∧ f ε1 = some (.o (g x), ε2) ∧ Q x ∧ Inv (wipeE ε2 own)) →
    ∀ ε, Inv ε → ∃ (xs : List α) (ε' : Env'), xs.length = ds.length ∧ (∀ x ∈ xs, Q x) ∧ lcRun own b tYes' f ds ε = some (xs.map g, ε') ∧ Inv ε'
  | [], _, ε, h => ⟨[], ε, rfl, by simp, rfl, h⟩
  | d :: ds, step, ε, h => by
    obtain ⟨ε1, x, ε2, h1, h2, h3, h4⟩ := step d (by simp) ε h
    obtain ⟨xs, ε3, k1, k2, k3, k4⟩ := lc_gen g Q Inv (ds := ds) (fun e he => step e (by simp [he])) _ h4
    refine ⟨x :: xs, ε3, by simp [k1], fun y hy => ?_, ?_, k4⟩
    · rcases List.mem_cons.1 hy with rfl | hy
      · exact h3
      · exact k2 y hy
    · rw [lcRun]
      simp only [h1, tYes', h2, k3, List.map_cons]
/-- a loop, what stands at each place of the walk -/
theorem for_gen {b : BF} {body : SF} (Inv : Nat → Env' → Prop) : ∀ {ds : List D} (k : Nat), (∀ i (h : i < ds.length), ∀ ε, Inv (k + i) ε → ∃ ε1 ε2, b ds[i] ε = some ε1 ∧ (body ε1 = some (.nx, ε2) ∨ body ε1 = some (.ct, ε2)) ∧ Inv (k + i + 1) ε2) →
    ∀ ε, Inv k ε → ∃ ε', forRun b body ds ε = some (.nx, ε') ∧ Inv (k + ds.length) ε'
  | [], k, _, ε, h => ⟨ε, rfl, h⟩
  | d :: ds, k, step, ε, h => by
    obtain ⟨ε1, ε2, h1, h2, h3⟩ := step 0 (by simp) ε h
    obtain ⟨ε3, h4, h5⟩ := for_gen Inv (ds := ds) (k + 1) (fun i hi ε he => by
      have e : k + 1 + i = k + (i + 1) := by omega
      obtain ⟨a, c, q1, q2, q3⟩ := step (i + 1) (by simpa using hi) ε (by rw [← e]; exact he)
      exact ⟨a, c, by simpa using q1, q2, by rw [e]; exact q3⟩) ε2 h3
    refine ⟨ε3, ?_, by rw [List.length_cons, show k + (ds.length + 1) = k + 1 + ds.length by omega]; exact h5⟩
    rw [forRun]
    have h1' : b d ε = some ε1 := h1
    rcases h2 with h2 | h2 <;> simp only [h1', h2, h4]
theorem rng_nat (n : Nat) : rng 0 n = (List.range n).map fun k : Nat => D.int (k : Int) := rng0 n
theorem erase_map {α β : Type} (f : α → β) : ∀ (l : List α) (k : Nat), (l.map f).eraseIdx k = (l.eraseIdx k).map f
  | [], _ => rfl
  | _ :: _, 0 => rfl
  | x :: l, k + 1 => by rw [List.map_cons, List.eraseIdx_cons_succ, List.eraseIdx_cons_succ, List.map_cons, erase_map f l k]
/-- a generator's elements that change nothing -/
theorem gr_all {α : Type} {own : List Nat} {stop : D → Option Bool} {b : BF} {f : VF} {ε : Env'} (d : α → D) (g : α → O) : ∀ {l : List α}, (∀ x ∈ l, ∃ ε1, b (d x) ε = some ε1 ∧ f ε1 = some (.o (g x), ε1) ∧ stop (g x).val = some false ∧ wipeE ε1 own = ε) →
    gRun own stop b tYes' f (l.map d) ε = some (false, l.map (fun x => (g x).val), ε)
  | [], _ => rfl
  | x :: l, h => by
    obtain ⟨ε1, h1, h2, h3, h4⟩ := h x (by simp)
    have ih := gr_all (own := own) (stop := stop) (b := b) (f := f) (ε := ε) d g (l := l) fun y hy => h y (by simp [hy])
    rw [List.map_cons, gRun]
    simp only [h1, tYes', h2, h3, h4, ih, List.map_cons]
@[simp] theorem seqOf_lst (l : List D) : seqOf (.lst l) = some l := rfl
@[simp] theorem seqOf_tup (l : List D) : seqOf (.tup l) = some l := rfl
@[simp] theorem seqOf_scr (l : List Int) : seqOf (.scr l) = some (l.map D.int) := rfl
end
end VS


set_option Elab.async false
set_option linter.all false
set_option maxRecDepth 100000
/-! VX11: list comprehensions of two clauses. -/
namespace VS
noncomputable section
open PySem PySem.Spec PyProof.Rows L2
@[simp] def fLst : List D → Option O := fun ds => some (.own (ds.map O.fz))
/-- the list d grows -/
structure LcS (K : PySem.W.Frag) (T : List TK) (H1 : Hp) (M1 R : List Addr) (d : Addr) (H : Hp) (M : List Addr) (ε : Env') (σ' : L2.St) (acc : List D) (ys : List V) : Prop where
  ok : Ok K T H M ([d] ++ R) ε σ'
  stp : Stp T H1 M1 H (M ++ [d])
  at_ : H d = some (.lst ys)
  acc : Reps K H (M ++ ([d] ++ R)) acc ys
section
variable {K : PySem.W.Frag} {T : List TK} {P : List Nat} {H H' H'' H1 : Hp} {M M' M'' M1 R R' F F' A A' : List Addr} {ε ε' : Env'} {σ σ' σ'' : L2.St} {X : Cx} {d : Addr} {acc : List D} {ys : List V}
theorem LcS.step {σ2 : L2.St} (k : LcS K T H1 M1 R d H M ε σ' acc ys) (hk : Ok K T H' M' ([d] ++ R) ε' σ2) (hs : Stp T H M H' M') : LcS K T H1 M1 R d H' M' ε' σ2 acc ys :=
  ⟨hk, k.stp.trans (hs.more [d]), hs.keep d _ k.at_ (k.ok.apart (List.mem_append_left _ List.mem_cons_self)) (k.ok.tab.nlst k.at_), k.acc.later hs k.ok.tab k.ok.ls1⟩
theorem LcS.wiped (k : LcS K T H1 M1 R d H M ε σ' acc ys) (vs : List Nat) : ∃ M', (∀ a ∈ M', a ∈ M) ∧ LcS K T H1 M1 R d H M' (wipeE ε vs) (L2.wipe σ' vs) acc ys :=
  let ⟨M', s, k'⟩ := k.ok.wipe vs
  ⟨M', s, k', k.stp.less fun a h => (List.mem_append.mp h).elim (fun z => List.mem_append_left _ (s a z)) fun z => List.mem_append_right _ z, k.at_, k.acc.anti (fun a h => (List.mem_append.mp h).elim (fun z => List.mem_append_left _ (s a z)) fun z => List.mem_append_right _ z) _ _⟩
theorem LcS.unwiped {vs : List Nat} (k : LcS K T H1 M1 R d H M (wipeE ε vs) (L2.wipe σ' vs) acc ys) : LcS K T H1 M1 R d H M (wipeE ε vs) σ' acc ys := ⟨Ok.unwipe vs k.ok, k.stp, k.at_, k.acc⟩
theorem LcS.push {x : D} {y : V} (k : LcS K T H1 M1 R d H M ε σ' acc ys) (h : Rep K H (M ++ ([d] ++ R)) x y) (hd : H1 d = none) : LcS K T H1 M1 R d (L2.upd H d (.lst (ys ++ [y]))) M ε σ' (acc ++ [x]) (ys ++ [y]) := by
  have hR : d ∈ [d] ++ R := List.mem_append_left _ List.mem_cons_self
  have hA : ∀ a ∈ [d], a ∈ M ++ ([d] ++ R) := fun a h => List.mem_append_right _ (List.mem_append_left _ h)
  refine ⟨k.ok.upd hR, ⟨fun b o e hm ht => ?_, fun b o e => ?_, k.stp.sub, fun b ps e => ?_⟩, upd_same, (k.acc.append (by rw [Reps]; exact ⟨y, [], rfl, h, by rw [Reps]⟩)).mono (T := T) keep_upd k.ok.tab (lists1 k.at_) hA (fun a h => .inl h) _ _⟩
  · rw [upd_ne (ne_of_none e hd)]
    exact k.stp.keep b o e hm ht
  · obtain ⟨o', e'⟩ := k.stp.live b o e
    by_cases q : b = d
    · exact ⟨_, by rw [q]; exact upd_same⟩
    · exact ⟨o', by rw [upd_ne q]; exact e'⟩
  · obtain ⟨more, m⟩ := k.stp.grow b ps e
    exact ⟨more, by rw [upd_ne (ne_of_none e hd)]; exact m⟩
theorem gRun_no {own : List Nat} {b : BF} {c : TF} {f : VF} : ∀ {ds : List D} {ε ε2 : Env'} {z : Bool} {os : List D}, gRun own stNo b c f ds ε = some (z, os, ε2) → z = false
  | [], ε, ε2, z, os, h => by cases h; rfl
  | d :: ds, ε, ε2, z, os, h => by
    rw [gRun] at h
    split at h
    · cases h
    · split at h
      · split at h
        · split at h
          · rename_i h8; cases h8
          · split at h
            · rename_i h8
              cases h
              exact gRun_no h8
            · cases h
          · cases h
        · cases h
      · exact gRun_no h
      · cases h
theorem gRun2_no {own own1 : List Nat} {b : BF} {c : TF} {it1 : IF} {b1 : BF} {c1 : TF} {f : VF} : ∀ {ds : List D} {ε ε2 : Env'} {z : Bool} {os : List D}, gRun2 own own1 stNo b c it1 b1 c1 f ds ε = some (z, os, ε2) → z = false
  | [], ε, ε2, z, os, h => by cases h; rfl
  | d :: ds, ε, ε2, z, os, h => by
    rw [gRun2] at h
    split at h
    · cases h
    · split at h
      · split at h
        · split at h
          · rename_i h8; cases gRun_no h8
          · split at h
            · rename_i h8
              cases h
              exact gRun2_no h8
            · cases h
          · cases h
        · cases h
      · exact gRun2_no h
      · cases h
theorem lc2_of {it it1 : IF} {b b1 : BF} {c c1 : TF} {f : VF} {own own1 : List Nat} {n : Nat} {P' P1 : List Nat} (hP : ∀ i, i < n → i ∉ own → i ∈ P') (hP1 : ∀ i, i < n → i ∉ own1 → i ∈ P1) {H : Hp} {Q : L2.VK}
    (h : tV K T (vGx2 n own own1 stNo false fLst it b c it1 b1 c1 f) σ H Q) : tLc2 (wI K T it) (gB K T P' b) (tT K T c) (wI K T it1) (gB K T P1 b1) (tT K T c1) (tV K T f) own own1 σ H Q := by
  obtain ⟨M, R, ε, r, ε', ok, hf, post⟩ := h
  unfold vGx2 at hf
  cases h1 : it ε with
  | none => simp only [h1] at hf; cases hf
  | some q =>
  obtain ⟨ds, ε1⟩ := q
  simp only [h1] at hf
  by_cases hc : (clearable own ε1 && decide (ε1.length = n)) = true
  rotate_left
  · rw [if_neg hc] at hf; cases hf
  rw [if_pos hc] at hf
  rw [Bool.and_eq_true] at hc
  obtain ⟨hcl, hn⟩ := hc
  have hn : ε1.length = n := of_decide_eq_true hn
  cases h2 : gRun2 own own1 stNo b c it1 b1 c1 f ds (wipeE ε1 own) with
  | none => rw [h2] at hf; cases hf
  | some q =>
  obtain ⟨z, os, ε2⟩ := q
  simp only [h2] at hf
  by_cases hroom : room os.length = true
  rotate_left
  · rw [if_neg hroom] at hf; cases hf
  rw [if_pos hroom] at hf
  have hz := gRun2_no h2
  subst hz
  cases hf
  have hline := room_line hroom
  refine ⟨M, R, ε, ds, ε1, ok, h1, fun H1 M1 J ok1 st1 hJ => fun d hd => ?_⟩
  have hσ : σ.length = n := ok1.len.trans hn
  have sm : Same H1 (L2.upd H1 d (.lst [])) := fun b o e => by rw [upd_ne (ne_of_none e hd)]; exact e
  have okd : Ok K T (L2.upd H1 d (.lst [])) M1 ([d] ++ R) ε1 σ := ok1.new sm (F := [d]) (fun a ha => by
    have e : a = d := by simpa using ha
    rw [e]; exact hd) (by simp) fun a ha => by
    have e : a = d := by simpa using ha
    subst e
    exact ⟨[], upd_same⟩
  have k0 : LcS K T H1 M1 R d (L2.upd H1 d (.lst [])) M1 ε1 σ [] [] := ⟨okd, ⟨Keep.ofSame sm, fun b o e => ⟨o, sm _ _ e⟩, fun a ha => (List.mem_append.mp ha).elim .inl fun z => .inr (by
    have e : a = d := by simpa using z
    rw [e]; exact hd), growS sm⟩, upd_same, by rw [Reps]⟩
  obtain ⟨M2, _, k2⟩ := k0.wiped own
  have jStp : ∀ {H3 M3 ε3 σ3 acc ys}, LcS K T H1 M1 R d H3 M3 ε3 σ3 acc ys → Stp T H1 (M1 ++ R) H3 ((M3 ++ [d]) ++ R) := fun k => k.stp.more R
  have jLs : ∀ {H3 M3 ε3 σ3 acc ys}, LcS K T H1 M1 R d H3 M3 ε3 σ3 acc ys → Lists H3 ((M3 ++ [d]) ++ R) := fun k => by rw [List.append_assoc]; exact k.ok.ls
  refine ⟨fun i m H3 => ∃ M3 ε3 acc rest ys, m = ds.length - i ∧ i ≤ ds.length ∧ LcS K T H1 M1 R d H3 M3 (wipeE ε3 own) (L2.wipe σ own) acc ys ∧ gRun2 own own1 stNo b c it1 b1 c1 f (ds.drop i) (wipeE ε3 own) = some (false, rest, ε2) ∧ os = acc ++ rest, ⟨ds.length, M2, ε1, [], os, [], rfl, Nat.zero_le _, k2, h2, rfl⟩, fun i m H3 hW => ?_⟩
  obtain ⟨M3, ε3, acc, rest, ys, rfl, hi, k3, hr, hos⟩ := hW
  have hj := hJ H3 (M3 ++ [d]) i (jStp k3) k3.ok.tab (jLs k3)
  cases hdi : ds[i]? with
  | none =>
    have hle : ds.length ≤ i := List.getElem?_eq_none_iff.mp hdi
    refine .inl ⟨hj.2 hle, ?_⟩
    rw [List.drop_of_length_le hle] at hr
    cases hr
    rw [List.append_nil] at hos
    subst hos
    have k4 := k3.unwiped
    obtain ⟨M4, s4, k5⟩ := Ok.restore (F := [d]) ok1 (k4.stp.less fun a h => List.mem_append_left _ h) own hcl (fun a h => h) k4.ok fun a ha => k4.stp.sub a (List.mem_append_right _ ha)
    have st4 : Stp T H M H3 (M4 ++ [d]) := st1.trans (k4.stp.less fun a h => (List.mem_append.mp h).elim (fun z => List.mem_append_left _ (s4 a z)) fun z => List.mem_append_right _ z)
    refine post _ H3 M4 [d] ⟨k5, st4, ?_⟩
    rw [RepO]
    exact ⟨d, ys, [], rfl, k4.at_, rfl, RepOs.data (k4.acc.anti (fun a h => (List.mem_append.mp h).elim (fun z => List.mem_append_left _ (s4 a z)) fun z => List.mem_append_right _ z) _ _)⟩
  | some x0 =>
  obtain ⟨hlt, hget⟩ := List.getElem?_eq_some_iff.mp hdi
  obtain ⟨go, yl⟩ := hj.1 x0 hdi
  refine .inr ⟨go, fun H4 => ∃ M4 ε4 acc4 rest4 ys4, LcS K T H1 M1 R d H4 M4 (wipeE ε4 own) (L2.wipe σ own) acc4 ys4 ∧ gRun2 own own1 stNo b c it1 b1 c1 f (ds.drop (i + 1)) (wipeE ε4 own) = some (false, rest4, ε2) ∧ os = acc4 ++ rest4,
    fun H4 ⟨M4, ε4, acc4, rest4, ys4, q1, q2, q3⟩ => ⟨ds.length - (i + 1), by omega, M4, ε4, acc4, rest4, ys4, rfl, by omega, q1, q2, q3⟩, fun x H4 hy => ?_⟩
  obtain ⟨sm4, rx⟩ := yl x H4 hy
  rw [List.append_assoc] at rx
  have k4 := k3.step (k3.ok.same sm4) (Stp.ofSame sm4)
  rw [List.drop_eq_getElem_cons hlt, hget, gRun2] at hr
  split at hr
  · cases hr
  rename_i ε5 hb5
  refine ⟨M3, [d] ++ R, wipeE ε3 own, x0, ε5, k4.ok, rx, hb5, fun σ5 H5 M5 e5 => ?_⟩
  have hl5 : σ5.length = σ.length := e5.pr.1.trans (wipe_length σ own)
  have hw5 : L2.wipe σ5 own = L2.wipe σ own := wipe_eq hl5 fun j hj1 hj2 => e5.pr.2 j (hP j (by omega) hj2)
  have k5 := k4.step e5.ok e5.stp
  refine ⟨hw5, ?_⟩
  -- the next turn
  have next : ∀ {H6 M6 ε6 acc6 ys6 rest6}, LcS K T H1 M1 R d H6 M6 ε6 σ5 acc6 ys6 → gRun2 own own1 stNo b c it1 b1 c1 f (ds.drop (i + 1)) (wipeE ε6 own) = some (false, rest6, ε2) → os = acc6 ++ rest6 →
      ∃ M4 ε4 acc4 rest4 ys4, LcS K T H1 M1 R d H6 M4 (wipeE ε4 own) (L2.wipe σ own) acc4 ys4 ∧ gRun2 own own1 stNo b c it1 b1 c1 f (ds.drop (i + 1)) (wipeE ε4 own) = some (false, rest4, ε2) ∧ os = acc4 ++ rest4 := by
    intro H6 M6 ε6 acc6 ys6 rest6 k6 hr6 ho6
    obtain ⟨M7, _, k7⟩ := k6.wiped own
    rw [hw5] at k7
    exact ⟨M7, ε6, acc6, rest6, ys6, k7, hr6, ho6⟩
  split at hr
  · rename_i ε6 h6
    refine ⟨M5, [d] ++ R, ε5, true, ε6, k5.ok, h6, fun H6 M6 ok6 st6 => ?_⟩
    have k6 := k5.step ok6 st6
    refine iteT ?_
    split at hr
    · rename_i ds1 ε7 h7
      refine ⟨M6, [d] ++ R, ε6, ds1, ε7, ok6, h7, fun H7 M7 J1 ok7 st7 hJ1 => ?_⟩
      have k7 := k6.step ok7 st7
      obtain ⟨M8, s8, k8⟩ := k7.wiped own1
      have hσ5 : σ5.length = n := hl5.trans hσ
      split at hr
      · rename_i h8; cases gRun_no h8
      · rename_i os1 ε8 h8
        split at hr
        · rename_i z' os2 ε9 h9
          have hz := gRun2_no h9
          subst hz
          cases hr
          have hlen : acc.length + os1.length ≤ sizeLine := by
            rw [hos, List.length_append, List.length_append] at hline
            omega
          refine ⟨fun j k H => ∃ M9 ε9 acc9 rest9 ys9, k = ds1.length - j ∧ j ≤ ds1.length ∧ LcS K T H1 M1 R d H M9 (wipeE ε9 own1) (L2.wipe σ5 own1) acc9 ys9 ∧ Stp T H7 (M7 ++ [d]) H (M9 ++ [d]) ∧ gRun own1 stNo b1 c1 f (ds1.drop j) (wipeE ε9 own1) = some (false, rest9, ε8) ∧ acc ++ os1 = acc9 ++ rest9,
            ⟨ds1.length, M8, ε7, acc, os1, ys, rfl, Nat.zero_le _, k8, Stp.refl.less fun a ha => (List.mem_append.mp ha).elim (fun z => List.mem_append_left _ (s8 a z)) fun z => List.mem_append_right _ z, h8, rfl⟩, fun j k H8 hW => ?_⟩
          obtain ⟨M9, ε9, acc9, rest9, ys9, rfl, hj9, k9, st9, hr9, ho9⟩ := hW
          have stJ : Stp T H7 (M7 ++ ([d] ++ R)) H8 (M9 ++ ([d] ++ R)) := by
            have := st9.more R
            rw [List.append_assoc, List.append_assoc] at this
            exact this
          have hj1 := hJ1 H8 M9 j stJ k9.ok.tab k9.ok.ls
          cases hdj : ds1[j]? with
          | none =>
            have hle : ds1.length ≤ j := List.getElem?_eq_none_iff.mp hdj
            refine .inl ⟨hj1.2 hle, ?_⟩
            rw [List.drop_of_length_le hle] at hr9
            cases hr9
            rw [List.append_nil] at ho9
            exact next k9.unwiped h9 (by rw [hos, ← ho9, List.append_assoc])
          | some y0 =>
            obtain ⟨hlt1, hget1⟩ := List.getElem?_eq_some_iff.mp hdj
            obtain ⟨go1, yl1⟩ := hj1.1 y0 hdj
            refine .inr ⟨go1, fun H9 => ∃ M10 ε10 acc10 rest10 ys10, LcS K T H1 M1 R d H9 M10 (wipeE ε10 own1) (L2.wipe σ5 own1) acc10 ys10 ∧ Stp T H7 (M7 ++ [d]) H9 (M10 ++ [d]) ∧ gRun own1 stNo b1 c1 f (ds1.drop (j + 1)) (wipeE ε10 own1) = some (false, rest10, ε8) ∧ acc ++ os1 = acc10 ++ rest10,
              fun H9 ⟨M10, ε10, acc10, rest10, ys10, q1, q2, q3, q4⟩ => ⟨ds1.length - (j + 1), by omega, M10, ε10, acc10, rest10, ys10, rfl, by omega, q1, q2, q3, q4⟩, fun x1 H9 hy1 => ?_⟩
            obtain ⟨sm9, rx1⟩ := yl1 x1 H9 hy1
            have k10 := k9.step (k9.ok.same sm9) (Stp.ofSame sm9)
            have st10 : Stp T H7 (M7 ++ [d]) H9 (M9 ++ [d]) := st9.trans (Stp.ofSame sm9)
            rw [List.drop_eq_getElem_cons hlt1, hget1, gRun] at hr9
            split at hr9
            · cases hr9
            rename_i ε11 hb11
            refine ⟨M9, [d] ++ R, wipeE ε9 own1, y0, ε11, k10.ok, rx1, hb11, fun σ11 H11 M11 e11 => ?_⟩
            have hl11 : σ11.length = σ5.length := e11.pr.1.trans (wipe_length σ5 own1)
            have hw11 : L2.wipe σ11 own1 = L2.wipe σ5 own1 := wipe_eq hl11 fun q hq1 hq2 => e11.pr.2 q (hP1 q (by omega) hq2)
            have k11 := k10.step e11.ok e11.stp
            have st11 := st10.trans (e11.stp.more [d])
            refine ⟨hw11, ?_⟩
            have next1 : ∀ {H12 M12 ε12 acc12 ys12 rest12}, LcS K T H1 M1 R d H12 M12 ε12 σ11 acc12 ys12 → Stp T H7 (M7 ++ [d]) H12 (M12 ++ [d]) → gRun own1 stNo b1 c1 f (ds1.drop (j + 1)) (wipeE ε12 own1) = some (false, rest12, ε8) → acc ++ os1 = acc12 ++ rest12 →
                ∃ M10 ε10 acc10 rest10 ys10, LcS K T H1 M1 R d H12 M10 (wipeE ε10 own1) (L2.wipe σ5 own1) acc10 ys10 ∧ Stp T H7 (M7 ++ [d]) H12 (M10 ++ [d]) ∧ gRun own1 stNo b1 c1 f (ds1.drop (j + 1)) (wipeE ε10 own1) = some (false, rest10, ε8) ∧ acc ++ os1 = acc10 ++ rest10 := by
              intro H12 M12 ε12 acc12 ys12 rest12 k12 st12 hr12 ho12
              obtain ⟨M13, s13, k13⟩ := k12.wiped own1
              rw [hw11] at k13
              exact ⟨M13, ε12, acc12, rest12, ys12, k13, st12.less fun a ha => (List.mem_append.mp ha).elim (fun z => List.mem_append_left _ (s13 a z)) fun z => List.mem_append_right _ z, hr12, ho12⟩
            split at hr9
            · rename_i ε12 h12
              refine ⟨M11, [d] ++ R, ε11, true, ε12, k11.ok, h12, fun H12 M12 ok12 st12 => ?_⟩
              have k12 := k11.step ok12 st12
              have st12' := st11.trans (st12.more [d])
              refine iteT ?_
              split at hr9
              · rename_i o ε13 h13
                refine ⟨M12, [d] ++ R, ε12, .o o, ε13, ok12, h13, fun y H13 M13 F13 p13 => ?_⟩
                have p13 : Post K T H12 M12 ([d] ++ R) ε13 σ11 o y H13 M13 F13 := p13
                have k13 := k12.step p13.ok' p13.stp'
                have st13 := st12'.trans (p13.stp'.more [d])
                have ry : Rep K H13 (M13 ++ ([d] ++ R)) o.val y := p13.data
                split at hr9
                · rename_i h14; cases h14
                · split at hr9
                  · rename_i z14 os14 ε14 h14
                    cases hr9
                    refine ⟨_, k13.at_, ?_, next1 (k13.push ry hd) (st13.trans (Stp.upd (List.mem_append_right _ List.mem_cons_self) k13.at_ fun b hb => hb)) h14 (by rw [ho9, List.append_assoc]; rfl)⟩
                    rw [k13.acc.length]
                    have := congrArg List.length ho9
                    rw [List.length_append, List.length_append, List.length_cons] at this
                    omega
                  · cases hr9
                · cases hr9
              · cases hr9
            · rename_i ε12 h12
              refine ⟨M11, [d] ++ R, ε11, false, ε12, k11.ok, h12, fun H12 M12 ok12 st12 => ?_⟩
              refine iteF ?_
              exact next1 (k11.step ok12 st12) (st11.trans (st12.more [d])) hr9 ho9
            · cases hr9
        · cases hr
      · cases hr
    · cases hr
  · rename_i ε6 h6
    refine ⟨M5, [d] ++ R, ε5, false, ε6, k5.ok, h6, fun H6 M6 ok6 st6 => ?_⟩
    have k6 := k5.step ok6 st6
    refine iteF ?_
    exact next k6 hr hos
  · cases hr
end
end
end VS


set_option Elab.async false
set_option linter.all false
set_option maxRecDepth 100000
set_option maxHeartbeats 1000000
/-! VX12: enumerate over a tuple or a list. -/
namespace VS
noncomputable section
open PySem PySem.Spec PyProof.Rows L2
theorem meets_enumT (l : Addr) (items : Array Value) (n : Nat) (dct : Option Addr) (sl : Array (Option Value)) :
    Meets (Builtin.«enumerate.__new__» ⟨[.type "enumerate", .ref l], []⟩) (fun _ R s => s.heap.get? l = some { cls := .type "tuple", dict := dct, data := .seq items n, slots := sl } ∧
      R (.ok (.ret (.ref (s.heap.push { cls := .type "tuple_iterator", data := .fields #[.ref l, .int 0 0] }).objs.size)))
        { s with heap := (s.heap.push { cls := .type "tuple_iterator", data := .fields #[.ref l, .int 0 0] }).push { cls := .type "enumerate", data := .fields #[.none, .bool false, .ref s.heap.objs.size, rawInt 0, .none, .none] } }) :=
  .of_wp fun prog w A R s h => by
    obtain ⟨hp, g, d, tk, os⟩ := s; obtain ⟨hl, h⟩ := h
    have hsub := sub_enumerate
    have hL : Heap.IsTuple (Shared.heap ⟨hp, g, d, tk, os⟩) l items := ⟨_, hl, rfl, n, rfl⟩
    wp_walk using AutoSeq1.wpAny_loadPart' hl
    refine wpAny_stack_any fun st => wpAny_pure ?_
    split
    · rename_i c _ _ _ _ _
      cases (c == Value.type "enumerate")
      · wp_walk using AutoSeq1.wpAny_loadPart' hl, wpAny_pyIter_tuple hL
        exact ⟨_, rfl, h⟩
      · wp_walk using AutoSeq1.wpAny_loadPart' hl, wpAny_pyIter_tuple hL
        exact ⟨_, rfl, h⟩
    · wp_walk using AutoSeq1.wpAny_loadPart' hl, wpAny_pyIter_tuple hL
      exact ⟨_, rfl, h⟩
section
variable {prog : Program} {w : World} {A : Around} {E : Value → Shared → Prop} {s : Shared}
theorem call_enumT {l : Addr} {items : Array Value} {Q : Value → Shared → Prop} (hL : s.heap.IsTuple l items)
    (h : ∀ h', IsEnum h' (s.heap.objs.size + 1) s.heap.objs.size 0 .none → h'.IsTupleIter s.heap.objs.size l 0 → h'.objs.size = s.heap.objs.size + 2 →
      (∀ b o, s.heap.get? b = some o → h'.get? b = some o) → Q (.ref (s.heap.objs.size + 1)) { s with heap := h' }) :
    wpAny (model prog w) A (call (.type "enumerate") [.ref l]) Q E s := by
  obtain ⟨⟨c, dct, dt, sl⟩, hl, hc, n, hd⟩ := hL
  have hc : c = .type "tuple" := hc
  have hd : dt = .seq items n := hd
  subst hc hd
  refine callType_new F.called_enumerate (by decide) (F.typeCall_enumerate_1 _) (F.newCall_enumerate_1 _) (fun obj => F.args_object_init_2 obj _) F.entry_enumerate_new
    (meets_enumT l items n dct sl) ⟨hl, ?_⟩
  have hz : (s.heap.push { cls := .type "tuple_iterator", data := .fields #[.ref l, .int 0 0] }).objs.size = s.heap.objs.size + 1 := Heap.size_push ..
  show _ ∧ _
  rw [hz]
  have he : IsEnum ((s.heap.push { cls := .type "tuple_iterator", data := .fields #[.ref l, .int 0 0] }).push
      { cls := .type "enumerate", data := .fields #[.none, .bool false, .ref s.heap.objs.size, rawInt 0, .none, .none] }) (s.heap.objs.size + 1) s.heap.objs.size 0 .none := by
    have := Heap.get?_push_size (s.heap.push { cls := .type "tuple_iterator", data := .fields #[.ref l, .int 0 0] })
      (o := { cls := .type "enumerate", data := .fields #[.none, .bool false, .ref s.heap.objs.size, rawInt 0, .none, .none] }) rfl
    rw [hz] at this; exact this
  refine ⟨⟨_, he, rfl⟩, h _ he ⟨_, Heap.get?_push_of_some _ (Heap.get?_push_size _ rfl), rfl, rfl⟩ (by rw [Heap.size_push, hz]) fun b o x => Heap.get?_push_of_some _ (Heap.get?_push_of_some _ x)⟩
theorem draws_tup (hh : A.handled = none) (it l : Addr) (hne : l ≠ it) (items : Array Value) :
    Draws prog w A it [it, l] items.size (fun i v => items[i]? = some v) (fun i h => h.IsTupleIter it l i ∧ h.IsTuple l items) where
  live := fun i h ⟨⟨o, ho, _⟩, _⟩ => ⟨o, ho⟩
  frame := fun i h h' ⟨h1, h2⟩ k => ⟨h1.at fun o q => k it (by simp) o q, let ⟨o, q, r⟩ := h2; ⟨o, k l (by simp) o q, r⟩⟩
  item := fun i s Q E hi ⟨h1, h2⟩ hQ => by
    refine RZ.nextOf_tuple_item h1 h2 (x := items[i]) (by simp [hi]) fun h' hit' hs' => ?_
    obtain ⟨o, q, r⟩ := h2
    exact hQ _ h' s.toks (by simp [hi]) ⟨hit', o, (hs'.2 l hne).trans q, r⟩ hs'
  done := fun s Q E ⟨h1, h2⟩ hE => RZ.nextOf_tuple_end hh h1 h2 (by simp) hE
end
/-- the tuple at a, each item in a new pair -/
def IteT (K : PySem.W.Frag) (a : Addr) : It :=
  ⟨fun i H => ∃ (xs : List V) (x : V), SqT K H a xs ∧ xs[i]? = some x, fun i H v H' => ∃ T x, v = .ref T ∧ H T = none ∧ H' = upd H T (.tup [.int (i : Nat), x]) ∧ ∀ xs, SqT K H a xs → xs[i]? = some x, fun i H => ∃ xs : List V, SqT K H a xs ∧ xs.length ≤ i⟩
theorem turn_enumT {P : Program} {w : World} {K : PySem.W.Frag} {elts : List Expr} {kk : Nat} {tpos : Pos} (a e it : Addr) (hae : a ≠ e) (hai : a ≠ it) :
    Turn P w K (.Tuple elts kk tpos) (IteT K a) [e, it] e (fun i h => (∃ old, IsEnum h e it ((i : Nat) : Int) old) ∧ h.IsTupleIter it a i ∧ e ≠ it) where
  mem := by simp
  obj := fun i h st b hb => by
    obtain ⟨⟨old, he⟩, ⟨o, ho, hc, hd⟩, _⟩ := st
    have e' : b = e ∨ b = it := by simpa using hb
    rcases e' with z | z
    · rw [z]; exact ⟨_, he, fun v q => nomatch q⟩
    · rw [z]; exact ⟨o, ho, fun v q => by rw [hd] at q; cases q⟩
  keep := fun i h h' st k => let ⟨⟨old, he⟩, hi, hne⟩ := st; ⟨⟨old, k e (by simp) _ he⟩, hi.at fun o q => k it (by simp) o q, hne⟩
  item := by
    intro X hP hw hK hc i pins s σ H E I hf st hg
    subst hP hw hK
    obtain ⟨⟨old, he⟩, hit, hne⟩ := st
    obtain ⟨xs, x, hq, hx⟩ := hg
    obtain ⟨its, rv, p, hz⟩ := I.tuple hq
    obtain ⟨u, hu, ru⟩ := rv.get hx
    have hel : e < s.heap.objs.size := Heap.lt_size he
    have hil : it < s.heap.objs.size := by obtain ⟨_, q, _⟩ := hit; exact Heap.lt_size q
    have hlt : i < its.toArray.size := by
      obtain ⟨q, _⟩ := List.getElem?_eq_some_iff.mp hu
      simpa using q
    refine wpAny_pyNext_enum_itemD (draws_tup (A := X.A.in1) (show X.A.in1.handled = none from I.ok.hd hc) it a hai its.toArray) he ⟨hit, p⟩ hlt hne (by simp [Ne.symm hae, hne]) fun y h' tk hy ho hst hT hsz hk => ?_
    have hy : y = u := by
      have hy : its.toArray[i]? = some y := hy
      rw [List.getElem?_toArray, hu] at hy
      exact (Option.some.inj hy).symm
    subst hy
    refine ⟨_, rfl, wpAny_letOwnedTupleGo_enum (s := { s with heap := h', toks := tk + 1 }) ho fun h'' he' sb => ?_⟩
    have hT2 : h''.get? s.heap.objs.size = some { cls := .type "tuple", data := .seq #[.int i tk, y] } := (sb.2 _ (Nat.ne_of_gt hel)).trans hT
    have new : ObjOk X.prog X.w (upd H s.heap.objs.size (.tup [.int (i : Nat), x])) h'' s.heap.objs.size (.tup [.int (i : Nat), x]) :=
      ⟨by show 2 ≤ sizeLine; decide, [.int i tk, y], .cons ⟨_, rfl⟩ (.cons ru .nil), ⟨_, hT2, rfl, _, rfl⟩⟩
    have I1 : Inv X pins σ (upd H s.heap.objs.size (.tup [.int (i : Nat), x])) { s with heap := h'', toks := tk + 1 } :=
      I.turnedNew (ch := [e, it]) (fun b ob hb q => (sb.2 b (fun z => hb (by simp [z]))).trans (hk b ob (fun z => hb (by simp [z])) (fun z => hb (by simp [z])) q)) hf (Nat.le_refl _) new
    refine ⟨.ref s.heap.objs.size, _, I1, rfl, ⟨_, x, rfl, I.hok.fresh (Nat.le_refl _), rfl, fun ys hy => by rw [I.tuple_inj hy hq]; exact hx⟩, ⟨⟨y, ?_⟩, hst.1.at fun o q => (sb.2 it (Ne.symm hne)).trans q, hne⟩, fun b hb => ?_⟩
    · have e1 : ((i + 1 : Nat) : Int) = (i : Int) + 1 := by omega
      rw [e1]; exact he'
    · have hb' : b < s.heap.objs.size := by
        have e' : b = e ∨ b = it := by simpa using hb
        rcases e' with z | z
        · rw [z]; exact hel
        · rw [z]; exact hil
      rw [upd_ne (Nat.ne_of_lt hb')]
      exact (hf b hb).1
  done := by
    intro X hP hw hK hc i pins s σ H E I hf st hg
    subst hP hw hK
    obtain ⟨⟨old, he⟩, hit, hne⟩ := st
    obtain ⟨xs, hq, hx⟩ := hg
    obtain ⟨its, rv, p, hz⟩ := I.tuple hq
    obtain ⟨f0, f1, f2, f3, f4, f5⟩ := hf it (by simp)
    have hl := rv.length
    have hs : s.TypeIs (.ref e) "enumerate" := ⟨_, he, rfl⟩
    unfold pyNext
    refine wpAny_bind (wpAny_attempt (wpAny_callSpecial?_slot (name := Str.ofString "__next__") hs F.slot_enumerate_next
      (wpAny_call_entry F.slot_enumerate_next hs F.entry_enumerate_next ?_ (F.args_enumerate_next_1 _))))
    show wpAny _ _ (field (.ref e) 2 >>= _) _ _ _
    refine wpAny_bind (wpAny_field he rfl (x := .ref it) rfl ?_)
    refine wpAny_bind (RZ.nextOf_tuple_end (I.ok.hd hc) hit p (by simp; omega) fun h' x eb hx' => ?_)
    obtain ⟨o, ho, hcl⟩ := hx'
    refine wpAny_bind (wpAny_isInstance (T := "StopIteration") (b := true) ⟨o, ho, hcl⟩ isSubtype_stop ?_)
    exact wpAny_pure ⟨rfl, I.turned (t' := s.toks) (fun b o hb q => eb b o hb q) f0 f1 f3 f4 f5⟩
  self := fun A i s Q E st h => let ⟨⟨_, he⟩, _⟩ := st; wpAny_pyIter_enum he h
def iEnumA (K : PySem.W.Frag) (ta : TA) : TI := fun σ H R => ta σ H fun vs H1 => ∃ a xs, vs = [.ref a] ∧ ((SqL K H1 a xs ∧ R (Ite K a) H1) ∨ (SqT K H1 a xs ∧ R (IteT K a) H1))
section
variable {X : Cx} {T : List TK} {K : PySem.W.Frag}
theorem pi_enumA {e : Expr} {ta : TA} {p pos tpos : Pos} {elts : List Expr} {kk : Nat} (hg : Gl X "enumerate") (hm : X.mg "enumerate" = none) (ha : PA X [e] ta) (hs : starEach [e] X.env = [(false, eval e X.env)] := by rfl) :
    PI X (.Tuple elts kk tpos) (.Call (.Name "enumerate" p) [e] [] pos) (iEnumA X.K ta) := by
  refine ⟨fun pins s σ H R I h => ?_⟩
  refine Call_ (ld_blt I hg hm boot_enumerate (PyProof.Rows.callWith_type1 (thn (ha.run pos pins s σ H _ I h) fun us s1 ⟨vs, H1, I1, r1, q1⟩ => ?_) hs rfl))
  obtain ⟨a, xs, ex, q⟩ := q1
  subst ex
  cases r1 with
  | cons r rr =>
    cases rr
    cases r
    have fpk : ∀ b ∈ [s1.heap.objs.size + 1, s1.heap.objs.size], FpOk X pins H1 b := fun b hb => by
      have hle : s1.heap.objs.size ≤ b := by
        have e' : b = s1.heap.objs.size + 1 ∨ b = s1.heap.objs.size := by simpa using hb
        rcases e' with z | z
        · rw [z]; exact Nat.le_add_right _ _
        · rw [z]; exact Nat.le_refl _
      exact I1.fpOk hle (I1.hok.fresh hle)
    rcases q with ⟨hq, q⟩ | ⟨hq, q⟩
    · obtain ⟨its, rv, p', hz⟩ := I1.list hq
      refine call_enumerate_list p'.isList fun h' he hit hsz hk => wpAny_pyIter_enum he ?_
      have I2 : Inv X pins σ H1 { s1 with heap := h' } := I1.kept (t' := s1.toks) hk
      exact ⟨s1.heap.objs.size + 1, [s1.heap.objs.size + 1, s1.heap.objs.size], _, _, H1, rfl, I2, turn_enum a (s1.heap.objs.size + 1) s1.heap.objs.size, ⟨⟨.none, he⟩, hit, Nat.succ_ne_self _⟩, fpk, q⟩
    · obtain ⟨its, rv, p', hz⟩ := I1.tuple hq
      have hal : a < s1.heap.objs.size := let ⟨_, q, _⟩ := p'; Heap.lt_size q
      refine call_enumT p' fun h' he hit hsz hk => wpAny_pyIter_enum he ?_
      have I2 : Inv X pins σ H1 { s1 with heap := h' } := I1.kept (t' := s1.toks) hk
      exact ⟨s1.heap.objs.size + 1, [s1.heap.objs.size + 1, s1.heap.objs.size], _, _, H1, rfl, I2, turn_enumT a (s1.heap.objs.size + 1) s1.heap.objs.size (Nat.ne_of_lt (Nat.lt_succ_of_lt hal)) (Nat.ne_of_lt hal), ⟨⟨.none, he⟩, hit, Nat.succ_ne_self _⟩, fpk, q⟩
/-! ### by data -/
def enumD : Nat → List D → List D
  | _, [] => []
  | k, d :: ds => .tup [.int (k : Nat), d] :: enumD (k + 1) ds
theorem enumD_len : ∀ (ds : List D) (k : Nat), (enumD k ds).length = ds.length
  | [], _ => rfl
  | d :: ds, k => by rw [enumD, List.length_cons, List.length_cons, enumD_len ds]
theorem enumD_get : ∀ (ds : List D) (k i : Nat) (e : D), (enumD k ds)[i]? = some e → ∃ d, ds[i]? = some d ∧ e = .tup [.int ((k + i : Nat) : Int), d]
  | [], k, i, e, h => by simp [enumD] at h
  | d :: ds, k, 0, e, h => by
    rw [enumD] at h
    simp at h
    exact ⟨d, rfl, by rw [← h]; rfl⟩
  | d :: ds, k, i + 1, e, h => by
    rw [enumD] at h
    obtain ⟨d', h1, h2⟩ := enumD_get ds (k + 1) i e (by simpa using h)
    exact ⟨d', by simpa using h1, by rw [h2, show k + 1 + i = k + (i + 1) by omega]⟩
theorem enumD_map {α : Type} (f : α → D) : ∀ (l : List α) (k : Nat), enumD k (l.map f) = (l.zipIdx k).map fun p => D.tup [.int (p.2 : Nat), f p.1]
  | [], _ => rfl
  | x :: l, k => by rw [List.map_cons, enumD, enumD_map f l, List.zipIdx_cons, List.map_cons]
section
variable {H : Hp} {M R : List Addr}
/-- a new pair -/
theorem pair_new {H2 : Hp} {M2 : List Addr} {q : Addr} {i : Nat} {d : D} {x : V} (t : Tabs T H2) (l : Lists H2 (M2 ++ R)) (hq : H2 q = none) (h : Rep K H2 (M2 ++ R) d x) : Same H2 (upd H2 q (.tup [.int (i : Nat), x])) ∧ Rep K (upd H2 q (.tup [.int (i : Nat), x])) (M2 ++ R) (.tup [.int ((i : Nat) : Int), d]) (.ref q) := by
  have sm : Same H2 (upd H2 q (.tup [.int (i : Nat), x])) := fun b o e => by rw [upd_ne (ne_of_none e hq)]; exact e
  refine ⟨sm, ?_⟩
  have h' := Rep.mono (T := T) (M := []) (A := M2 ++ R) (A' := M2 ++ R) (Keep.ofSame sm) t .nil (fun a h => by cases h) (fun a h => .inl h) d x h
  rw [Rep]
  refine ⟨q, [.int (i : Nat), x], rfl, SqT.of upd_same, ?_⟩
  rw [Reps]
  refine ⟨_, _, rfl, by rw [Rep], ?_⟩
  rw [Reps]
  exact ⟨x, [], rfl, h', by rw [Reps]⟩
theorem itOk_enumL {ds : List D} {a : Addr} {vs : List V} (hv : ∀ H2 M2, Stp T H (M ++ R) H2 (M2 ++ R) → Lists H2 (M2 ++ R) → SqL K H2 a vs ∧ Reps K H2 (M2 ++ R) ds vs) : ItOk K T (Ite K a) (enumD 0 ds) H M R := by
  intro H2 M2 i st t2 l2
  obtain ⟨h3, h4⟩ := hv H2 M2 st l2
  have hl := h4.length
  refine ⟨fun e he => ?_, fun hi => ⟨vs, h3, by rw [enumD_len] at hi; omega⟩⟩
  obtain ⟨d, hd, rfl⟩ := enumD_get ds 0 i e he
  obtain ⟨x, hx, rx⟩ := h4.get' hd
  refine ⟨⟨vs, x, h3, hx⟩, fun y H3 ⟨q, z, e1, e2, e3, e4⟩ => ?_⟩
  subst e1 e3
  have := e4 vs h3
  rw [hx] at this
  cases this
  rw [Nat.zero_add]
  exact pair_new t2 l2 e2 rx
theorem itOk_enumT {ds : List D} {a : Addr} (h : Rep K H (M ++ R) (.tup ds) (.ref a)) (t : Tabs T H) (l : Lists H (M ++ R)) : ItOk K T (IteT K a) (enumD 0 ds) H M R := by
  intro H2 M2 i st t2 l2
  have h2 := h.mono st.keep t l (fun a h => h) fun a h => st.sub a h
  rw [Rep] at h2
  obtain ⟨b, vs, e, h3, h4⟩ := h2
  cases e
  have hl := h4.length
  refine ⟨fun e he => ?_, fun hi => ⟨vs, h3, by rw [enumD_len] at hi; omega⟩⟩
  obtain ⟨d, hd, rfl⟩ := enumD_get ds 0 i e he
  obtain ⟨x, hx, rx⟩ := h4.get' hd
  refine ⟨⟨vs, x, h3, hx⟩, fun y H3 ⟨q, z, e1, e2, e3, e4⟩ => ?_⟩
  subst e1 e3
  have := e4 vs h3
  rw [hx] at this
  cases this
  rw [Nat.zero_add]
  exact pair_new t2 l2 e2 rx
end
end
end
end VS


set_option Elab.async false
set_option linter.all false
set_option maxRecDepth 100000
/-! VX13: enumerate, += and min of three by data; two-clause comprehensions at a place. -/
namespace VS
noncomputable section
open PySem PySem.Spec PyProof.Rows L2
section
variable {K : PySem.W.Frag} {T : List TK} {P : List Nat} {H H' : Hp} {M M' R F : List Addr} {ε ε' : Env'} {σ σ' : L2.St} {X : Cx}
/-! ### enumerate -/
@[simp] def itEn (f : VF) : IF := fun ε => match f ε with
  | some (.o o, ε1) => match seqOf o.val with
    | some ds => some (enumD 0 ds, ε1)
    | none => none
  | _ => none
theorem vi_enum {elts : List Expr} {kk : Nat} {tpos p pos : Pos} {e : Expr} {f : VF} (hg : Gl X "enumerate") (hm : X.mg "enumerate" = none) (h : VE X T e f) (hs : starEach [e] X.env = [(false, eval e X.env)] := by rfl) : VI X T (.Tuple elts kk tpos) (.Call (.Name "enumerate" p) [e] [] pos) (itEn f) := by
  refine ⟨PI.imp (pi_enumA hg hm (va_cons h va_nil hs).pa hs) fun σ H Rk h => ?_⟩
  obtain ⟨M, R, ε, ds, ε', ok, hf, post⟩ := h
  unfold itEn at hf
  split at hf
  · rename_i o ε1 h1
    split at hf
    · rename_i l hl
      cases hf
      refine ⟨M, R, ε, _, _, ok, h1, fun v H' M' F p => ?_⟩
      have p : Post X.K T H M R _ σ o v H' M' F := p
      have hd := Post.data p
      cases ho : o.val <;> rw [ho] at hl hd <;> first | (cases hl; done) | skip
      case tup ds =>
        cases hl
        have hd' := hd
        rw [Rep] at hd'
        obtain ⟨a, vs, rfl, h3, _⟩ := hd'
        exact ⟨a, vs, rfl, .inr ⟨h3, post H' M' _ (Post.ok' p) (Post.stp' p) (itOk_enumT hd (Post.ok' p).tab (Post.ok' p).ls)⟩⟩
      case lst ds =>
        cases hl
        have hd' := hd
        rw [Rep] at hd'
        obtain ⟨a, vs, rfl, h3, _, _⟩ := hd'
        refine ⟨a, vs, rfl, .inl ⟨SqL.of h3, post H' M' _ (Post.ok' p) (Post.stp' p) (itOk_enumL (vs := vs) fun H2 M2 st l2 => ?_)⟩⟩
        have h2 := hd.mono st.keep (Post.ok' p).tab (Post.ok' p).ls (fun a h => h) fun a h => st.sub a h
        rw [Rep] at h2
        obtain ⟨b, ws, e, h5, h6, h7⟩ := h2
        cases e
        have hn : a ∉ M' ++ R := by
          rw [Rep] at hd
          obtain ⟨b, ws, e, _, q, _⟩ := hd
          cases e
          exact q
        have h8 := st.keep a _ h3 hn ((Post.ok' p).tab.nlst h3)
        rw [h5] at h8
        cases h8
        exact ⟨SqL.of h5, h7⟩
      case scr ns =>
        cases hl
        have hd' := hd
        rw [Rep] at hd'
        obtain ⟨a, rfl, h3⟩ := hd'
        refine ⟨a, ns.map V.int, rfl, .inl ⟨h3.sq, post H' M' _ (Post.ok' p) (Post.stp' p) (itOk_enumL (vs := ns.map V.int) fun H2 M2 st l2 => ?_)⟩⟩
        have h2 := hd.mono st.keep (Post.ok' p).tab (Post.ok' p).ls (fun a h => h) fun a h => st.sub a h
        rw [Rep] at h2
        obtain ⟨b, e, h5⟩ := h2
        cases e
        exact ⟨h5.sq, Reps.ints⟩
    · cases hf
  · cases hf
/-! ### += -/
/-- slot i's int -/
@[simp] def sAugN (i : Nat) (g : Int → Int → Int) (f : VF) : SF := fun ε => match ε[i]? with
  | some (some (.fz (.int a))) => match f ε with
    | some (.o (.fz (.int b)), ε1) => if i < ε1.length then some (.nx, ε1.set i (some (.fz (.int (g a b))))) else none
    | _ => none
  | _ => none
theorem vs_augN {i : Nat} {x : Str} {e : Expr} {f : VF} {op : Operator} {g : Int → Int → Int} {pos pos' : Pos} (hN : X.N.Nodup) (hi : X.N[i]? = some x) (hx : Loc X.env.scope x) (hfn : X.fn x = true ∨ X.env.scope.names.lookup x = some .local) (hP : i ∉ P) (h : VE X T e f) (hp : PIp X op (ipI g)) : VS X T P (.AugAssign (.Name x pos') op e pos) (sAugN i g f) := by
  refine ⟨PS.imp (ps_aug hN hi hx h.pe hp hfn) fun D σ H hh => ?_⟩
  obtain ⟨M, R, ε, fl, ε', ok, hf, post⟩ := hh
  unfold sAugN at hf
  split at hf
  · rename_i a ea
    split at hf
    · rename_i b ε1 eb
      split at hf
      · rename_i hl
        cases hf
        obtain ⟨v, M0, h1, h2, h3, h4⟩ := ok.frozen ea
        have h4 : Rep X.K H (M0 ++ R) (.int a) v := h4
        rw [Rep] at h4
        subst h4
        refine ⟨_, h1, M, R, ε, _, _, ok, eb, fun y H1 M1 F1 p1 => ?_⟩
        have p1 : Post _ T H M R ε1 σ (.fz (.int b)) y H1 M1 F1 := p1
        obtain ⟨rfl, rfl, k1, s1⟩ := Post.int p1
        refine ⟨a, b, rfl, rfl, ?_⟩
        obtain ⟨M2, e2⟩ := Post.store (P := P) (Post.fz (d := .int (g a b)) (v := .int (g a b)) k1 s1 (by rw [Rep])) hl hP
        exact post _ _ M2 e2
      · cases hf
    · cases hf
  · cases hf
theorem pget_list : PGet X (rIxL X.K) := by
  intro pins s σ H o i ov iv Q I ro ri h
  obtain ⟨p, xs, n, z, rfl, rfl, hq, he, q⟩ := h
  cases ro
  obtain ⟨t, rfl⟩ := ri
  obtain ⟨its, r, pl, hz⟩ := I.list hq
  obtain ⟨j, h1, h2, h3, h4, h5⟩ := atI_get he
  obtain ⟨w, ew, rw'⟩ := r.get h2
  have hl := r.length
  have hn := line63
  have fin : EP X pins σ Q w s := ⟨z, H, I, rw', q⟩
  by_cases h0 : 0 ≤ n
  · have hj : n.toNat = j := by
      rw [seqIndex_of h0 h5] at h1
      exact Option.some.inj h1
    exact wpAny_getItem_list pl.isList h0 (by omega) (by rw [hj]; simpa using ew) fin
  · have hj : (n + (its.toArray.size : Int)).toNat = j := by
      rw [seqIndex_neg (by omega) h4] at h1
      rw [List.size_toArray, ← hl]
      exact Option.some.inj h1
    exact wpAny_getItem_list_neg pl.isList (by omega) (by rw [List.size_toArray] <;> omega) (by omega) (by rw [hj]; simpa using ew) fin
/-- x[h] op= f -/
@[simp] def sAugS (i : Nat) (h : Pl) (g : Int → Int → Int) (f : VF) : SF := fun ε => match ε[i]?, h ε with
  | some (some (.own l)), some (.fz (.int n)) => match ixN l.length n with
    | some k => match l[k]? with
      | some (.fz (.int a)) => match f ε with
        | some (.o (.fz (.int b)), ε1) => match ε1[i]? with
          | some (some (.own l1)) => match ixN l1.length n with
            | some k1 => some (.nx, ε1.set i (some (.own (l1.set k1 (.fz (.int (g a b)))))))
            | none => none
          | _ => none
        | _ => none
      | _ => none
    | none => none
  | _, _ => none
theorem vs_augS {i : Nat} {o j e : Expr} {h : Pl} {f : VF} {op : Operator} {g : Int → Int → Int} {pos tpos : Pos} (ho : PE X o (tVar i)) (hj : VP X T j h) (he : VE X T e f) (hp : PIp X op (ipI g))
    (ha : ∀ ov iv new, augStore j ov iv new = (do holding [new, ov, iv] (setItem ov iv new); release [new, ov, iv] []; pure .next) := by intros; rfl) : VS X T P (.AugAssign (.Subscript o j tpos) op e pos) (sAugS i h g f) := by
  refine ⟨PS.imp (ps_augS ho hj.pe pget_list he.pe hp set_list ha) fun D σ H hh => ?_⟩
  obtain ⟨M, R, ε, fl, ε', ok, hf, post⟩ := hh
  unfold sAugS at hf
  split at hf
  · rename_i l n e1 e2
    split at hf
    · rename_i k hk
      split at hf
      · rename_i a0 hl
        split at hf
        · rename_i b ε1 eb
          split at hf
          · rename_i l1 e3
            split at hf
            · rename_i k1 hk1
              cases hf
              obtain ⟨a, vs, F', c1, c2, c3, c4, c5, c6, c7⟩ := Ok.change (F := []) (Fr := []) ok e1
              obtain ⟨x, Fk, G, g1, g2, g3, g4⟩ := c4.at hl
              rw [RepO, Rep] at g3
              obtain ⟨_, rfl⟩ := g3
              refine ⟨_, c1, M, R, ε, _, ok, e2, fun w Fw rw_ _ => ?_⟩
              rw [RepO, Rep] at rw_
              obtain ⟨_, rfl⟩ := rw_
              refine ⟨a, vs, n, .int a0, rfl, rfl, SqL.of c2, atI_of hk c4.length g1, M, R, ε, _, _, ok, eb, fun y H1 M1 F1 p1 => ?_⟩
              have p1 : Post _ T H M R ε1 σ (.fz (.int b)) y H1 M1 F1 := p1
              obtain ⟨rfl, rfl, k2, s2⟩ := Post.int p1
              refine ⟨a0, b, rfl, rfl, ?_⟩
              obtain ⟨_, hk2, _, _⟩ := ixN_seq hk1
              obtain ⟨a', vs', d1, d2, d3, d4, M3, d5, d6⟩ := Ok.stored (F := []) (y := .int (g a0 b)) (o := .fz (.int (g a0 b))) k2 (by rw [RepO, Rep]; exact ⟨rfl, rfl⟩) e3 hk2
              rw [c1] at d1
              cases d1
              exact ⟨a, vs', n, k1, rfl, rfl, d2, by rw [d3]; exact hk1, post σ _ M3 ⟨d5, s2.trans (Stp.upd d4 d2 fun b hb => by simpa using d6 b hb), .refl⟩⟩
            · cases hf
          · cases hf
        · cases hf
      · cases hf
    · cases hf
  · cases hf
/-- path[h] op= place -/
@[simp] def sAugM (m : Mp) (h : Pl) (g : Int → Int → Int) (f : Pl) : SF := fun ε => match m ε, h ε, f ε with
  | some (l, put), some (.fz (.int n)), some (.fz (.int b)) => match ixN l.length n with
    | some k => match l[k]? with
      | some (.fz (.int a)) => some (.nx, put (l.set k (.fz (.int (g a b)))))
      | _ => none
    | none => none
  | _, _, _ => none
theorem vs_augM {m : Mp} {o j e : Expr} {h f : Pl} {op : Operator} {g : Int → Int → Int} {pos tpos : Pos} (ho : VM X T o m) (hj : VP X T j h) (he : VP X T e f) (hp : PIp X op (ipI g))
    (ha : ∀ ov iv new, augStore j ov iv new = (do holding [new, ov, iv] (setItem ov iv new); release [new, ov, iv] []; pure .next) := by intros; rfl) : VS X T P (.AugAssign (.Subscript o j tpos) op e pos) (sAugM m h g f) := by
  refine ⟨PS.imp (ps_augS ho.pe hj.pe pget_list he.pe hp set_list ha) fun D σ H hh => ?_⟩
  obtain ⟨M, R, ε, fl, ε', ok, hf, post⟩ := hh
  unfold sAugM at hf
  split at hf
  · rename_i l put n b e1 e2 e3
    split at hf
    · rename_i k hk
      split at hf
      · rename_i a0 hl
        cases hf
        refine tM_of (F := []) ok e1 fun a vs F' c => ?_
        obtain ⟨x, Fk, G, g1, g2, g3, g4⟩ := c.rep.at hl
        rw [RepO, Rep] at g3
        obtain ⟨_, rfl⟩ := g3
        refine ⟨M, R, ε, _, ok, e2, fun w Fw rw_ _ => ?_⟩
        rw [RepO, Rep] at rw_
        obtain ⟨_, rfl⟩ := rw_
        refine ⟨a, vs, n, .int a0, rfl, rfl, SqL.of c.at_, atI_of hk c.rep.length g1, M, R, ε, _, ok, e3, fun w2 Fw2 rw2 _ => ?_⟩
        rw [RepO, Rep] at rw2
        obtain ⟨_, rfl⟩ := rw2
        obtain ⟨_, hk1, _, _⟩ := ixN_seq hk
        obtain ⟨M3, c5, c6⟩ := c.stored (o := .fz (.int (g a0 b))) (y := .int (g a0 b)) ok.tab (by rw [RepO, Rep]; exact ⟨rfl, rfl⟩) hk1
        exact ⟨a0, b, rfl, rfl, a, vs, n, k, rfl, rfl, c.at_, by rw [c.rep.length]; exact hk, post σ _ M3 ⟨c5, Stp.upd c.mem c.at_ fun b hb => by simpa using c6 b hb, .refl⟩⟩
      · cases hf
    · cases hf
  · cases hf
end
end
end VS


set_option Elab.async false
set_option linter.all false
set_option maxRecDepth 100000
/-! VX14: min, max of three; the new rules at a place. -/
namespace VS
noncomputable section
open PySem PySem.Spec PyProof.Rows L2
section
variable {K : PySem.W.Frag} {T : List TK} {P : List Nat} {X : Cx}
@[simp] def min2I (i j : Int) : Int := if j < i then j else i
@[simp] def max2I (i j : Int) : Int := if j > i then j else i
@[simp] def pMin3 : List D → Option O
  | [.int i, .int j, .int k] => some (.fz (.int (min2I (min2I i j) k)))
  | _ => none
@[simp] def pMax3 : List D → Option O
  | [.int i, .int j, .int k] => some (.fz (.int (max2I (max2I i j) k)))
  | _ => none
theorem nu_min2 (i j : Int) : nuMin2 (.int i) (.int j) = some (.int (min2I i j)) := by
  show (some (decide (j < i))).map (fun c => if c = true then V.int j else V.int i) = _
  by_cases h : j < i <;> simp [h]
theorem nu_max2 (i j : Int) : nuMax2 (.int i) (.int j) = some (.int (max2I i j)) := by
  show (some (decide (i < j))).map (fun c => if c = true then V.int j else V.int i) = _
  by_cases h : i < j <;> simp [h]
theorem nu_min3 (i j k : Int) : nuMin3 (.int i) (.int j) (.int k) = some (.int (min2I (min2I i j) k)) := by
  unfold nuMin3
  rw [nu_min2]
  exact nu_min2 _ _
theorem nu_max3 (i j k : Int) : nuMax3 (.int i) (.int j) (.int k) = some (.int (max2I (max2I i j) k)) := by
  unfold nuMax3
  rw [nu_max2]
  exact nu_max2 _ _
theorem cd_min3 (hc : X.calm = true) : CallR X (.builtin "min") (rP X.K T pMin3) := CallR.imp (call_min3Nu hc) fun vs H Q h => by
  obtain ⟨A, ds, o, lA, tA, hx, hp, post⟩ := h
  unfold pMin3 at hp
  split at hp
  · rename_i i j k
    cases hp
    obtain ⟨v1, r1, rfl, h1, hx⟩ := hx
    obtain ⟨v2, r2, rfl, h2, hx⟩ := hx
    obtain ⟨v3, r3, rfl, h3, hx⟩ := hx
    cases hx
    cases h1; cases h2; cases h3
    exact ⟨_, _, _, _, rfl, nu_min3 i j k, post _ H [] (New.fz (by rw [Rep]))⟩
  · cases hp
theorem cd_max3 (hc : X.calm = true) : CallR X (.builtin "max") (rP X.K T pMax3) := CallR.imp (call_max3Nu hc) fun vs H Q h => by
  obtain ⟨A, ds, o, lA, tA, hx, hp, post⟩ := h
  unfold pMax3 at hp
  split at hp
  · rename_i i j k
    cases hp
    obtain ⟨v1, r1, rfl, h1, hx⟩ := hx
    obtain ⟨v2, r2, rfl, h2, hx⟩ := hx
    obtain ⟨v3, r3, rfl, h3, hx⟩ := hx
    cases hx
    cases h1; cases h2; cases h3
    exact ⟨_, _, _, _, rfl, nu_max3 i j k, post _ H [] (New.fz (by rw [Rep]))⟩
  · cases hp
/-! ### sums of places -/
@[simp] def gBin (g : Int → Int → Int) (a b : Pl) : Pl := fun ε => match a ε, b ε with
  | some (.fz (.int i)), some (.fz (.int j)) => some (.fz (.int (g i j)))
  | _, _ => none
theorem vp_bin {op : Operator} {a b : Expr} {g : Int → Int → Int} {f h : Pl} {pos : Pos} (ho : OpR X (binaryOp op) (rI0 fun i j => .int (g i j))) (ha : VP X T a f) (hb : VP X T b h) : VP X T (.BinOp a op b pos) (gBin g f h) := by
  refine ⟨PE.imp (pe_op ho ha.pe hb.pe) fun σ H Q hh => ?_⟩
  obtain ⟨M, R, ε, o, ok, hf, post⟩ := hh
  unfold gBin at hf
  split at hf
  · rename_i i j e1 e2
    cases hf
    refine ⟨M, R, ε, _, ok, e1, fun v F r1 _ => ⟨M, R, ε, _, ok, e2, fun w F2 r2 _ => ?_⟩⟩
    rw [RepO, Rep] at r1 r2
    obtain ⟨_, rfl⟩ := r1
    obtain ⟨_, rfl⟩ := r2
    exact ⟨i, j, rfl, rfl, post _ [] (by rw [RepO, Rep]; exact ⟨rfl, rfl⟩) (fun a h => by cases h)⟩
  · cases hf
/-! ### [x for .. for ..] -/
theorem ve_lc2 {elt tg iter tg1 iter1 : Expr} {ifs ifs1 : List Expr} {scope : Scope} {own : List (Str × Nat)} {own1 : List Nat} {pos : Pos} {it it1 : IF} {b b1 : BF} {c c1 : TF} {f : VF} {n : Nat} (hc : X.calm = true) (hN : X.N.Nodup) (hi : VI X T tg iter it) (ok : BlkOk X.N X.env.scope scope own) (hv : ∀ i ∈ own1, i ∈ own.map (·.2))
    (hg : ∀ (s : Shared) (H : Hp) (C : Addr) (cl : List (Str × Addr)) (fp : List Addr), VG (X.blk s H scope (compEnvC scope cl C X.env) fp) T (notIn (own.map (·.2)) n) tg b) (ht : ∀ (s : Shared) (H : Hp) (C : Addr) (cl : List (Str × Addr)) (fp : List Addr), VTs (X.blk s H scope (compEnvC scope cl C X.env) fp) T ifs c)
    (hi1 : ∀ (s : Shared) (H : Hp) (C : Addr) (cl : List (Str × Addr)) (fp : List Addr), VI (X.blk s H scope (compEnvC scope cl C X.env) fp) T tg1 iter1 it1)
    (hg1 : ∀ (s : Shared) (H : Hp) (C : Addr) (cl : List (Str × Addr)) (fp : List Addr), VG (X.blk s H scope (compEnvC scope cl C X.env) fp) T (notIn own1 n) tg1 b1) (ht1 : ∀ (s : Shared) (H : Hp) (C : Addr) (cl : List (Str × Addr)) (fp : List Addr), VTs (X.blk s H scope (compEnvC scope cl C X.env) fp) T ifs1 c1)
    (he : ∀ (s : Shared) (H : Hp) (C : Addr) (cl : List (Str × Addr)) (fp : List Addr), VE (X.blk s H scope (compEnvC scope cl C X.env) fp) T elt f) (hs : ∀ x, foldedSetIterable iter X.env x = pure x := by intro _; rfl) (hs1 : ∀ env x, foldedSetIterable iter1 env x = pure x := by intro _ _; rfl) :
    VE X T (.ListComp elt [⟨tg, iter, ifs, 0⟩, ⟨tg1, iter1, ifs1, 0⟩] scope pos) (vGx2 n (own.map (·.2)) own1 stNo false fLst it b c it1 b1 c1 f) :=
  ⟨PE.imp (pe_lc2 hc hN hi.pi ok hv (fun s H C cl fp => (show PG _ tg (gB X.K T _ b) from (hg s H C cl fp).pg)) (fun s H C cl fp => (show PTs _ ifs (tT X.K T c) from (ht s H C cl fp).pt)) (fun s H C cl fp => (show PI _ tg1 iter1 (wI X.K T it1) from (hi1 s H C cl fp).pi)) (fun s H C cl fp => (show PG _ tg1 (gB X.K T _ b1) from (hg1 s H C cl fp).pg)) (fun s H C cl fp => (show PTs _ ifs1 (tT X.K T c1) from (ht1 s H C cl fp).pt)) (fun s H C cl fp => (show PE _ elt (tV X.K T f) from (he s H C cl fp).pe)) hs hs1) fun σ H Q h => lc2_of (fun i h1 h2 => notIn_mem h1 h2) (fun i h1 h2 => notIn_mem h1 h2) h⟩
end
section
variable {Pg : Program} {w : World} {K : PySem.W.Frag} {mg : Str → Option Value} {base : Heap} {N : List Str} {k j : Nat} {X : Cx} {sc scope : Scope} {fb : Str → Bool} {cv : Value} {T : List TK} {P : List Nat}
theorem CF.lc2 (c : CF Pg w K mg base N k X sc fb cv) {elt tg iter tg1 iter1 : Expr} {ifs ifs1 : List Expr} {scope : Scope} {own : List (Str × Nat)} {own1 : List Nat} {pos : Pos} {it it1 : IF} {b b1 : BF} {cc cc1 : TF} {f : VF} {n : Nat} (ok : blkC N sc scope own = true) (hv : ∀ i ∈ own1, i ∈ own.map (·.2)) (hi : VI X T tg iter it)
    (hg : ∀ X', CF Pg w K mg base N k X' (relS scope sc) (fun x => scope.names.lookup x == some .cell) cv → VG X' T (notIn (own.map (·.2)) n) tg b) (ht : ∀ X', CF Pg w K mg base N k X' (relS scope sc) (fun x => scope.names.lookup x == some .cell) cv → VTs X' T ifs cc)
    (hi1 : ∀ X', CF Pg w K mg base N k X' (relS scope sc) (fun x => scope.names.lookup x == some .cell) cv → VI X' T tg1 iter1 it1)
    (hg1 : ∀ X', CF Pg w K mg base N k X' (relS scope sc) (fun x => scope.names.lookup x == some .cell) cv → VG X' T (notIn own1 n) tg1 b1) (ht1 : ∀ X', CF Pg w K mg base N k X' (relS scope sc) (fun x => scope.names.lookup x == some .cell) cv → VTs X' T ifs1 cc1)
    (he : ∀ X', CF Pg w K mg base N k X' (relS scope sc) (fun x => scope.names.lookup x == some .cell) cv → VE X' T elt f) (hs : ∀ x, foldedSetIterable iter X.env x = pure x := by intro _; rfl) (hs1 : ∀ env x, foldedSetIterable iter1 env x = pure x := by intro _ _; rfl) :
    VE X T (.ListComp elt [⟨tg, iter, ifs, 0⟩, ⟨tg1, iter1, ifs1, 0⟩] scope pos) (vGx2 n (own.map (·.2)) own1 stNo false fLst it b cc it1 b1 cc1 f) :=
  ve_lc2 c.calm (by rw [c.eN]; exact c.nd) hi (by rw [c.eN, c.eS]; exact blkOk_by ok) hv (fun s H C cl fp => hg _ (c.blk scope s H C cl fp)) (fun s H C cl fp => ht _ (c.blk scope s H C cl fp)) (fun s H C cl fp => hi1 _ (c.blk scope s H C cl fp)) (fun s H C cl fp => hg1 _ (c.blk scope s H C cl fp)) (fun s H C cl fp => ht1 _ (c.blk scope s H C cl fp)) (fun s H C cl fp => he _ (c.blk scope s H C cl fp)) hs hs1
theorem CF.en (c : CF Pg w K mg base N k X sc fb cv) {elts : List Expr} {kk : Nat} {tpos p pos : Pos} {e : Expr} {f : VF} (hg : glB sc "enumerate" = true) (hm : mg "enumerate" = none) (h : VE X T e f) (hs : starEach [e] X.env = [(false, eval e X.env)] := by rfl) : VI X T (.Tuple elts kk tpos) (.Call (.Name "enumerate" p) [e] [] pos) (itEn f) :=
  vi_enum (c.gl hg).1 (by rw [c.eM]; exact hm) h hs
theorem CF.augN (c : CF Pg w K mg base N k X sc fb cv) {i : Nat} {x : Str} {e : Expr} {f : VF} {op : Operator} {g : Int → Int → Int} {pos pos' : Pos} (h : stB N sc fb i x = true) (hP : i ∉ P) (he : VE X T e f) (hp : PIp X op (ipI g)) : VS X T P (.AugAssign (.Name x pos') op e pos) (sAugN i g f) := by
  obtain ⟨h1, h2, h3, h4⟩ := c.loc h
  exact vs_augN h1 h2 h3 h4 hP he hp
theorem CF.augS (c : CF Pg w K mg base N k X sc fb cv) {i : Nat} {x : Str} {j e : Expr} {h : Pl} {f : VF} {op : Operator} {g : Int → Int → Int} {pos tpos np : Pos} (hx : rdB N sc i x = true) (hj : VP X T j h) (he : VE X T e f) (hp : PIp X op (ipI g))
    (ha : ∀ ov iv new, augStore j ov iv new = (do holding [new, ov, iv] (setItem ov iv new); release [new, ov, iv] []; pure .next) := by intros; rfl) : VS X T P (.AugAssign (.Subscript (.Name x np) j tpos) op e pos) (sAugS i h g f) :=
  vs_augS (c.tv hx) hj he hp ha
end
end
end VS


set_option Elab.async false
set_option linter.all false
set_option maxRecDepth 100000
/-! VX15: y = [x for .. for ..]. -/
namespace VS
noncomputable section
open PySem PySem.Spec PyProof.Rows L2
section
variable {T : List TK} {P : List Nat} {X : Cx}
theorem vs_setLc2 {i : Nat} {y : Str} {py : Pos} {elt tg iter tg1 iter1 : Expr} {ifs ifs1 : List Expr} {scope : Scope} {own : List (Str × Nat)} {own1 : List Nat} {pos spos : Pos} {it it1 : IF} {b b1 : BF} {c c1 : TF} {f : VF} {n : Nat} (hc : X.calm = true) (hN : X.N.Nodup) (hy : X.N[i]? = some y) (hyl : X.env.scope.names.lookup y = some .local) (hx : Loc X.env.scope y) (hP : i ∉ P)
    (hsw : swapsWith (.ListComp elt [⟨tg, iter, ifs, 0⟩, ⟨tg1, iter1, ifs1, 0⟩] scope pos) (some (.Name y py)) spos.line X.env = pure true) (hi : VI X T tg iter it) (ok : BlkOk X.N X.env.scope scope own) (hv : ∀ i ∈ own1, i ∈ own.map (·.2))
    (hg : ∀ (s : Shared) (H : Hp) (C : Addr) (cl : List (Str × Addr)) (fp : List Addr), VG (X.blk s H scope (compEnvC scope cl C X.env) fp) T (notIn (own.map (·.2)) n) tg b) (ht : ∀ (s : Shared) (H : Hp) (C : Addr) (cl : List (Str × Addr)) (fp : List Addr), VTs (X.blk s H scope (compEnvC scope cl C X.env) fp) T ifs c)
    (hi1 : ∀ (s : Shared) (H : Hp) (C : Addr) (cl : List (Str × Addr)) (fp : List Addr), VI (X.blk s H scope (compEnvC scope cl C X.env) fp) T tg1 iter1 it1)
    (hg1 : ∀ (s : Shared) (H : Hp) (C : Addr) (cl : List (Str × Addr)) (fp : List Addr), VG (X.blk s H scope (compEnvC scope cl C X.env) fp) T (notIn own1 n) tg1 b1) (ht1 : ∀ (s : Shared) (H : Hp) (C : Addr) (cl : List (Str × Addr)) (fp : List Addr), VTs (X.blk s H scope (compEnvC scope cl C X.env) fp) T ifs1 c1)
    (he : ∀ (s : Shared) (H : Hp) (C : Addr) (cl : List (Str × Addr)) (fp : List Addr), VE (X.blk s H scope (compEnvC scope cl C X.env) fp) T elt f) (hs : ∀ x, foldedSetIterable iter X.env x = pure x := by intro _; rfl) (hs1 : ∀ env x, foldedSetIterable iter1 env x = pure x := by intro _ _; rfl) :
    VS X T P (.Assign [.Name y py] (.ListComp elt [⟨tg, iter, ifs, 0⟩, ⟨tg1, iter1, ifs1, 0⟩] scope pos) spos) (sSet i (vGx2 n (own.map (·.2)) own1 stNo false fLst it b c it1 b1 c1 f)) := by
  refine vs_set hN hy hx hP (ve_lc2 hc hN hi ok hv hg ht hi1 hg1 ht1 he hs hs1) ?_
  refine PS.imp (ps_setLc2 hc hN hy hyl hsw hi.pi ok hv (fun s H C cl fp => (show PG _ tg (gB X.K T _ b) from (hg s H C cl fp).pg)) (fun s H C cl fp => (show PTs _ ifs (tT X.K T c) from (ht s H C cl fp).pt)) (fun s H C cl fp => (show PI _ tg1 iter1 (wI X.K T it1) from (hi1 s H C cl fp).pi)) (fun s H C cl fp => (show PG _ tg1 (gB X.K T _ b1) from (hg1 s H C cl fp).pg)) (fun s H C cl fp => (show PTs _ ifs1 (tT X.K T c1) from (ht1 s H C cl fp).pt)) (fun s H C cl fp => (show PE _ elt (tV X.K T f) from (he s H C cl fp).pe)) hs hs1) fun D σ H h => ?_
  exact lc2_of (fun i h1 h2 => notIn_mem h1 h2) (fun i h1 h2 => notIn_mem h1 h2) h
end
section
variable {Pg : Program} {w : World} {K : PySem.W.Frag} {mg : Str → Option Value} {base : Heap} {N : List Str} {k j : Nat} {X : Cx} {sc scope : Scope} {fb : Str → Bool} {cv : Value} {T : List TK} {P : List Nat}
theorem CF.setLc2 (c : CF Pg w K mg base N k X sc fb cv) {i : Nat} {y : Str} {py : Pos} {elt tg iter tg1 iter1 : Expr} {ifs ifs1 : List Expr} {scope : Scope} {own : List (Str × Nat)} {own1 : List Nat} {pos spos : Pos} {it it1 : IF} {b b1 : BF} {cc cc1 : TF} {f : VF} {n : Nat} (h : stB N sc fb i y = true) (hP : i ∉ P) (hsw : swB sc scope y py.line pos.line = true) (ok : blkC N sc scope own = true) (hv : ∀ i ∈ own1, i ∈ own.map (·.2)) (hi : VI X T tg iter it)
    (hg : ∀ X', CF Pg w K mg base N k X' (relS scope sc) (fun x => scope.names.lookup x == some .cell) cv → VG X' T (notIn (own.map (·.2)) n) tg b) (ht : ∀ X', CF Pg w K mg base N k X' (relS scope sc) (fun x => scope.names.lookup x == some .cell) cv → VTs X' T ifs cc)
    (hi1 : ∀ X', CF Pg w K mg base N k X' (relS scope sc) (fun x => scope.names.lookup x == some .cell) cv → VI X' T tg1 iter1 it1)
    (hg1 : ∀ X', CF Pg w K mg base N k X' (relS scope sc) (fun x => scope.names.lookup x == some .cell) cv → VG X' T (notIn own1 n) tg1 b1) (ht1 : ∀ X', CF Pg w K mg base N k X' (relS scope sc) (fun x => scope.names.lookup x == some .cell) cv → VTs X' T ifs1 cc1)
    (he : ∀ X', CF Pg w K mg base N k X' (relS scope sc) (fun x => scope.names.lookup x == some .cell) cv → VE X' T elt f) (hs : ∀ x, foldedSetIterable iter X.env x = pure x := by intro _; rfl) (hs1 : ∀ env x, foldedSetIterable iter1 env x = pure x := by intro _ _; rfl) :
    VS X T P (.Assign [.Name y py] (.ListComp elt [⟨tg, iter, ifs, 0⟩, ⟨tg1, iter1, ifs1, 0⟩] scope pos) spos) (sSet i (vGx2 n (own.map (·.2)) own1 stNo false fLst it b cc it1 b1 cc1 f)) := by
  obtain ⟨h1, h2, h3, h4⟩ := c.loc h
  unfold swB at hsw
  rw [Bool.and_eq_true, Bool.and_eq_true, Bool.and_eq_true] at hsw
  obtain ⟨⟨⟨s1, s2⟩, s3⟩, s4⟩ := hsw
  have hyl : X.env.scope.names.lookup y = some .local := by rw [c.eS]; simpa using s2
  exact vs_setLc2 c.calm h1 h2 hyl h3 hP (sw_true (by rw [c.eS]; exact of_decide_eq_true s1) hyl s3 (by simpa using s4)) hi (by rw [c.eN, c.eS]; exact blkOk_by ok) hv (fun s H C cl fp => hg _ (c.blk scope s H C cl fp)) (fun s H C cl fp => ht _ (c.blk scope s H C cl fp)) (fun s H C cl fp => hi1 _ (c.blk scope s H C cl fp)) (fun s H C cl fp => hg1 _ (c.blk scope s H C cl fp)) (fun s H C cl fp => ht1 _ (c.blk scope s H C cl fp)) (fun s H C cl fp => he _ (c.blk scope s H C cl fp)) hs hs1
end
end
end VS


set_option Elab.async false
set_option linter.all false
set_option maxRecDepth 100000
/-! VX16: list(range(..)), tuple(range(..)). -/
namespace VS
noncomputable section
open PySem PySem.Spec PyProof.Rows L2
section
variable {K : PySem.W.Frag} {T : List TK} {H H' : Hp} {A : List Addr} {σ : L2.St} {X : Cx}
theorem reps_rg (a b : Int) : Reps K H A (rng a (b - a).toNat) (rgV a b) := by
  unfold rng rgV
  have e1 : (List.range (b - a).toNat).map (fun k : Nat => D.int (a + (k : Int))) = ((List.range (b - a).toNat).map fun k : Nat => a + (k : Int)).map D.int := by rw [List.map_map]; rfl
  have e2 : (List.range (b - a).toNat).map (fun k : Nat => V.int (a + (k : Int))) = ((List.range (b - a).toNat).map fun k : Nat => a + (k : Int)).map V.int := by rw [List.map_map]; rfl
  rw [e1, e2]
  exact Reps.ints
/-- the bounds of a range -/
abbrev RF := Env' → Option (Int × Int × Env')
@[simp] def r1F (f : VF) : RF := fun ε => match f ε with
  | some (.o (.fz (.int j)), ε1) => some (0, j, ε1)
  | _ => none
@[simp] def r2F (f g : VF) : RF := fun ε => match f ε with
  | some (.o (.fz (.int i)), ε1) => match g ε1 with
    | some (.o (.fz (.int j)), ε2) => some (i, j, ε2)
    | _ => none
  | _ => none
def tR (K : PySem.W.Frag) (T : List TK) (r : RF) : L2.St → Hp → (Int → Int → Hp → Prop) → Prop := fun σ H Q => ∃ M R ε a b ε', Ok K T H M R ε σ ∧ r ε = some (a, b, ε') ∧ ∀ H' M', Ok K T H' M' R ε' σ → Stp T H M H' M' → Q a b H'
structure VR (X : Cx) (T : List TK) (e : Expr) (r : RF) : Prop where
  pr : PRg X e (tR X.K T r)
theorem PRg.imp {e : Expr} {t t' : L2.St → Hp → (Int → Int → Hp → Prop) → Prop} (h : PRg X e t) (i : ∀ σ H Q, t' σ H Q → t σ H Q) : PRg X e t' := fun pins s σ H Q I q => h pins s σ H Q I (i σ H Q q)
theorem vr_1 {a : Expr} {f : VF} {p pos : Pos} (hg : Gl X "range") (hm : X.mg "range" = none) (ha : VE X T a f) (na : starEach [a] X.env = (false, eval a X.env) :: starEach [] X.env := by rfl) : VR X T (.Call (.Name "range" p) [a] [] pos) (r1F f) := by
  refine ⟨PRg.imp (prg_1 hg hm ha.pe na) fun σ H Q h => ?_⟩
  obtain ⟨M, R, ε, i, j, ε', ok, hf, post⟩ := h
  unfold r1F at hf
  split at hf
  · rename_i j ε1 h1
    cases hf
    refine ⟨M, R, ε, _, _, ok, h1, fun v H' M' F p => ?_⟩
    obtain ⟨rfl, rfl, k, s⟩ := Post.int p
    exact ⟨_, rfl, post H' M' k s⟩
  · cases hf
theorem vr_2 {a b : Expr} {f g : VF} {p pos : Pos} (hg : Gl X "range") (hm : X.mg "range" = none) (ha : VE X T a f) (hb : VE X T b g) (na : starEach [a, b] X.env = (false, eval a X.env) :: starEach [b] X.env := by rfl)
    (nb : starEach [b] X.env = (false, eval b X.env) :: starEach [] X.env := by rfl) (hp : (backTo pos (starEach [b] X.env)).any (·.1) = false := by rfl) : VR X T (.Call (.Name "range" p) [a, b] [] pos) (r2F f g) := by
  refine ⟨PRg.imp (prg_2 hg hm ha.pe hb.pe na nb hp) fun σ H Q h => ?_⟩
  obtain ⟨M, R, ε, i, j, ε', ok, hf, post⟩ := h
  unfold r2F at hf
  split at hf
  · rename_i i ε1 h1
    split at hf
    · rename_i j ε2 h2
      cases hf
      refine ⟨M, R, ε, _, _, ok, h1, fun v H' M' F p => ?_⟩
      obtain ⟨rfl, rfl, k, s⟩ := Post.int p
      refine ⟨M', R, ε1, _, _, k, h2, fun v H2 M2 F p2 => ?_⟩
      obtain ⟨rfl, rfl, k2, s2⟩ := Post.int p2
      exact ⟨_, _, rfl, rfl, post H2 M2 k2 (s.trans s2)⟩
    · cases hf
  · cases hf
@[simp] def vLR (r : RF) : VF := fun ε => match r ε with
  | some (a, b, ε1) => if (small a && small b) && room (b - a).toNat then some (.o (.own ((rng a (b - a).toNat).map O.fz)), ε1) else none
  | none => none
@[simp] def vTR (r : RF) : VF := fun ε => match r ε with
  | some (a, b, ε1) => if (small a && small b) && room (b - a).toNat then some (.o (.fz (.tup (rng a (b - a).toNat))), ε1) else none
  | none => none
theorem rgOk_of {a b : Int} (h : ((small a && small b) && room (b - a).toNat) = true) : RgOk a b := by
  rw [Bool.and_eq_true, Bool.and_eq_true] at h
  obtain ⟨⟨h1, h2⟩, h3⟩ := h
  have a1 := small_iff h1
  have a2 := small_iff h2
  rw [room_eq] at h3
  have := of_decide_eq_true h3
  exact ⟨a1.1, a1.2, a2.1, a2.2, by omega⟩
theorem ve_listR {e : Expr} {r : RF} {p pos : Pos} (hc : X.calm = true) (hg : Gl X "list") (hm : X.mg "list" = none) (he : VR X T e r) (na : starEach [e] X.env = (false, eval e X.env) :: starEach [] X.env := by rfl) : VE X T (.Call (.Name "list" p) [e] [] pos) (vLR r) := by
  refine ⟨PE.imp (pe_listRg hc hg hm he.pr na) fun σ H Q h => ?_⟩
  obtain ⟨M, R, ε, ro, ε', ok, hf, post⟩ := h
  unfold vLR at hf
  split at hf
  · rename_i h1
    split at hf
    · rename_i hr
      cases hf
      refine ⟨M, R, ε, _, _, _, ok, h1, fun H' M' k s => ⟨rgOk_of hr, fun q hq => ?_⟩⟩
      exact post _ _ M' [q] (Post.before s (New.post k (New.lst (reps_rg _ _) k.ls k.tab hq)))
    · cases hf
  · cases hf
theorem ve_tupR {e : Expr} {r : RF} {p pos : Pos} (hc : X.calm = true) (hg : Gl X "tuple") (hm : X.mg "tuple" = none) (he : VR X T e r) (na : starEach [e] X.env = (false, eval e X.env) :: starEach [] X.env := by rfl) : VE X T (.Call (.Name "tuple" p) [e] [] pos) (vTR r) := by
  refine ⟨PE.imp (pe_tupRg hc hg hm he.pr na) fun σ H Q h => ?_⟩
  obtain ⟨M, R, ε, ro, ε', ok, hf, post⟩ := h
  unfold vTR at hf
  split at hf
  · rename_i h1
    split at hf
    · rename_i hr
      cases hf
      refine ⟨M, R, ε, _, _, _, ok, h1, fun H' M' k s => ⟨rgOk_of hr, fun q hq => ?_⟩⟩
      exact post _ _ M' [] (Post.before s (New.post k (New.tup (reps_rg _ _) k.ls k.tab hq)))
    · cases hf
  · cases hf
end
section
variable {Pg : Program} {w : World} {K : PySem.W.Frag} {mg : Str → Option Value} {base : Heap} {N : List Str} {k j : Nat} {X : Cx} {sc scope : Scope} {fb : Str → Bool} {cv : Value} {T : List TK} {P : List Nat}
theorem CF.rg1 (c : CF Pg w K mg base N k X sc fb cv) {a : Expr} {f : VF} {p pos : Pos} (hg : glB sc "range" = true) (hm : mg "range" = none) (ha : VE X T a f) (na : starEach [a] X.env = (false, eval a X.env) :: starEach [] X.env := by rfl) : VR X T (.Call (.Name "range" p) [a] [] pos) (r1F f) := vr_1 (c.gl hg).1 (by rw [c.eM]; exact hm) ha na
theorem CF.rg2 (c : CF Pg w K mg base N k X sc fb cv) {a b : Expr} {f g : VF} {p pos : Pos} (hg : glB sc "range" = true) (hm : mg "range" = none) (ha : VE X T a f) (hb : VE X T b g) (na : starEach [a, b] X.env = (false, eval a X.env) :: starEach [b] X.env := by rfl)
    (nb : starEach [b] X.env = (false, eval b X.env) :: starEach [] X.env := by rfl) (hp : (backTo pos (starEach [b] X.env)).any (·.1) = false := by rfl) : VR X T (.Call (.Name "range" p) [a, b] [] pos) (r2F f g) := vr_2 (c.gl hg).1 (by rw [c.eM]; exact hm) ha hb na nb hp
theorem CF.listR (c : CF Pg w K mg base N k X sc fb cv) {e : Expr} {r : RF} {p pos : Pos} (hg : glB sc "list" = true) (hm : mg "list" = none) (he : VR X T e r) (na : starEach [e] X.env = (false, eval e X.env) :: starEach [] X.env := by rfl) : VE X T (.Call (.Name "list" p) [e] [] pos) (vLR r) := ve_listR c.calm (c.gl hg).1 (by rw [c.eM]; exact hm) he na
theorem CF.tupR (c : CF Pg w K mg base N k X sc fb cv) {e : Expr} {r : RF} {p pos : Pos} (hg : glB sc "tuple" = true) (hm : mg "tuple" = none) (he : VR X T e r) (na : starEach [e] X.env = (false, eval e X.env) :: starEach [] X.env := by rfl) : VE X T (.Call (.Name "tuple" p) [e] [] pos) (vTR r) := ve_tupR c.calm (c.gl hg).1 (by rw [c.eM]; exact hm) he na
end
end
end VS


set_option Elab.async false
set_option linter.all false
set_option maxRecDepth 100000
/-! VX17: plain lemmas about tuples of numbers. -/
namespace VS
noncomputable section
open PySem PySem.Spec PyProof.Rows L2
/-- numbers of places as data -/
def natsD (r : List Nat) : List D := r.map fun j => .int (j : Nat)
def rowD (r : List Nat) : D := .tup (natsD r)
theorem natsD_len (r : List Nat) : (natsD r).length = r.length := List.length_map _
theorem toPs_map {α : Type} (f : α → D) : ∀ l : List α, D.toPs (l.map f) = l.map fun x => (f x).toP
  | [] => rfl
  | x :: l => by rw [List.map_cons, D.toPs, toPs_map f l, List.map_cons]
theorem toPs_nats (r : List Nat) : D.toPs (natsD r) = r.map fun j => PyData.int (j : Nat) := by
  unfold natsD
  rw [toPs_map]
  rfl
theorem ints_plain {α : Type} (f : α → Int) : ∀ l : List α, plainPs (l.map fun x => PyData.int (f x)) = true
  | [] => rfl
  | x :: l => by rw [List.map_cons, plainPs, ints_plain f l]; rfl
theorem ints_lay {α : Type} (f : α → Int) : ∀ l : List α, PyData.canLayAll0 (l.map fun x => PyData.int (f x)) = true
  | [] => by simp [PyData.canLayAll0]
  | x :: l => by rw [List.map_cons]; simp [PyData.canLayAll0, PyData.canLay0, ints_lay f l]
theorem ints_depth {α : Type} (f : α → Int) : ∀ l : List α, PyData.depthAll (l.map fun x => PyData.int (f x)) ≤ 1
  | [] => by simp [PyData.depthAll]
  | x :: l => by rw [List.map_cons]; have := ints_depth f l; simp [PyData.depthAll, PyData.depth]; omega
theorem ints_com {α β : Type} (f : α → Int) (g : β → Int) : ∀ (l : List α) (m : List β), comPs (l.map fun x => PyData.int (f x)) (m.map fun x => PyData.int (g x)) = true
  | [], m => by cases m <;> rfl
  | x :: l, [] => rfl
  | x :: l, y :: m => by rw [List.map_cons, List.map_cons, comPs]; simp [comP, ints_com f g l m]
theorem shaped_ints {α : Type} (f : α → Int) (l : List α) : SeqAt.shaped (.tuple (l.map fun x => PyData.int (f x))) = true := by
  have h1 := ints_lay f l
  have h2 := ints_depth f l
  simp [SeqAt.shaped, PyData.canLay0, PyData.depth, h1]
  omega
theorem any_int {α : Type} (f : α → Int) (j : Int) : ∀ l : List α, ((l.map fun x => PyData.int (f x)).any fun z => PyData.eqv z (.int j)) = l.any fun x => decide (f x = j)
  | [] => rfl
  | x :: l => by rw [List.map_cons, List.any_cons, List.any_cons, any_int f j l]; simp [PyData.eqv]; rfl
theorem in_row (j : Nat) (r : List Nat) : inD (.int j) (rowD r) = some (decide (j ∈ r)) := by
  have h1 : SeqAt.shaped (D.toP (.int (j : Int))) = true := by simp [D.toP, SeqAt.shaped, PyData.canLay0, PyData.depth]
  have h2 : SeqAt.shaped (D.toP (.tup (natsD r))) = true := by
    rw [D.toP, toPs_nats]
    exact shaped_ints _ r
  unfold rowD inD
  simp only [h1, h2, Bool.and_self, if_true]
  rw [toPs_nats, D.toP, any_int]
  congr 1
  rw [Bool.eq_iff_iff, List.any_eq_true, decide_eq_true_iff]
  constructor
  · rintro ⟨x, hx, e⟩
    have e : ((x : Nat) : Int) = (j : Int) := by simpa using e
    have : x = j := by omega
    rw [← this]; exact hx
  · intro h
    exact ⟨j, h, by simp⟩
/-- (number, row) as data -/
def pairD (p : Int × List Nat) : D := .tup [.int p.1, rowD p.2]
theorem sortOk_pairs (l : List (Int × List Nat)) (h : l.length ≤ 1000000) : sortOk (l.map pairD) = true := by
  unfold sortOk
  rw [Bool.and_eq_true, Bool.and_eq_true]
  refine ⟨⟨List.all_eq_true.2 fun d hd => ?_, List.all_eq_true.2 fun d hd => List.all_eq_true.2 fun e he => ?_⟩, room_of (by simpa using h)⟩
  · obtain ⟨p, _, rfl⟩ := List.mem_map.1 hd
    have h1 := ints_plain (fun j : Nat => (j : Int)) p.2
    have h2 := ints_depth (fun j : Nat => (j : Int)) p.2
    simp [pairD, rowD, D.toP, D.toPs, toPs_nats, plainP, plainPs, h1, PyData.depth, PyData.depthAll]
    omega
  · obtain ⟨p, _, rfl⟩ := List.mem_map.1 hd
    obtain ⟨q, _, rfl⟩ := List.mem_map.1 he
    have h1 := ints_com (fun j : Nat => (j : Int)) (fun j : Nat => (j : Int)) p.2 q.2
    simp [pairD, rowD, D.toP, D.toPs, toPs_nats, comP, comPs, h1]
theorem sortOk_nats (l : List Nat) (h : l.length ≤ 1000000) : sortOk (natsD l) = true := by
  unfold sortOk natsD
  rw [Bool.and_eq_true, Bool.and_eq_true]
  refine ⟨⟨List.all_eq_true.2 fun d hd => ?_, List.all_eq_true.2 fun d hd => List.all_eq_true.2 fun e he => ?_⟩, room_of (by simpa using h)⟩
  · obtain ⟨p, _, rfl⟩ := List.mem_map.1 hd
    simp [D.toP, plainP, PyData.depth]
  · obtain ⟨p, _, rfl⟩ := List.mem_map.1 hd
    obtain ⟨q, _, rfl⟩ := List.mem_map.1 he
    simp [D.toP, comP]
/-- data that are all of one form -/
theorem form_of {α : Type} (f : α → D) (Q : α → Prop) : ∀ {l : List D}, (∀ d ∈ l, ∃ x, d = f x ∧ Q x) → ∃ xs : List α, l = xs.map f ∧ ∀ x ∈ xs, Q x
  | [], _ => ⟨[], rfl, by simp⟩
  | d :: l, h => by
    obtain ⟨xs, e, h2⟩ := form_of f Q (l := l) fun x hx => h x (by simp [hx])
    obtain ⟨x, e2, hx⟩ := h d (by simp)
    refine ⟨x :: xs, by rw [List.map_cons, e, e2], fun y hy => ?_⟩
    rcases List.mem_cons.1 hy with rfl | hy
    · exact hx
    · exact h2 y hy
theorem sortD_form {α : Type} (f : α → D) (l : List α) : ∃ xs : List α, sortD (l.map f) = xs.map f ∧ xs.length = l.length ∧ ∀ x ∈ xs, x ∈ l := by
  obtain ⟨xs, e, h⟩ := form_of f (· ∈ l) (l := sortD (l.map f)) fun d hd => by
    obtain ⟨x, hx, rfl⟩ := List.mem_map.1 ((sortD_perm _).mem_iff.1 hd)
    exact ⟨x, rfl, hx⟩
  refine ⟨xs, e, ?_, h⟩
  have := (sortD_perm (l.map f)).length_eq
  rw [e] at this
  simpa using this
end
end VS


set_option Elab.async false
set_option linter.all false
set_option maxRecDepth 100000
/-! VX18: plain lemmas about generator expressions. -/
namespace VS
noncomputable section
open PySem PySem.Spec PyProof.Rows L2
theorem gr_some {α : Type} {own : List Nat} {stop : D → Option Bool} {b : BF} {c : TF} {f : VF} {ε : Env'} (d : α → D) (t : α → Bool) (g : α → O) : ∀ {l : List α}, (∀ x ∈ l, ∃ ε1, b (d x) ε = some ε1 ∧ c ε1 = some (t x, ε1) ∧ (t x = true → f ε1 = some (.o (g x), ε1) ∧ stop (g x).val = some false) ∧ wipeE ε1 own = ε) →
    gRun own stop b c f (l.map d) ε = some (false, (l.filter t).map (fun x => (g x).val), ε)
  | [], _ => rfl
  | x :: l, h => by
    obtain ⟨ε1, h1, h2, h3, h4⟩ := h x (by simp)
    have ih := gr_some (own := own) (stop := stop) (b := b) (c := c) (f := f) (ε := ε) d t g (l := l) fun y hy => h y (by simp [hy])
    rw [List.map_cons, gRun]
    simp only [h1, h2]
    cases ht : t x with
    | false => simp only [ht, h4, ih]; simp [ht]
    | true => simp only [ht, (h3 ht).1, (h3 ht).2, h4, ih]; simp [ht]
theorem gr2_some {α β : Type} {own own1 : List Nat} {stop : D → Option Bool} {b b1 : BF} {c1 : TF} {it1 : IF} {f : VF} {ε : Env'} (d : α → D) (e : β → D) (m : α → List β) (t : α → β → Bool) (g : α → β → O) : ∀ {l : List α}, (∀ x ∈ l, ∃ ε1, b (d x) ε = some ε1 ∧ it1 ε1 = some ((m x).map e, ε1) ∧ wipeE ε1 own1 = ε1 ∧ (∀ y ∈ m x, ∃ ε2, b1 (e y) ε1 = some ε2 ∧ c1 ε2 = some (t x y, ε2) ∧ (t x y = true → f ε2 = some (.o (g x y), ε2) ∧ stop (g x y).val = some false) ∧ wipeE ε2 own1 = ε1) ∧ wipeE ε1 own = ε) →
    gRun2 own own1 stop b tYes' it1 b1 c1 f (l.map d) ε = some (false, l.flatMap fun x => ((m x).filter (t x)).map fun y => (g x y).val, ε)
  | [], _ => rfl
  | x :: l, h => by
    obtain ⟨ε1, h1, h2, h3, h4, h5⟩ := h x (by simp)
    have ih := gr2_some (own := own) (own1 := own1) (stop := stop) (b := b) (b1 := b1) (c1 := c1) (it1 := it1) (f := f) (ε := ε) d e m t g (l := l) fun y hy => h y (by simp [hy])
    have hg := gr_some (own := own1) (stop := stop) (b := b1) (c := c1) (f := f) (ε := ε1) e (t x) (g x) (l := m x) h4
    rw [List.map_cons, gRun2]
    simp only [h1, tYes', h2, h3, hg, h5, ih, List.flatMap_cons]
theorem snoc_ind {α : Type} {P : List α → Prop} (h0 : P []) (h1 : ∀ l x, P l → P (l ++ [x])) (l : List α) : P l := by
  have key : ∀ l : List α, P l.reverse := by
    intro l
    induction l with
    | nil => exact h0
    | cons x l ih => rw [List.reverse_cons]; exact h1 _ _ ih
  have := key l.reverse
  rwa [List.reverse_reverse] at this
end
end VS


set_option Elab.async false
set_option linter.all false
set_option maxRecDepth 100000
/-! VX19: min, max of alike data; sum of a tuple. -/
namespace VS
noncomputable section
open PySem PySem.Spec PyProof.Rows L2
open PySem.W (minD maxD dataLt alike AlikeAll)
def minOk (l : List D) : Bool := (l.all fun d => plainP d.toP && decide (d.toP.depth ≤ 50)) && (l.all fun d => l.all fun e => alike d.toP e.toP)
def pickMin (x : D) (xs : List D) : D := xs.foldl (fun a y => if dataLt y.toP a.toP then y else a) x
theorem pickMin_toP : ∀ (xs : List D) (x : D), (pickMin x xs).toP = minD x.toP (xs.map D.toP)
  | [], x => rfl
  | y :: xs, x => by
    have ih := pickMin_toP xs (if dataLt y.toP x.toP then y else x)
    unfold pickMin minD at *
    rw [List.foldl_cons, ih, List.map_cons, List.foldl_cons]
    congr 1
    split <;> rfl
theorem pickMin_mem : ∀ (xs : List D) (x : D), pickMin x xs ∈ x :: xs
  | [], x => by simp [pickMin]
  | y :: xs, x => by
    have ih := pickMin_mem xs (if dataLt y.toP x.toP then y else x)
    have e : pickMin x (y :: xs) = pickMin (if dataLt y.toP x.toP then y else x) xs := rfl
    rw [e]
    rcases List.mem_cons.1 ih with h | h
    · rw [h]; split <;> simp
    · simp [h]
@[simp] def pMinT : List D → Option O
  | [.lst (d :: l)] => if minOk (d :: l) then some (.fz (pickMin d l)) else none
  | [.tup (d :: l)] => if minOk (d :: l) then some (.fz (pickMin d l)) else none
  | _ => none
theorem minOk_iff {ds : List D} (h : minOk ds = true) : (∀ d ∈ ds, plainP d.toP = true ∧ d.toP.depth ≤ 50) ∧ (∀ d ∈ ds, ∀ e ∈ ds, alike d.toP e.toP = true) := by
  unfold minOk at h
  rw [Bool.and_eq_true] at h
  refine ⟨fun d hd => ?_, fun d hd e he => ?_⟩
  · have := List.all_eq_true.mp h.1 d hd
    rw [Bool.and_eq_true, decide_eq_true_eq] at this
    exact this
  · exact List.all_eq_true.mp (List.all_eq_true.mp h.2 d hd) e he
theorem depthAll_le {b : Nat} : ∀ {l : List PyData}, (∀ x ∈ l, x.depth ≤ b) → PyData.depthAll l ≤ b
  | [], _ => by simp [PyData.depthAll]
  | x :: l, h => by
    have h1 := h x (by simp)
    have h2 := depthAll_le (l := l) fun y hy => h y (by simp [hy])
    simp [PyData.depthAll]
    omega
theorem minOk_alike {ds : List D} (h : minOk ds = true) : AlikeAll (ds.map D.toP) ∧ PyData.depthAll (ds.map D.toP) ≤ 50 := by
  obtain ⟨h1, h2⟩ := minOk_iff h
  refine ⟨⟨fun x hx y hy => ?_, fun x hx e => ?_⟩, depthAll_le fun x hx => ?_⟩
  · obtain ⟨d, hd, rfl⟩ := List.mem_map.1 hx
    obtain ⟨e, he, rfl⟩ := List.mem_map.1 hy
    exact h2 d hd e he
  · obtain ⟨d, hd, rfl⟩ := List.mem_map.1 hx
    have := (h1 d hd).1
    rw [e] at this
    simp [plainP] at this
  · obtain ⟨d, hd, rfl⟩ := List.mem_map.1 hx
    exact (h1 d hd).2
section
variable {X : Cx} {T : List TK}
theorem toPs_eq : ∀ l : List D, D.toPs l = l.map D.toP
  | [] => rfl
  | d :: l => by rw [D.toPs, toPs_eq l, List.map_cons]
theorem min_post {pins : List (Addr × Obj)} {σ : L2.St} {H : Hp} {s : Shared} {A : List Addr} {d : D} {l : List D} {vs : List V} {us : List Value} {Q : L2.VK} (I : Inv X pins σ H s) (rv : Vals vs us) (hr : Reps X.K H A (d :: l) vs) (ok : minOk (d :: l) = true) (post : ∀ v H' F, New X.K H A (.fz (pickMin d l)) v H' F → Q v H')
    (i : Nat) (v : Value) (h' : Heap) (tk : Nat) (bs : List Addr) (hi : us[i]? = some v) (r : Reads h' v (minD d.toP (l.map D.toP)) bs) (k : ∀ b o, s.heap.get? b = some o → h'.get? b = some o) : EP X pins σ Q v { s with heap := h', toks := tk } := by
  obtain ⟨ok1, ok2⟩ := minOk_iff ok
  obtain ⟨Tr, e1, e2, e3, ht⟩ := trip hr rv
  have hv : v ∈ us := List.mem_of_getElem? hi
  rw [← e3] at hv
  obtain ⟨t, hT, rfl⟩ := List.mem_map.1 hv
  have hm : t.1 ∈ d :: l := by rw [← e1]; exact List.mem_map.mpr ⟨t, hT, rfl⟩
  obtain ⟨as, r0⟩ := Dp.reads I _ _ _ (ht t hT).1.dp (ht t hT).2
  have r1 := keeps1 (fun b o e _ => k b o e) (ok1 _ hm).1 r0
  have pm := pickMin_mem l d
  rw [← pickMin_toP] at r
  have e := (reads_inj _).1 _ _ _ _ _ (Nat.le_refl _) (ok1 _ hm).1 (ok1 _ pm).1 r1 r
  have e' : t.1 = pickMin d l := toP_inj _ _ (ok1 _ hm).1 e
  refine ⟨t.2.1, H, I.kept k, (ht t hT).2, post _ H [] (New.fz ?_)⟩
  rw [← e']
  exact (ht t hT).1
theorem cd_minT (hc : X.calm = true) (hu : X.A.units + 65 < cLine) : CallR X (.builtin "min") (rP X.K T pMinT) := by
  intro pins s σ H vs us Q I r h
  obtain ⟨A, ds, o, lA, tA, hx, hp, post⟩ := h
  unfold pMinT at hp
  split at hp
  · rename_i d l
    split at hp
    · rename_i ok
      cases hp
      obtain ⟨v, rfl, hv⟩ := hx.one
      obtain ⟨a, ws, rfl, h1, h2⟩ := hv
      obtain ⟨its, rv, hl, _⟩ := I.list (SqL.of h1)
      rw [Vals.ref1 r]
      obtain ⟨al, dp⟩ := minOk_alike ok
      obtain ⟨as, ra⟩ := Dp.readsAll I _ _ _ h2.dp rv
      rw [toPs_eq] at ra
      exact PySem.W.min_list_data (I.ok.hd hc) hl.isList (by simpa using ra) al (by rw [List.map_cons] at dp; omega) fun i v h' tk bs hi r k => min_post I rv h2 ok post i v h' tk bs (by simpa using hi) r k
    · cases hp
  · rename_i d l
    split at hp
    · rename_i ok
      cases hp
      obtain ⟨v, rfl, hv⟩ := hx.one
      obtain ⟨a, ws, rfl, h1, h2⟩ := hv
      obtain ⟨its, rv, hl, _⟩ := I.tuple h1
      rw [Vals.ref1 r]
      obtain ⟨al, dp⟩ := minOk_alike ok
      obtain ⟨as, ra⟩ := Dp.readsAll I _ _ _ h2.dp rv
      rw [toPs_eq] at ra
      exact PySem.W.min_tuple_data (I.ok.hd hc) hl (by simpa using ra) al (by rw [List.map_cons] at dp; omega) fun i v h' tk bs hi r k => min_post I rv h2 ok post i v h' tk bs (by simpa using hi) r k
    · cases hp
  · cases hp
end
end
end VS


set_option Elab.async false
set_option linter.all false
set_option maxRecDepth 100000
/-! VX20: min of any list or tuple, sum of a list or a tuple. -/
namespace VS
noncomputable section
open PySem PySem.Spec PyProof.Rows L2
section
variable {X : Cx} {T : List TK}
@[simp] def pMinA (ds : List D) : Option O := match pMinL ds with
  | some o => some o
  | none => pMinT ds
theorem cd_minA (hc : X.calm = true) (hu : X.A.units + 65 < cLine) : CallR X (.builtin "min") (rP X.K T pMinA) := CallR.imp ((cd_minL (T := T) hc).or (cd_minT (T := T) hc hu)) fun vs H Q h => by
  obtain ⟨A, ds, o, lA, tA, hx, hp, post⟩ := h
  unfold pMinA at hp
  split at hp
  · rename_i o' e
    cases hp
    exact .inl ⟨A, ds, _, lA, tA, hx, e, post⟩
  · exact .inr ⟨A, ds, _, lA, tA, hx, hp, post⟩
@[simp] def pSumT : List D → Option O
  | [.tup l] => match intsOf l with
    | some ns => some (.fz (.int ns.sum))
    | none => none
  | _ => none
theorem cd_sumT (hc : X.calm = true) : CallR X (.builtin "sum") (rP X.K T pSumT) := by
  intro pins s σ H vs us Q I r h
  obtain ⟨A, ds, o, lA, tA, hx, hp, post⟩ := h
  unfold pSumT at hp
  split at hp
  · rename_i l
    split at hp
    · rename_i ns hns
      cases hp
      obtain ⟨v, rfl, hv⟩ := hx.one
      obtain ⟨a, ws, rfl, h1, h2⟩ := hv
      rw [intsOf_eq hns] at h2
      rw [h2.intsV] at h1
      obtain ⟨its, rv, hl, _⟩ := I.tuple h1
      rw [Vals.ref1 r]
      have hi := rv.ints
      obtain ⟨xs, hx⟩ := hi.allInts.items
      have hn : numsOf (intItems xs).toList = ns := by rw [← hx]; exact hi.numsOf
      rw [nums_intItems] at hn
      have hl : s.heap.IsTuple a its.toArray := hl
      rw [hx] at hl
      refine PySem.W.ktm_sumG (I.ok.hd hc) hl fun h' tk t' hk => ⟨.int _, H, I.kept hk, ⟨_, rfl⟩, ?_⟩
      rw [preSum_eq, List.take_of_length_le (by simp), hn]
      exact post _ H [] (New.fz (by rw [Rep]))
    · cases hp
  · cases hp
@[simp] def pSumA : List D → Option O
  | [.lst l] => pSumL [.lst l]
  | ds => pSumT ds
theorem cd_sumA (hc : X.calm = true) : CallR X (.builtin "sum") (rP X.K T pSumA) := CallR.imp ((cd_sumL (T := T) hc).or (cd_sumT (T := T) hc)) fun vs H Q h => by
  obtain ⟨A, ds, o, lA, tA, hx, hp, post⟩ := h
  unfold pSumA at hp
  split at hp
  · exact .inl ⟨A, _, _, lA, tA, hx, hp, post⟩
  · exact .inr ⟨A, _, _, lA, tA, hx, hp, post⟩
end
end
end VS


set_option Elab.async false
set_option linter.all false
set_option maxRecDepth 100000
/-! VX21: sorted(set(xs)), xs a list or a tuple of ints. -/
namespace VS
noncomputable section
open PySem PySem.Spec PyProof.Rows L2
/-- a new set's object -/
abbrev emptyS (w : World) : Obj := { cls := .type "set", dict := none, data := .set #[] 0 (.fresh 0 0 (!w.params.followText "set-order")) }
section
variable {P : Program} {w : World} {A : Around} {E : Value → Shared → Prop} {s : Shared}
/-- all that the new set's filling asks -/
theorem fill_lst {l : Addr} {items : Array Value} {ns : List Int} {B : Around} {R : Result → Shared → Prop} (hh : B.in1.handled = none) (hl : s.heap.IsList l items) (hit : IntsAre items.toList ns) (hb : ns.length + 1 < scanBound) (tk : Nat)
    (h : ∀ s' c, SetR w s'.heap s.heap.objs.size (fun j => decide (j ∈ ns)) c → c ≤ ns.length → s'.gens = s.gens → s'.drawn = s.drawn → s'.os = s.os → (∀ b o, s.heap.get? b = some o → s'.heap.get? b = some o) → R (.ok (.ret .none)) s') :
    codeAny (model P w) B (.builtin "set.update.loop" ⟨[.ref s.heap.objs.size, .ref (s.heap.push (emptyS w)).objs.size], []⟩) R { s with heap := (s.heap.push (emptyS w)).push { cls := .type "list_iterator", data := .fields #[.ref l, .int 0 0] }, toks := tk } := by
  have sz : items.size = ns.length := by
    have q := IntsAre.length hit
    rwa [Array.length_toList] at q
  obtain ⟨ol, gl, _⟩ := id hl
  have lt := Heap.lt_size gl
  have z1 : (s.heap.push (emptyS w)).objs.size = s.heap.objs.size + 1 := Heap.size_push ..
  have gS : (s.heap.push (emptyS w)).get? s.heap.objs.size = some (emptyS w) := Heap.get?_push_size _ rfl
  have l1 : (s.heap.push (emptyS w)).IsList l items := hl.push _
  refine set_update_ints (Walks.list hh _ l (by rw [z1]; exact Nat.ne_of_lt (Nat.lt_succ_of_lt lt)) items).toS s.heap.objs.size (by rw [z1]; simp only [List.mem_cons, List.not_mem_nil, or_false, not_or]; exact ⟨Nat.ne_of_lt (Nat.lt_succ_self _), Nat.ne_of_gt lt⟩) ns sz hb (fun i v hv => ?_) items.size 0 _ (by omega) (Nat.zero_le _) ⟨⟨_, Heap.get?_push_size _ rfl, rfl, rfl⟩, l1.push _⟩
    ⟨0, Nat.le_refl 0, setR_new_at (Heap.get?_push_of_some _ gS)⟩ fun s' c mv hc R' => h s' c R' (by omega) mv.gens mv.drawn mv.os fun b o e => ?_
  · have hi : i < ns.length := by rw [← sz]; exact (Array.getElem?_eq_some_iff.mp hv).1
    obtain ⟨t, e⟩ := PyProof.Rows.IntsAre.int_at hit i v (by rw [Array.getElem?_toList]; exact hv)
    refine ⟨ns[i], t, List.getElem?_eq_getElem hi, ?_⟩
    rw [e, List.getD_eq_getElem?_getD, List.getElem?_eq_getElem hi]
    rfl
  · have b0 := Heap.lt_size e
    exact mv.heap b o (by rw [z1]; simp only [List.mem_cons, List.not_mem_nil, or_false, not_or]; exact ⟨Nat.ne_of_lt b0, Nat.ne_of_lt (Nat.lt_succ_of_lt b0)⟩) (Heap.get?_push_of_some _ (Heap.get?_push_of_some _ e))
set_option maxHeartbeats 3200000 in
theorem set_lst {l : Addr} {items : Array Value} (ns : List Int) {Q : Value → Shared → Prop} (hh : A.handled = none) (hl : s.heap.IsList l items) (hit : IntsAre items.toList ns) (hb : ns.length + 1 < scanBound)
    (h : ∀ (h' : Heap) (tk c : Nat), SetR w h' s.heap.objs.size (fun j => decide (j ∈ ns)) c → c ≤ ns.length → (∀ b o, s.heap.get? b = some o → h'.get? b = some o) → Q (.ref s.heap.objs.size) { s with heap := h', toks := tk }) : wpAny (model P w) A (call (.type "set") [.ref l]) Q E s := by
  have mr := F.called_set.mro
  obtain ⟨c, tl, hmro⟩ := mr
  have a1 := F.called_set.made
  have a2 := F.called_set.sub
  have a3 := F.called_set.notType
  have a4 := F.called_set.canCreate
  have a5 := F.typeCall_set_1 (.ref l)
  refine wpAny_call (codeAny_of_tree (wpAny_pure ⟨Code.quiet_builtin _ (by decide +kernel), codeAny_builtin F.entry_type_call ?_⟩))
  rw [Around.under_plain (weight_type_call_type "set" [.ref l] []) rfl]
  repeat (any_goals (first | assumption | wp_step))
  refine codeAny_mono (code_set_led1 (.ref l) (E := E) (Q₁ := fun u s1 => u = .ref s.heap.objs.size ∧ s1 = { s with heap := s.heap.push (emptyS w) }) ⟨rfl, rfl⟩) fun r s1 hr => ?_
  rcases r with e | fl
  case error => exact hr
  cases fl <;> try exact hr.elim
  obtain ⟨rfl, rfl⟩ := hr
  have gS : (s.heap.push (emptyS w)).get? s.heap.objs.size = some (emptyS w) := Heap.get?_push_size _ rfl
  have b1 : Shared.TypeIs { s with heap := s.heap.push (emptyS w) } (.ref s.heap.objs.size) "set" := ⟨_, gS, rfl⟩
  have b2 := F.called_set.init.lookup
  have b3 := F.called_set.init.bind (.ref s.heap.objs.size)
  repeat (any_goals (first | assumption | wp_step))
  refine codeAny_mono (codeAny_call_builtin (R := wants (fun r s2 => r = .none ∧ ∃ h' tk c, s2 = { s with heap := h', toks := tk } ∧ SetR w h' s.heap.objs.size (fun j => decide (j ∈ ns)) c ∧ c ≤ ns.length ∧ ∀ b o, s.heap.get? b = some o → h'.get? b = some o) E)
    F.called_set.init.plain F.entry_set_init (check_set_init_1 b1 ?_)) fun r s2 hr => ?_
  · obtain ⟨⟨c1, c2, c3, c4⟩, gl, rfl, nl, rfl⟩ := id hl
    have gl2 := Heap.get?_push_of_some (emptyS w) gl
    have d1 := F.sub_list_set
    have d2 := F.sub_list_frozenset
    have d3 : (Value.type "list" == Value.type "dict") = false := by decide
    unfold Builtin.«set.__init__» noKeywords Builtin.Frozenset.updateFrom
    generalize hP : pyIter = PI
    wp_walk
    subst hP
    refine wpAny_pyIter_list (hl.push _) (wpAny_bind (wpAny_runValue (fill_lst (by simp [hh]) hl hit hb _ fun s' c' e1 e2 e3 e4 e5 e6 => ?_)))
    obtain ⟨h', g2, dr2, tk', os2⟩ := s'
    have e3 : g2 = s.gens := e3
    have e4 : dr2 = s.drawn := e4
    have e5 : os2 = s.os := e5
    subst e3 e4 e5
    show wpAny _ _ _ _ _ _
    refine wpAny_pure ?_
    show wpAny _ _ (ret Value.none) _ _ _
    exact wpAny_pure ⟨rfl, h', tk', c', rfl, e1, e2, e6⟩
  · rcases r with e | fl
    case error => exact hr
    cases fl <;> try exact hr.elim
    obtain ⟨rfl, h', tk, c', rfl, e1, e2, e3⟩ := hr
    repeat (any_goals (first | assumption | wp_step))
    exact h _ _ _ e1 e2 e3
end
end
end VS


set_option Elab.async false
set_option linter.all false
set_option maxRecDepth 100000
/-! VX22: sorted(set(xs)), xs a list or a tuple of ints: the rule. -/
namespace VS
noncomputable section
open PySem PySem.Spec PyProof.Rows L2
/-! ### ascending lists -/
theorem asc_ext : ∀ {l m : List Int}, l.Pairwise (· < ·) → m.Pairwise (· < ·) → (∀ k, k ∈ l ↔ k ∈ m) → l = m
  | [], [], _, _, _ => rfl
  | [], b :: m, _, _, h => absurd ((h b).2 List.mem_cons_self) (by simp)
  | a :: l, [], _, _, h => absurd ((h a).1 List.mem_cons_self) (by simp)
  | a :: l, b :: m, hl, hm, h => by
    obtain ⟨l1, l2⟩ := List.pairwise_cons.1 hl
    obtain ⟨m1, m2⟩ := List.pairwise_cons.1 hm
    have e : a = b := by
      rcases List.mem_cons.1 ((h a).1 List.mem_cons_self) with e | e
      · exact e
      · rcases List.mem_cons.1 ((h b).2 List.mem_cons_self) with f | f
        · exact f.symm
        · have := m1 a e; have := l1 b f; omega
    subst e
    rw [asc_ext l2 m2 fun k => ⟨fun hk => ?_, fun hk => ?_⟩]
    · rcases List.mem_cons.1 ((h k).1 (List.mem_cons_of_mem _ hk)) with e | e
      · have := l1 k hk; omega
      · exact e
    · rcases List.mem_cons.1 ((h k).2 (List.mem_cons_of_mem _ hk)) with e | e
      · have := m1 k hk; omega
      · exact e
def ins1 (k : Int) : List Int → List Int
  | [] => [k]
  | a :: l => if k < a then k :: a :: l else if k = a then a :: l else a :: ins1 k l
theorem ins1_mem (k j : Int) : ∀ l, j ∈ ins1 k l ↔ j = k ∨ j ∈ l
  | [] => by simp [ins1]
  | a :: l => by
    rw [ins1]
    split
    · simp
    · split
      · rename_i e; subst e; simp
      · rw [List.mem_cons, ins1_mem k j l, List.mem_cons]
        constructor <;> (rintro (h | h | h) <;> simp [h])
theorem ins1_asc (k : Int) : ∀ l : List Int, l.Pairwise (· < ·) → (ins1 k l).Pairwise (· < ·)
  | [], _ => by simp [ins1]
  | a :: l, h => by
    obtain ⟨h1, h2⟩ := List.pairwise_cons.1 h
    rw [ins1]
    split
    · rename_i c
      refine List.pairwise_cons.2 ⟨fun b hb => ?_, h⟩
      rcases List.mem_cons.1 hb with rfl | hb
      · exact c
      · have := h1 b hb; omega
    · split
      · exact h
      · refine List.pairwise_cons.2 ⟨fun b hb => ?_, ins1_asc k l h2⟩
        rcases (ins1_mem k b l).1 hb with rfl | hb
        · omega
        · exact h1 b hb
/-- the members, ascending -/
def usort (ns : List Int) : List Int := ns.foldr ins1 []
theorem usort_mem (j : Int) : ∀ ns, j ∈ usort ns ↔ j ∈ ns
  | [] => by simp [usort]
  | a :: l => by
    show j ∈ ins1 a (usort l) ↔ _
    rw [ins1_mem, usort_mem j l, List.mem_cons]
theorem usort_asc : ∀ ns, (usort ns).Pairwise (· < ·)
  | [] => by simp [usort]
  | a :: l => ins1_asc a _ (usort_asc l)
@[simp] def pSetS : List D → Option O
  | [d] => match seqOf d with
    | some ds => match intsOf ds with
      | some ns => if ns.length ≤ 60 then some (.own ((usort ns).map fun i => O.fz (.int i))) else none
      | none => none
    | none => none
  | _ => none
section
variable {X : Cx} {T : List TK}
def rSetA (K : PySem.W.Frag) (w : World) : List V → Hp → L2.VK → Prop := fun (vs : List V) H Q => ∃ (a : Addr) (ns : List Int), vs = [.ref a] ∧ (SqT K H a (ns.map V.int) ∨ SqL K H a (ns.map V.int)) ∧ ns.length ≤ 60 ∧
  ∀ p n, n ≤ ns.length → H p = none → Q (.ref p) (upd H p (SetO w p (fun j => decide (j ∈ ns)) n))
theorem cr_setA (hc : X.calm = true) : CallR X (.type "set") (rSetA X.K X.w) := by
  intro pins s σ H vs us Q I r h
  obtain ⟨a, ns, rfl, hq, hl, q⟩ := h
  rw [Vals.ref1 r]
  have fin : ∀ (h' : Heap) (tk c : Nat), SetR X.w h' s.heap.objs.size (fun j => decide (j ∈ ns)) c → c ≤ ns.length → (∀ b o, s.heap.get? b = some o → h'.get? b = some o) → EP X pins σ Q (.ref s.heap.objs.size) { s with heap := h', toks := tk } :=
    fun h' tk c R hcn k => ⟨.ref _, _, I.laid (t' := tk) k (Nat.le_refl _) (setO_new R), rfl, q _ c hcn (I.hok.fresh (Nat.le_refl _))⟩
  rcases hq with hq | hq
  · obtain ⟨its, rv, pt, hz⟩ := I.tuple hq
    exact call_set_tupI ns (I.ok.hd hc) (show s.heap.IsTuple a its.toArray from pt) (by simpa using ints_of_vals rv) (by unfold scanBound; omega) fin
  · obtain ⟨its, rv, pl, hz⟩ := I.list hq
    exact set_lst ns (I.ok.hd hc) pl.isList (by simpa using ints_of_vals rv) (by unfold scanBound; omega) fin
theorem ve_setS {e : Expr} {f : VF} {p1 p2 q1 q2 : Pos} (hc : X.calm = true) (hg : Gl X "sorted") (hm : X.mg "sorted" = none) (hg2 : Gl X "set") (hm2 : X.mg "set" = none) (ha : VA X T [e] [f])
    (he : starEach [e] X.env = (false, eval e X.env) :: starEach [] X.env := by rfl) (hpl : (backTo q2 (starEach [] X.env)).any (·.1) = false := by rfl)
    (he2 : starEach [Expr.Call (.Name "set" p2) [e] [] q2] X.env = (false, eval (.Call (.Name "set" p2) [e] [] q2) X.env) :: starEach [] X.env := by rfl) (hpl2 : (backTo q1 (starEach [] X.env)).any (·.1) = false := by rfl) :
    VE X T (.Call (.Name "sorted" p1) [.Call (.Name "set" p2) [e] [] q2] [] q1) (vPrim pSetS [f]) := by
  have in1 : PE X (.Call (.Name "set" p2) [e] [] q2) (tCB (rSetA X.K X.w) (chain X.K T [f])) := pe_callTy (cr_setA hc) hg2 hm2 (by rfl) ha.pa (by decide) (by decide) he hpl
  have out := pe_callB (p := p1) (pos := q1) (cr_sortedSet hc) hg hm (by rfl) (pa_cons in1 pa_nil he2) (by decide) (by decide) he2 hpl2
  refine ⟨PE.imp out fun σ H Q h => ?_⟩
  have h := tPrim_of h
  show chain X.K T [f] σ H fun vs H1 => rSetA X.K X.w vs H1 fun v H2 => rSortedSet X.w [v] H2 Q
  obtain ⟨M0, R0, ε0, r0, ε0', ok0, hf0, post0⟩ := h
  refine ⟨M0, R0, ε0, r0, ε0', ok0, hf0, fun v0 H1 M1 F1 p0 => ?_⟩
  have r := post0 v0 H1 M1 F1 p0
  show rSetA X.K X.w [v0] H1 fun v H2 => rSortedSet X.w [v] H2 Q
  obtain ⟨A, ds, o, lA, tA, hx, hp, post⟩ := r
  unfold pSetS at hp
  split at hp
  · rename_i d
    split at hp
    · rename_i l hl
      split at hp
      · rename_i ns hns
        split at hp
        · rename_i hlen
          cases hp
          obtain ⟨v, ev, hv⟩ := hx.one
          rw [ev]
          obtain ⟨a, ws, rfl, hq, hr⟩ := hv.seqV hl
          rw [intsOf_eq hns] at hr
          rw [hr.intsV] at hq
          refine ⟨a, ns, rfl, hq, hlen, fun p n hn hpn => ⟨p, _, n, rfl, upd_same, by omega, fun ns' p' asc mem _ hp' => ?_⟩⟩
          have e : ns' = usort ns := asc_ext asc (usort_asc ns) fun k => by rw [mem, usort_mem, decide_eq_true_eq]
          subst e
          have hne : p' ≠ p := fun z => by subst z; rw [upd_same] at hp'; cases hp'
          rw [upd_ne hne] at hp'
          refine post _ _ [p'] ⟨fun b o e => ?_, fun b hb => ?_, by simp, ?_⟩
          · rw [upd_ne (ne_of_none e hp'), upd_ne (ne_of_none e hpn)]; exact e
          · have e : b = p' := by simpa using hb
            rw [e]; exact hp'
          · rw [RepO]
            refine ⟨p', (usort ns).map V.int, [], rfl, upd_same, rfl, ?_⟩
            have e : (usort ns).map (fun i => O.fz (.int i)) = ((usort ns).map D.int).map O.fz := by rw [List.map_map]; rfl
            rw [e]
            exact RepOs.data Reps.ints
        · cases hp
      · cases hp
    · cases hp
  · cases hp
end
section
variable {Pg : Program} {w : World} {K : PySem.W.Frag} {mg : Str → Option Value} {base : Heap} {N : List Str} {k : Nat} {X : Cx} {sc : Scope} {fb : Str → Bool} {cv : Value} {T : List TK}
theorem CF.setS (c : CF Pg w K mg base N k X sc fb cv) {e : Expr} {f : VF} {p1 p2 q1 q2 : Pos} (hg : glB sc "sorted" = true) (hm : mg "sorted" = none) (hg2 : glB sc "set" = true) (hm2 : mg "set" = none) (ha : VE X T e f)
    (he : starEach [e] X.env = (false, eval e X.env) :: starEach [] X.env := by rfl) (hpl : (backTo q2 (starEach [] X.env)).any (·.1) = false := by rfl)
    (he2 : starEach [Expr.Call (.Name "set" p2) [e] [] q2] X.env = (false, eval (.Call (.Name "set" p2) [e] [] q2) X.env) :: starEach [] X.env := by rfl) (hpl2 : (backTo q1 (starEach [] X.env)).any (·.1) = false := by rfl) :
    VE X T (.Call (.Name "sorted" p1) [.Call (.Name "set" p2) [e] [] q2] [] q1) (vPrim pSetS [f]) :=
  ve_setS c.calm (c.gl hg).1 (by rw [c.eM]; exact hm) (c.gl hg2).1 (by rw [c.eM]; exact hm2) (va_cons ha va_nil he) he hpl he2 hpl2
end
end
end VS


set_option Elab.async false
set_option linter.all false
set_option maxRecDepth 100000
set_option maxHeartbeats 2000000
/-! VX23: a tuple times a number that is at least 1. -/
namespace VS
noncomputable section
open PySem PySem.Spec PyProof.Rows L2
/-- once: the same tuple -/
theorem tup_once (l : Addr) (items : Array Value) (n : Nat) (dd : Option Addr) (sl : Array (Option Value)) (u : Tok) :
    Meets (Builtin.«tuple.__mul__» ⟨[.ref l, .int 1 u], []⟩) (fun _ R s => s.heap.get? l = some { cls := .type "tuple", dict := dd, data := .seq items n, slots := sl } ∧ R (.ok (.ret (Value.ref l))) s) := .of_wp fun prog w A R s h => by
  obtain ⟨hp, g, d, tk, os⟩ := s
  obtain ⟨gl, h⟩ := h
  have ix := AutoSeq1.idx_int
  have c0 : (decide ((1 : Int) < -(2 ^ 63)) || decide ((1 : Int) ≥ 2 ^ 63)) = false := by decide
  have c1 : (items.isEmpty || (1 : Int) == 1) = true := by simp
  wp_walk using wpAny_loadPart' gl
  repeat (first
    | (refine wpAny_ite_false (decide_eq_false (by rw [c0]; exact Bool.false_ne_true)) ?_; wp_walk using wpAny_loadPart' gl)
    | (refine wpAny_ite_true (decide_eq_true (by exact c1)) ?_; wp_walk using wpAny_loadPart' gl))
  exact ⟨_, rfl, h⟩
def rOnceT (K : PySem.W.Frag) : R2 := fun x y H Q => ∃ l xs, x = .ref l ∧ y = .int 1 ∧ SqT K H l xs ∧ Q (.ref l) H
section
variable {X : Cx} {T : List TK} {K : PySem.W.Frag}
theorem op_onceT : OpR X (binaryOp .Mult) (rOnceT X.K) := by
  intro pins s σ H x y v u Q I rx ry h
  obtain ⟨l, xs, rfl, rfl, hT, q⟩ := h
  cases rx
  obtain ⟨t, rfl⟩ := ry
  obtain ⟨its, r, ⟨⟨cls, dd, data, sl⟩, ho, hc, n, hd⟩, hs⟩ := I.tuple hT
  simp only at hc hd
  subst hc hd
  exact wpAny_binaryOp_repeat_ref (T := "tuple") (U := "int") (by decide) ⟨_, ho, rfl⟩ (fun s' => typeIs_int s' 1 t) noFill_tuple_mul F.fills_int_mul F.slot_int_rmul repeat_tuple F.slot_int_index.lookup
    (call_meets F.slot_int_rmul (typeIs_int s 1 t) F.entry_int_rmul (F.args_int_rmul_2 _ _) (int_rmul_tuple 1 t l its.toArray n dd sl)
      ⟨ho, rfl, ⟨_, ho, rfl⟩, call_meets F.slot_tuple_mul ⟨_, ho, rfl⟩ F.entry_tuple_mul (F.args_tuple_mul_2 _ _) (tup_once l its.toArray n dd sl t) ⟨ho, .ref l, H, I, rfl, q⟩⟩)
@[simp] def pMulT : D → D → Option O
  | .tup l, .int k => if l ≠ [] ∧ 1 ≤ k ∧ k ≤ 1000 ∧ l.length ≤ 1000 then some (.fz (.tup (repD l k))) else none
  | _, _ => none
theorem od_mulT : OpR X (binaryOp .Mult) (rP2 X.K T pMulT) := OpR.imp (op_onceT.or op_repT) fun x y H Q h => by
  obtain ⟨A, d, e, o, lA, tA, hx, hy, hp, post⟩ := h
  unfold pMulT at hp
  split at hp
  · rename_i l k
    split at hp
    · rename_i c
      obtain ⟨c0, c1, c2, c3⟩ := c
      cases hp
      have hx : Rep X.K H A (.tup l) x := hx
      rw [Rep] at hx
      obtain ⟨a, vs, rfl, h1, h2⟩ := hx
      have hy : Rep X.K H A (.int k) y := hy
      rw [Rep] at hy
      by_cases hk : k = 1
      · subst hk
        refine .inl ⟨a, vs, rfl, hy, h1, post _ H [] (New.fz ?_)⟩
        have e : repD l 1 = l := by simp [repD]
        rw [e, Rep]
        exact ⟨a, vs, rfl, h1, h2⟩
      · refine .inr ⟨a, k, vs, rfl, hy, h1, fun z => c0 ?_, by omega, c2, by rw [h2.length]; exact c3, fun p hp => ?_⟩
        · have := h2.length
          rw [z] at this
          exact List.eq_nil_of_length_eq_zero this.symm
        · exact post _ _ [] (New.tup (h2.flat _) lA tA hp)
    · cases hp
  · cases hp
end
end
end VS


set_option Elab.async false
set_option linter.all false
set_option maxRecDepth 100000
set_option maxHeartbeats 4000000
namespace K02
noncomputable section
open PySem PySem.Spec PyProof.Rows L2 VS
def topS (i : Nat) : Stmt := PySem.Challenge.pw_anyamount_k02_ways_parts_and_turned_tabl.main.body.getD i (.Pass ⟨0, 0, 0, 0⟩)
abbrev s_law_mixed : Stmt := topS 7
def n_law_mixed : List Str := ["number", "k", "first", "second"]
def p_law_mixed : List Str := ["number", "k"]
theorem sc_law_mixed : FnScope n_law_mixed p_law_mixed (defScope s_law_mixed) := ⟨rfl, rfl, rfl, by decide +kernel, rfl, by decide +kernel, by decide +kernel⟩
abbrev s_law_start : Stmt := topS 8
def n_law_start : List Str := ["script", "seed", "cell"]
def p_law_start : List Str := ["script"]
theorem sc_law_start : FnScope n_law_start p_law_start (defScope s_law_start) := ⟨rfl, rfl, rfl, by decide +kernel, rfl, by decide +kernel, by decide +kernel⟩
abbrev s_law_open : Stmt := topS 15
def n_law_open : List Str := ["table", "found", "i", "j"]
def p_law_open : List Str := ["table"]
theorem sc_law_open : FnScope n_law_open p_law_open (defScope s_law_open) := ⟨rfl, rfl, rfl, by decide +kernel, rfl, by decide +kernel, by decide +kernel⟩
abbrev s_law_parts : Stmt := topS 16
def n_law_parts : List Str := ["table", "places", "place", "found", "done", "lot", "turn", "i", "j", "one", "other"]
def p_law_parts : List Str := ["table"]
theorem sc_law_parts : FnScope n_law_parts p_law_parts (defScope s_law_parts) := ⟨rfl, rfl, rfl, by decide +kernel, rfl, by decide +kernel, by decide +kernel⟩
abbrev s_law_same : Stmt := topS 12
def n_law_same : List Str := ["told", "due", "k"]
def p_law_same : List Str := ["told", "due"]
theorem sc_law_same : FnScope n_law_same p_law_same (defScope s_law_same) := ⟨rfl, rfl, rfl, by decide +kernel, rfl, by decide +kernel, by decide +kernel⟩
abbrev s_ways : Stmt := topS 1
def n_ways : List Str := ["table", "shops", "i", "j"]
def p_ways : List Str := ["table"]
theorem sc_ways : FnScope n_ways p_ways (defScope s_ways) := ⟨rfl, rfl, rfl, by decide +kernel, rfl, by decide +kernel, by decide +kernel⟩
abbrev s_turned : Stmt := topS 2
def n_turned : List Str := ["table", "j", "row"]
def p_turned : List Str := ["table"]
theorem sc_turned : FnScope n_turned p_turned (defScope s_turned) := ⟨rfl, rfl, rfl, by decide +kernel, rfl, by decide +kernel, by decide +kernel⟩
abbrev s_part_marks : Stmt := topS 4
def n_part_marks : List Str := ["table", "stores", "marks", "i", "j", "one", "two", "mark"]
def p_part_marks : List Str := ["table"]
theorem sc_part_marks : FnScope n_part_marks p_part_marks (defScope s_part_marks) := ⟨rfl, rfl, rfl, by decide +kernel, rfl, by decide +kernel, by decide +kernel⟩
abbrev s_parts : Stmt := topS 5
def n_parts : List Str := ["table", "stores", "marks", "found", "mark", "left", "right", "i", "j"]
def p_parts : List Str := ["table"]
theorem sc_parts : FnScope n_parts p_parts (defScope s_parts) := ⟨rfl, rfl, rfl, by decide +kernel, rfl, by decide +kernel, by decide +kernel⟩
abbrev s_law_take : Stmt := topS 9
def n_law_take : List Str := ["state", "limit", "cells", "value", "cell"]
def p_law_take : List Str := ["state", "limit"]
theorem sc_law_take : FnScope n_law_take p_law_take (defScope s_law_take) := ⟨rfl, rfl, rfl, by decide +kernel, rfl, by decide +kernel, by decide +kernel⟩
abbrev s_law_shuffled : Stmt := topS 11
def n_law_shuffled : List Str := ["state", "some", "left", "found", "k", "at"]
def p_law_shuffled : List Str := ["state", "some"]
theorem sc_law_shuffled : FnScope n_law_shuffled p_law_shuffled (defScope s_law_shuffled) := ⟨rfl, rfl, rfl, by decide +kernel, rfl, by decide +kernel, by decide +kernel⟩
abbrev s_part_table : Stmt := topS 3
def n_part_table : List Str := ["table", "stores", "shops", "i", "j"]
def p_part_table : List Str := ["table", "stores", "shops"]
theorem sc_part_table : FnScope n_part_table p_part_table (defScope s_part_table) := ⟨rfl, rfl, rfl, by decide +kernel, rfl, by decide +kernel, by decide +kernel⟩
abbrev s_law_is_told : Stmt := topS 17
def n_law_is_told : List Str := ["state", "table", "due", "k", "stores", "shops", "j", "i", "row"]
def p_law_is_told : List Str := ["state", "table"]
theorem sc_law_is_told : FnScope n_law_is_told p_law_is_told (defScope s_law_is_told) := ⟨rfl, rfl, rfl, by decide +kernel, rfl, by decide +kernel, by decide +kernel⟩
abbrev s_law_pick : Stmt := topS 10
def n_law_pick : List Str := ["state", "some"]
def p_law_pick : List Str := ["state", "some"]
theorem sc_law_pick : FnScope n_law_pick p_law_pick (defScope s_law_pick) := ⟨rfl, rfl, rfl, by decide +kernel, rfl, by decide +kernel, by decide +kernel⟩
abbrev s_law_shape : Stmt := topS 13
def n_law_shape : List Str := ["state", "wide"]
def p_law_shape : List Str := ["state"]
theorem sc_law_shape : FnScope n_law_shape p_law_shape (defScope s_law_shape) := ⟨rfl, rfl, rfl, by decide +kernel, rfl, by decide +kernel, by decide +kernel⟩
abbrev s_law_table : Stmt := topS 14
def n_law_table : List Str := ["state", "stores", "shops", "found", "i", "great", "rare", "row", "j", "price"]
def p_law_table : List Str := ["state", "stores", "shops"]
theorem sc_law_table : FnScope n_law_table p_law_table (defScope s_law_table) := ⟨rfl, rfl, rfl, by decide +kernel, rfl, by decide +kernel, by decide +kernel⟩
abbrev s_law : Stmt := topS 18
def n_law : List Str := ["script", "state", "turn", "table", "shut", "stores", "shops", "i", "price"]
def p_law : List Str := ["script"]
theorem sc_law : FnScope n_law p_law (defScope s_law) := ⟨rfl, rfl, rfl, by decide +kernel, rfl, by decide +kernel, by decide +kernel⟩
/-- what the text's top has left -/
structure TX (K : PySem.W.Frag) (mg : Str → Option Value) (T : List TK) (base : Heap) (fA : Nat → Addr) (fD : Nat → FuncData) : Prop where
  F_law_mixed : Fun K "_law_mixed" "_law_mixed" s_law_mixed (fA 7) (fD 7)
  b_law_mixed : L2.Binds K (fD 7) p_law_mixed []
  g_law_mixed : mg "_law_mixed" = some (.ref (fA 7))
  F_law_start : Fun K "_law_start" "_law_start" s_law_start (fA 8) (fD 8)
  b_law_start : L2.Binds K (fD 8) p_law_start []
  g_law_start : mg "_law_start" = some (.ref (fA 8))
  F_law_open : Fun K "_law_open" "_law_open" s_law_open (fA 15) (fD 15)
  b_law_open : L2.Binds K (fD 15) p_law_open []
  g_law_open : mg "_law_open" = some (.ref (fA 15))
  F_law_parts : Fun K "_law_parts" "_law_parts" s_law_parts (fA 16) (fD 16)
  b_law_parts : L2.Binds K (fD 16) p_law_parts []
  g_law_parts : mg "_law_parts" = some (.ref (fA 16))
  F_law_same : Fun K "_law_same" "_law_same" s_law_same (fA 12) (fD 12)
  b_law_same : L2.Binds K (fD 12) p_law_same []
  g_law_same : mg "_law_same" = some (.ref (fA 12))
  F_ways : Fun K "ways" "ways" s_ways (fA 1) (fD 1)
  b_ways : L2.Binds K (fD 1) p_ways []
  g_ways : mg "ways" = some (.ref (fA 1))
  kt_ways : KT base T (fD 1).code
  F_turned : Fun K "turned" "turned" s_turned (fA 2) (fD 2)
  b_turned : L2.Binds K (fD 2) p_turned []
  g_turned : mg "turned" = some (.ref (fA 2))
  kt_turned : KT base T (fD 2).code
  F_part_marks : Fun K "part_marks" "part_marks" s_part_marks (fA 4) (fD 4)
  b_part_marks : L2.Binds K (fD 4) p_part_marks []
  g_part_marks : mg "part_marks" = some (.ref (fA 4))
  F_parts : Fun K "parts" "parts" s_parts (fA 5) (fD 5)
  b_parts : L2.Binds K (fD 5) p_parts []
  g_parts : mg "parts" = some (.ref (fA 5))
  kt_parts : KT base T (fD 5).code
  F_law_take : Fun K "_law_take" "_law_take" s_law_take (fA 9) (fD 9)
  b_law_take : L2.Binds K (fD 9) p_law_take []
  g_law_take : mg "_law_take" = some (.ref (fA 9))
  F_law_shuffled : Fun K "_law_shuffled" "_law_shuffled" s_law_shuffled (fA 11) (fD 11)
  b_law_shuffled : L2.Binds K (fD 11) p_law_shuffled []
  g_law_shuffled : mg "_law_shuffled" = some (.ref (fA 11))
  F_part_table : Fun K "part_table" "part_table" s_part_table (fA 3) (fD 3)
  b_part_table : L2.Binds K (fD 3) p_part_table []
  g_part_table : mg "part_table" = some (.ref (fA 3))
  kt_part_table : KT base T (fD 3).code
  F_law_is_told : Fun K "_law_is_told" "_law_is_told" s_law_is_told (fA 17) (fD 17)
  b_law_is_told : L2.Binds K (fD 17) p_law_is_told []
  g_law_is_told : mg "_law_is_told" = some (.ref (fA 17))
  F_law_pick : Fun K "_law_pick" "_law_pick" s_law_pick (fA 10) (fD 10)
  b_law_pick : L2.Binds K (fD 10) p_law_pick []
  g_law_pick : mg "_law_pick" = some (.ref (fA 10))
  F_law_shape : Fun K "_law_shape" "_law_shape" s_law_shape (fA 13) (fD 13)
  b_law_shape : L2.Binds K (fD 13) p_law_shape []
  g_law_shape : mg "_law_shape" = some (.ref (fA 13))
  F_law_table : Fun K "_law_table" "_law_table" s_law_table (fA 14) (fD 14)
  b_law_table : L2.Binds K (fD 14) p_law_table []
  g_law_table : mg "_law_table" = some (.ref (fA 14))
  F_law : Fun K "law" "law" s_law (fA 18) (fD 18)
  b_law : L2.Binds K (fD 18) p_law []
  g_law : mg "law" = some (.ref (fA 18))
  bm : BM base mg
  k_ways_table : KBn K (fD 1) p_ways 0 ["table"] (fun us ws => permL [0] (us ++ ws)) (fun vs zs => permL [0] (vs ++ zs))
  k_turned_table : KBn K (fD 2) p_turned 0 ["table"] (fun us ws => permL [0] (us ++ ws)) (fun vs zs => permL [0] (vs ++ zs))
  k_parts_table : KBn K (fD 5) p_parts 0 ["table"] (fun us ws => permL [0] (us ++ ws)) (fun vs zs => permL [0] (vs ++ zs))
  k_part_table_shops_stores_table : KBn K (fD 3) p_part_table 0 ["shops", "stores", "table"] (fun us ws => permL [2, 1, 0] (us ++ ws)) (fun vs zs => permL [2, 1, 0] (vs ++ zs))
  z_abs : mg "abs" = none
  z_bool : mg "bool" = none
  z_int : mg "int" = none
  z_isinstance : mg "isinstance" = none
  z_len : mg "len" = none
  z_list : mg "list" = none
  z_range : mg "range" = none
  z_set : mg "set" = none
  z_sorted : mg "sorted" = none
  z_str : mg "str" = none
  z_tuple : mg "tuple" = none
section
variable {Pg : Program} {w : World} {K : PySem.W.Frag} {mg : Str → Option Value} {T : List TK} {base : Heap} {fA : Nat → Addr} {fD : Nat → FuncData}
def B_law_mixed : SF :=
  (sSeq (sSet 2 (vBin pMod (vPrim pInt [(vBin pAdd (vBin pAdd (vBin pMul (vP (gN 0)) (vC (.int 48271))) (vBin pMul (vP (gN 1)) (vC (.int 69621)))) (vC (.int 97)))]) (vC (.int 2147483647))))
  (sSeq (sSet 3 (vBin pMod (vPrim pInt [(vBin pAdd (vBin pAdd (vBin pMul (vP (gN 2)) (vBin pAdd (vBin pAdd (vP (gN 2)) (vBin pMul (vC (.int 2)) (vP (gN 1)))) (vC (.int 1)))) (vBin pMul (vP (gN 1)) (vC (.int 16807)))) (vC (.int 31)))]) (vC (.int 2147483629))))
  (sRet (vBin pMod (vPrim pInt [(vBin pAdd (vBin pMul (vP (gN 3)) (vC (.int 40692))) (vP (gN 2)))]) (vC (.int 2147483587))))))
def F_law_mixed : Fn := mkFn 2 4 [] B_law_mixed
theorem ok_law_mixed (Z : TX K mg T base fA fD) : FnOk Pg w K mg base CX0 1 (fA 7) (fD 7) p_law_mixed (spF K T 2 F_law_mixed) :=
  fnOk_c (k := 0) Z.F_law_mixed sc_law_mixed rfl fun X c => (show VSs X T [] _ B_law_mixed from
  (vss_cons (c.set (i := 2) (by decide +kernel) (by decide) (ve_bin od_mod (c.ct cd_int (by decide +kernel) Z.z_int (by decide +kernel) (va_cons (ve_bin od_add (ve_bin od_add (ve_bin od_mul (ve_p (c.pn (i := 0) (by decide +kernel))) ve_int) (ve_bin od_mul (ve_p (c.pn (i := 1) (by decide +kernel))) ve_int)) ve_int) va_nil)) ve_int))
  (vss_cons (c.set (i := 3) (by decide +kernel) (by decide) (ve_bin od_mod (c.ct cd_int (by decide +kernel) Z.z_int (by decide +kernel) (va_cons (ve_bin od_add (ve_bin od_add (ve_bin od_mul (ve_p (c.pn (i := 2) (by decide +kernel))) (ve_bin od_add (ve_bin od_add (ve_p (c.pn (i := 2) (by decide +kernel))) (ve_bin od_mul ve_int (ve_p (c.pn (i := 1) (by decide +kernel))))) ve_int)) (ve_bin od_mul (ve_p (c.pn (i := 1) (by decide +kernel))) ve_int)) ve_int) va_nil)) ve_int))
  (vss_one (vs_ret (ve_bin od_mod (c.ct cd_int (by decide +kernel) Z.z_int (by decide +kernel) (va_cons (ve_bin od_add (ve_bin od_mul (ve_p (c.pn (i := 3) (by decide +kernel))) ve_int) (ve_p (c.pn (i := 2) (by decide +kernel)))) va_nil)) ve_int))))))
def L_law_start_0 : SF :=
  (sWipe [2] (sSet 1 (vCall F_law_mixed [(vBin pAdd (vP (gN 1)) (vP (gN 2))), (vC (.int 5))])))
def B_law_start : SF :=
  (sSeq (sSet 1 (vPrim pLen [(vP (gN 0))]))
  (sSeq (sFor (itL (vSl (vP (gN 0)) none (some (vC (.int 63))))) (bName 2)
  L_law_start_0)
  (sRet (vLst [(vC (.int 0)), (vC (.int 0)), (vC (.int 0)), (vP (gN 1)), (vFz (vPrim pList [(vSl (vP (gN 0)) none (some (vC (.int 63))))])), (vC (.int 0))]))))
def F_law_start : Fn := mkFn 1 3 [] B_law_start
theorem ok_law_start (Z : TX K mg T base fA fD) : FnOk Pg w K mg base CX0 2 (fA 8) (fD 8) p_law_start (spF K T 1 F_law_start) :=
  fnOk_c (k := 1) Z.F_law_start sc_law_start rfl fun X c => (show VSs X T [] _ B_law_start from
  (vss_cons (c.set (i := 1) (by decide +kernel) (by decide) (c.cb cd_len (by decide +kernel) Z.z_len (by decide +kernel) (va_cons (ve_p (c.pn (i := 0) (by decide +kernel))) va_nil)))
  (vss_cons (c.for (vi_list (ve_sl (ve_p (c.pn (i := 0) (by decide +kernel))) vo_none (vo_some ve_int))) (c.gn (i := 2) (by decide +kernel) (by decide))
  (vss_wipe [2] (vss_one (c.set (i := 1) (by decide +kernel) (by decide) (c.call (ok_law_mixed Z) (by omega) (by decide +kernel) Z.g_law_mixed Z.F_law_mixed.kp Z.b_law_mixed (va_cons (ve_bin od_add (ve_p (c.pn (i := 1) (by decide +kernel))) (ve_p (c.pn (i := 2) (by decide +kernel)))) (va_cons ve_int va_nil)) rfl)))))
  (vss_one (vs_ret (ve_lst (va_cons ve_int (va_cons ve_int (va_cons ve_int (va_cons (ve_p (c.pn (i := 1) (by decide +kernel))) (va_cons (ve_fz (c.ct cd_list (by decide +kernel) Z.z_list (by decide +kernel) (va_cons (ve_sl (ve_p (c.pn (i := 0) (by decide +kernel))) vo_none (vo_some ve_int)) va_nil))) (va_cons ve_int va_nil))))))))))))
def T_law_open_0 : TF :=
  (tVal (vBin pNotN (vP (gIx (gIx (gN 0) (gN 2)) (gN 3))) (vC .non)))
def E_law_open_1 : VF :=
  (vTup [(vP (gN 2)), (vP (gN 3))])
def L_law_open_2 : SF :=
  (sWipe [2] (sSet 1 (vBin pAdd (vBw 1) (vLc 4 [3] (itR1 (vPrP pLen (gIx (gN 0) (gC (.int 0))))) (bName 3) T_law_open_0 E_law_open_1))))
def B_law_open : SF :=
  (sSeq (sSet 1 (vLst []))
  (sSeq (sFor (itR1 (vPrim pLen [(vP (gN 0))])) (bName 2)
  L_law_open_2)
  (sRet (vMv 1))))
def F_law_open : Fn := mkFn 1 4 [] B_law_open
theorem ok_law_open (Z : TX K mg T base fA fD) : FnOk Pg w K mg base CX0 1 (fA 15) (fD 15) p_law_open (spF K T 1 F_law_open) :=
  fnOk_c (k := 0) Z.F_law_open sc_law_open rfl fun X c => (show VSs X T [] _ B_law_open from
  (vss_cons (c.set (i := 1) (by decide +kernel) (by decide) (ve_lst va_nil))
  (vss_cons (c.for (c.r1 (by decide +kernel) Z.z_range (c.cb cd_len (by decide +kernel) Z.z_len (by decide +kernel) (va_cons (ve_p (c.pn (i := 0) (by decide +kernel))) va_nil))) (c.gn (i := 2) (by decide +kernel) (by decide))
  (vss_wipe [2] (vss_one (c.set (i := 1) (by decide +kernel) (by decide) (ve_bin od_add (c.bw (i := 1) (by decide +kernel)) (c.lc (own := [("j", 3)]) (n := 4) (by decide +kernel) (c.r1 (by decide +kernel) Z.z_range (c.cbp cd_len (by decide +kernel) Z.z_len (by decide +kernel) (vp_ix (c.pn (i := 0) (by decide +kernel)) vp_int (fun _ _ => rfl)))) (fun _ c1 => (c1.gn (i := 3) (by decide +kernel) (by decide))) (fun _ c1 => (vts_one (vt_cmp od_notN rfl (ve_p (vp_ix (vp_ix (c1.pn (i := 0) (by decide +kernel)) (c1.pn (i := 2) (by decide +kernel)) (fun _ _ => rfl)) (c1.pn (i := 3) (by decide +kernel)) (fun _ _ => rfl))) ve_non))) (fun _ c1 => (ve_tup (va_cons (ve_p (c1.pn (i := 2) (by decide +kernel))) (va_cons (ve_p (c1.pn (i := 3) (by decide +kernel))) va_nil))))))))))
  (vss_one (vs_ret (c.mv (i := 1) (by decide +kernel)))))))
def E_law_parts_0 : VF :=
  (vTup [(vC (.int 0)), (vP (gN 7))])
def E_law_parts_1 : VF :=
  (vTup [(vC (.int 1)), (vP (gN 8))])
def L_law_parts_2 : SF :=
  (sWipe [9, 10] (sIf (tAn (tVal (vBin pIn (vP (gN 9)) (vBw 5))) (tVal (vBin pNotIn (vP (gN 10)) (vBw 5))))
  (sExpr (vApp 5 (vP (gN 10))))
  sNx))
def L_law_parts_3 : SF :=
  (sWipe [7, 8, 9, 10] (sFor (itP (vTup [(vTup [(vTup [(vC (.int 0)), (vP (gN 7))]), (vTup [(vC (.int 1)), (vP (gN 8))])]), (vTup [(vTup [(vC (.int 1)), (vP (gN 8))]), (vTup [(vC (.int 0)), (vP (gN 7))])])])) (bTup [(bName 9), (bName 10)])
  L_law_parts_2))
def L_law_parts_4 : SF :=
  (sWipe [6, 7, 8, 9, 10] (sFor (itL (vFz (vCall F_law_open [(vP (gN 0))]))) (bTup [(bName 7), (bName 8)])
  L_law_parts_3))
def T_law_parts_5 : TF :=
  (tVal (vBin pEq (vP (gIx (gN 9) (gC (.int 0)))) (vC (.int 0))))
def E_law_parts_6 : VF :=
  (vP (gIx (gN 9) (gC (.int 1))))
def T_law_parts_7 : TF :=
  (tVal (vBin pEq (vP (gIx (gN 9) (gC (.int 0)))) (vC (.int 1))))
def E_law_parts_8 : VF :=
  (vP (gIx (gN 9) (gC (.int 1))))
def L_law_parts_9 : SF :=
  (sWipe [2, 5, 6, 7, 8, 9, 10] (sWipe [5, 6, 7, 8, 9, 10] (sIf (tVal (vBin pNotIn (vP (gN 2)) (vP (gN 4))))
  (sSeq (sSet 5 (vLst [(vP (gN 2))]))
  (sSeq (sFor (itR1 (vC (.int 12))) (bName 6)
  L_law_parts_4)
  (sSeq (sSet 4 (vFz (vBin pAdd (vP (gN 4)) (vBw 5))))
  (sExpr (vApp 3 (vTup [(vUn pTuple (vPrim pSorted [(vLc 11 [9] (itL (vRd 5)) (bName 9) T_law_parts_5 E_law_parts_6)])), (vUn pTuple (vPrim pSorted [(vLc 11 [9] (itL (vRd 5)) (bName 9) T_law_parts_7 E_law_parts_8)]))]))))))
  sNx)))
def B_law_parts : SF :=
  (sSeq (sPar [3, 4] [(vLst []), (vFz (vLst []))])
  (sSeq (sSet 1 (vFz (vBin pAdd (vLc 11 [7] (itR1 (vPrim pLen [(vP (gN 0))])) (bName 7) tYes' E_law_parts_0) (vLc 11 [8] (itR1 (vPrP pLen (gIx (gN 0) (gC (.int 0))))) (bName 8) tYes' E_law_parts_1))))
  (sSeq (sFor (itL (vP (gN 1))) (bName 2)
  L_law_parts_9)
  (sRet (vUn pTuple (vPrim pSorted [(vBw 3)]))))))
def F_law_parts : Fn := mkFn 1 11 [] B_law_parts
theorem ok_law_parts (Z : TX K mg T base fA fD) : FnOk Pg w K mg base CX0 2 (fA 16) (fD 16) p_law_parts (spF K T 1 F_law_parts) :=
  fnOk_c (k := 1) Z.F_law_parts sc_law_parts rfl fun X c => (show VSs X T [] _ B_law_parts from
  (vss_cons (c.par2 (i := 3) (j := 4) (by decide) (by decide +kernel) (by decide +kernel) (by decide +kernel) (by decide +kernel) (by decide) (va_cons (ve_lst va_nil) (va_cons (ve_fz (ve_lst va_nil)) va_nil)) (c.swp rfl))
  (vss_cons (c.set (i := 1) (by decide +kernel) (by decide) (ve_fz (ve_bin od_add (c.lc (own := [("i", 7)]) (n := 11) (by decide +kernel) (c.r1 (by decide +kernel) Z.z_range (c.cb cd_len (by decide +kernel) Z.z_len (by decide +kernel) (va_cons (ve_p (c.pn (i := 0) (by decide +kernel))) va_nil))) (fun _ c1 => (c1.gn (i := 7) (by decide +kernel) (by decide))) (fun _ c1 => vts_nil) (fun _ c1 => (ve_tup (va_cons ve_int (va_cons (ve_p (c1.pn (i := 7) (by decide +kernel))) va_nil))))) (c.lc (own := [("j", 8)]) (n := 11) (by decide +kernel) (c.r1 (by decide +kernel) Z.z_range (c.cbp cd_len (by decide +kernel) Z.z_len (by decide +kernel) (vp_ix (c.pn (i := 0) (by decide +kernel)) vp_int (fun _ _ => rfl)))) (fun _ c1 => (c1.gn (i := 8) (by decide +kernel) (by decide))) (fun _ c1 => vts_nil) (fun _ c1 => (ve_tup (va_cons ve_int (va_cons (ve_p (c1.pn (i := 8) (by decide +kernel))) va_nil))))))))
  (vss_cons (c.for (vi_list (ve_p (c.pn (i := 1) (by decide +kernel)))) (c.gn (i := 2) (by decide +kernel) (by decide))
  (vss_wipe [2, 5, 6, 7, 8, 9, 10] (vss_one (vs_wipe [5, 6, 7, 8, 9, 10] (vs_if (vt_cmp (od_notIn c.hu5) rfl (ve_p (c.pn (i := 2) (by decide +kernel))) (ve_p (c.pn (i := 4) (by decide +kernel))))
  (vss_cons (c.set (i := 5) (by decide +kernel) (by decide) (ve_lst (va_cons (ve_p (c.pn (i := 2) (by decide +kernel))) va_nil)))
  (vss_cons (c.for (c.r1 (by decide +kernel) Z.z_range ve_int) (c.gn (i := 6) (by decide +kernel) (by decide))
  (vss_wipe [6, 7, 8, 9, 10] (vss_one (c.for (vi_list (ve_fz (c.call (ok_law_open Z) (by omega) (by decide +kernel) Z.g_law_open Z.F_law_open.kp Z.b_law_open (va_cons (ve_p (c.pn (i := 0) (by decide +kernel))) va_nil) rfl))) (c.gt (vgs_cons (c.gn (i := 7) (by decide +kernel) (by decide)) (vgs_cons (c.gn (i := 8) (by decide +kernel) (by decide)) vgs_nil)))
  (vss_wipe [7, 8, 9, 10] (vss_one (c.for (vi_tup (ve_tup (va_cons (ve_tup (va_cons (ve_tup (va_cons ve_int (va_cons (ve_p (c.pn (i := 7) (by decide +kernel))) va_nil))) (va_cons (ve_tup (va_cons ve_int (va_cons (ve_p (c.pn (i := 8) (by decide +kernel))) va_nil))) va_nil))) (va_cons (ve_tup (va_cons (ve_tup (va_cons ve_int (va_cons (ve_p (c.pn (i := 8) (by decide +kernel))) va_nil))) (va_cons (ve_tup (va_cons ve_int (va_cons (ve_p (c.pn (i := 7) (by decide +kernel))) va_nil))) va_nil))) va_nil)))) (c.gt (vgs_cons (c.gn (i := 9) (by decide +kernel) (by decide)) (vgs_cons (c.gn (i := 10) (by decide +kernel) (by decide)) vgs_nil)))
  (vss_wipe [9, 10] (vss_one (vs_if (vt_w (vw_an (vt_cmp (od_in c.hu5) rfl (ve_p (c.pn (i := 9) (by decide +kernel))) (c.bw (i := 5) (by decide +kernel))) (vw_an1 (vt_cmp (od_notIn c.hu5) rfl (ve_p (c.pn (i := 10) (by decide +kernel))) (c.bw (i := 5) (by decide +kernel))))))
  (vss_one (vex (c.app (i := 5) (by decide +kernel) (ve_p (c.pn (i := 10) (by decide +kernel))))))
  vss_nil))))))))))
  (vss_cons (c.set (i := 4) (by decide +kernel) (by decide) (ve_fz (ve_bin od_add (ve_p (c.pn (i := 4) (by decide +kernel))) (c.bw (i := 5) (by decide +kernel)))))
  (vss_one (vex (c.app (i := 3) (by decide +kernel) (ve_tup (va_cons (c.tuple (by decide +kernel) Z.z_tuple (c.sorted (by decide +kernel) Z.z_sorted (va_cons (c.lc (own := [("one", 9)]) (n := 11) (by decide +kernel) (vi_list (c.rd (i := 5) (by decide +kernel))) (fun _ c1 => (c1.gn (i := 9) (by decide +kernel) (by decide))) (fun _ c1 => (vts_one (vt_cmp (od_eq c1.hu) rfl (ve_p (vp_ix (c1.pn (i := 9) (by decide +kernel)) vp_int (fun _ _ => rfl))) ve_int))) (fun _ c1 => (ve_p (vp_ix (c1.pn (i := 9) (by decide +kernel)) vp_int (fun _ _ => rfl))))) va_nil))) (va_cons (c.tuple (by decide +kernel) Z.z_tuple (c.sorted (by decide +kernel) Z.z_sorted (va_cons (c.lc (own := [("one", 9)]) (n := 11) (by decide +kernel) (vi_list (c.rd (i := 5) (by decide +kernel))) (fun _ c1 => (c1.gn (i := 9) (by decide +kernel) (by decide))) (fun _ c1 => (vts_one (vt_cmp (od_eq c1.hu) rfl (ve_p (vp_ix (c1.pn (i := 9) (by decide +kernel)) vp_int (fun _ _ => rfl))) ve_int))) (fun _ c1 => (ve_p (vp_ix (c1.pn (i := 9) (by decide +kernel)) vp_int (fun _ _ => rfl))))) va_nil))) va_nil)))))))))
  vss_nil)))))
  (vss_one (vs_ret (c.tuple (by decide +kernel) Z.z_tuple (c.sorted (by decide +kernel) Z.z_sorted (va_cons (c.bw (i := 3) (by decide +kernel)) va_nil)))))))))
def L_law_same_0 (G : Fn) : SF :=
  (sWipe [2] (sIf (tNo (tVal (vCall G [(vP (gIx (gN 0) (gN 2))), (vP (gIx (gN 1) (gN 2)))])))
  (sRet (vC (.bl false)))
  sNx))
def B_law_same (G : Fn) : SF :=
  (sSeq (sIf (tVal (vBin pIsN (vP (gN 1)) (vC .non)))
  (sRet (vBin pIsN (vP (gN 0)) (vC .non)))
  sNx)
  (sSeq (sIf (tVal (vUn (pIsi "bool") (vP (gN 1))))
  (sRet (vAn (vUn (pIsi "bool") (vP (gN 0))) (vBin pEq (vP (gN 0)) (vP (gN 1)))))
  sNx)
  (sSeq (sIf (tVal (vUn (pIsi "int") (vP (gN 1))))
  (sRet (vAn (vUn (pIsi "int") (vP (gN 0))) (vAn (vNo (vUn (pIsi "bool") (vP (gN 0)))) (vBin pEq (vP (gN 0)) (vP (gN 1))))))
  sNx)
  (sSeq (sIf (tVal (vUn (pIsi "str") (vP (gN 1))))
  (sRet (vAn (vUn (pIsi "str") (vP (gN 0))) (vBin pEq (vP (gN 0)) (vP (gN 1)))))
  sNx)
  (sSeq (sIf (tOr' (tNo (tVal (vUn (pIsi "tuple") (vP (gN 0))))) (tVal (vBin pNe (vPrim pLen [(vP (gN 0))]) (vPrim pLen [(vP (gN 1))]))))
  (sRet (vC (.bl false)))
  sNx)
  (sSeq (sFor (itR1 (vPrim pLen [(vP (gN 1))])) (bName 2)
  (L_law_same_0 G))
  (sRet (vC (.bl true)))))))))
def F_law_same : Nat → Fn
  | 0 => fun _ => none
  | k + 1 => mkFn 2 3 [] (B_law_same (F_law_same k))
theorem ok_law_same' (Z : TX K mg T base fA fD) {r : Nat} (hr : 0 ≤ r) {G : Fn} (ih : FnOk Pg w K mg base CX0 r (fA 12) (fD 12) p_law_same (spF K T 2 G)) : FnOk Pg w K mg base CX0 (r + 0 + 1) (fA 12) (fD 12) p_law_same (spF K T 2 (mkFn 2 n_law_same.length [] (B_law_same G))) :=
  fnOk_c Z.F_law_same sc_law_same rfl fun X c => (show VSs X T [] _ (B_law_same G) from
  (vss_cons (vs_if (vt_cmp od_isN rfl (ve_p (c.pn (i := 1) (by decide +kernel))) ve_non)
  (vss_one (vs_ret (ve_cmp od_isN rfl (ve_p (c.pn (i := 0) (by decide +kernel))) ve_non)))
  vss_nil)
  (vss_cons (vs_if (vt_val (c.isi (by decide +kernel) Z.z_isinstance (by decide +kernel) Z.z_bool (by decide +kernel) isi_bool (ve_p (c.pn (i := 1) (by decide +kernel)))))
  (vss_one (vs_ret (ve_an (c.isi (by decide +kernel) Z.z_isinstance (by decide +kernel) Z.z_bool (by decide +kernel) isi_bool (ve_p (c.pn (i := 0) (by decide +kernel)))) (ve_one (ve_cmp (od_eq c.hu) rfl (ve_p (c.pn (i := 0) (by decide +kernel))) (ve_p (c.pn (i := 1) (by decide +kernel))))))))
  vss_nil)
  (vss_cons (vs_if (vt_val (c.isi (by decide +kernel) Z.z_isinstance (by decide +kernel) Z.z_int (by decide +kernel) isi_int (ve_p (c.pn (i := 1) (by decide +kernel)))))
  (vss_one (vs_ret (ve_an (c.isi (by decide +kernel) Z.z_isinstance (by decide +kernel) Z.z_int (by decide +kernel) isi_int (ve_p (c.pn (i := 0) (by decide +kernel)))) (ve_an (ve_no (c.isi (by decide +kernel) Z.z_isinstance (by decide +kernel) Z.z_bool (by decide +kernel) isi_bool (ve_p (c.pn (i := 0) (by decide +kernel))))) (ve_one (ve_cmp (od_eq c.hu) rfl (ve_p (c.pn (i := 0) (by decide +kernel))) (ve_p (c.pn (i := 1) (by decide +kernel)))))))))
  vss_nil)
  (vss_cons (vs_if (vt_val (c.isi (by decide +kernel) Z.z_isinstance (by decide +kernel) Z.z_str (by decide +kernel) isi_str (ve_p (c.pn (i := 1) (by decide +kernel)))))
  (vss_one (vs_ret (ve_an (c.isi (by decide +kernel) Z.z_isinstance (by decide +kernel) Z.z_str (by decide +kernel) isi_str (ve_p (c.pn (i := 0) (by decide +kernel)))) (ve_one (ve_cmp (od_eq c.hu) rfl (ve_p (c.pn (i := 0) (by decide +kernel))) (ve_p (c.pn (i := 1) (by decide +kernel))))))))
  vss_nil)
  (vss_cons (vs_if (vt_w (vw_or (vt_no (vt_val (c.isi (by decide +kernel) Z.z_isinstance (by decide +kernel) Z.z_tuple (by decide +kernel) isi_tuple (ve_p (c.pn (i := 0) (by decide +kernel)))))) (vw_or1 (vt_cmp (od_ne c.hu) rfl (c.cb cd_len (by decide +kernel) Z.z_len (by decide +kernel) (va_cons (ve_p (c.pn (i := 0) (by decide +kernel))) va_nil)) (c.cb cd_len (by decide +kernel) Z.z_len (by decide +kernel) (va_cons (ve_p (c.pn (i := 1) (by decide +kernel))) va_nil))))))
  (vss_one (vs_ret ve_bl))
  vss_nil)
  (vss_cons (c.for (c.r1 (by decide +kernel) Z.z_range (c.cb cd_len (by decide +kernel) Z.z_len (by decide +kernel) (va_cons (ve_p (c.pn (i := 1) (by decide +kernel))) va_nil))) (c.gn (i := 2) (by decide +kernel) (by decide))
  (vss_wipe [2] (vss_one (vs_if (vt_no (vt_val (c.call ih (by omega) (by decide +kernel) Z.g_law_same Z.F_law_same.kp Z.b_law_same (va_cons (ve_p (vp_ix (c.pn (i := 0) (by decide +kernel)) (c.pn (i := 2) (by decide +kernel)) (fun _ _ => rfl))) (va_cons (ve_p (vp_ix (c.pn (i := 1) (by decide +kernel)) (c.pn (i := 2) (by decide +kernel)) (fun _ _ => rfl))) va_nil)) rfl)))
  (vss_one (vs_ret ve_bl))
  vss_nil))))
  (vss_one (vs_ret ve_bl)))))))))
theorem ok_law_same (Z : TX K mg T base fA fD) : ∀ k : Nat, FnOk Pg w K mg base CX0 (1 * k + 0) (fA 12) (fD 12) p_law_same (spF K T 2 (F_law_same k))
  | 0 => fnOk_no
  | k + 1 => (ok_law_same' Z (by omega) (ok_law_same Z k)).mono (by omega)
def T_ways_0 : TF :=
  (tVal (vBin pNotN (vP (gIx (gIx (gN 0) (gN 2)) (gN 3))) (vC .non)))
def E_ways_1 : VF :=
  (vTup [(vP (gN 2)), (vP (gN 3))])
def B_ways : SF :=
  (sSeq (sSet 1 (vPrP pLen (gIx (gN 0) (gC (.int 0)))))
  (sRet ((gx2 4 [2, 3] [3] (itR1 (vPrim pLen [(vP (gN 0))])) (bName 2) tYes' (itR1 (vP (gN 1))) (bName 3) T_ways_0 E_ways_1) stNo false fTup)))
def F_ways : Fn := mkFn 1 4 [] B_ways
theorem ok_ways (Z : TX K mg T base fA fD) : FnOk Pg w K mg base CX0 8 (fA 1) (fD 1) p_ways (spF K T 1 F_ways) :=
  fnOk_c (k := 7) Z.F_ways sc_ways rfl fun X c => (show VSs X T [] _ B_ways from
  (vss_cons (c.set (i := 1) (by decide +kernel) (by decide) (c.cbp cd_len (by decide +kernel) Z.z_len (by decide +kernel) (vp_ix (c.pn (i := 0) (by decide +kernel)) vp_int (fun _ _ => rfl))))
  (vss_one (vs_ret (c.tupG (by omega) (c.g2 Z.bm Z.kt_ways (own := ["i", "j"]) (slots := [2, 3]) (slots1 := [3]) (n := 4) 0 (by decide +kernel) (c.r1 (by decide +kernel) Z.z_range (c.cb cd_len (by decide +kernel) Z.z_len (by decide +kernel) (va_cons (ve_p (c.pn (i := 0) (by decide +kernel))) va_nil))) (fun _ _ d1 k1 c1 => (c1.gn (i := 2) (by decide +kernel) (by decide))) (fun _ _ d1 k1 c1 => vts_nil) (fun _ _ d1 k1 c1 => (c1.r1 (by decide +kernel) Z.z_range (ve_p (c1.pn (i := 1) (by decide +kernel))))) (fun _ _ d1 k1 c1 => (c1.gn (i := 3) (by decide +kernel) (by decide))) (fun _ _ d1 k1 c1 => (vts_one (vt_cmp od_notN rfl (ve_p (vp_ix (vp_ix (c1.pn (i := 0) (by decide +kernel)) (c1.pn (i := 2) (by decide +kernel)) (fun _ _ => rfl)) (c1.pn (i := 3) (by decide +kernel)) (fun _ _ => rfl))) ve_non))) (fun _ _ d1 k1 c1 => (ve_tup (va_cons (ve_p (c1.pn (i := 2) (by decide +kernel))) (va_cons (ve_p (c1.pn (i := 3) (by decide +kernel))) va_nil))))) (by decide +kernel) Z.z_tuple)))))
def E_turned_0 : VF :=
  (vP (gIx (gN 2) (gN 1)))
def E_turned_1 : VF :=
  ((gx1 3 [2] (itP (vP (gN 0))) (bName 2) tYes' E_turned_0) stNo false fTup)
def B_turned : SF :=
  (sRet ((gx1 3 [1] (itR1 (vPrP pLen (gIx (gN 0) (gC (.int 0))))) (bName 1) tYes' E_turned_1) stNo false fTup))
def F_turned : Fn := mkFn 1 3 [] B_turned
theorem ok_turned (Z : TX K mg T base fA fD) : FnOk Pg w K mg base CX0 15 (fA 2) (fD 2) p_turned (spF K T 1 F_turned) :=
  fnOk_c (k := 14) Z.F_turned sc_turned rfl fun X c => (show VSs X T [] _ B_turned from
  (vss_one (vs_ret (c.tupG (by omega) (c.g1 Z.bm Z.kt_turned (own := ["j"]) (slots := [1]) (n := 3) 7 (by decide +kernel) (c.r1 (by decide +kernel) Z.z_range (c.cbp cd_len (by decide +kernel) Z.z_len (by decide +kernel) (vp_ix (c.pn (i := 0) (by decide +kernel)) vp_int (fun _ _ => rfl)))) (fun _ _ d1 k1 c1 => (c1.gn (i := 1) (by decide +kernel) (by decide))) (fun _ _ d1 k1 c1 => vts_nil) (fun _ _ d1 k1 c1 => (c1.tupG (by omega) (c1.g1 Z.bm k1 (own := ["row"]) (slots := [2]) (n := 3) 0 (by decide +kernel) (vi_tup (ve_p (c1.pn (i := 0) (by decide +kernel)))) (fun _ _ d2 k2 c2 => (c2.gn (i := 2) (by decide +kernel) (by decide))) (fun _ _ d2 k2 c2 => vts_nil) (fun _ _ d2 k2 c2 => (ve_p (vp_ix (c2.pn (i := 2) (by decide +kernel)) (c2.pn (i := 1) (by decide +kernel)) (fun _ _ => rfl))))) (by decide +kernel) Z.z_tuple))) (by decide +kernel) Z.z_tuple))))
def E_part_marks_0 : VF :=
  (vIf (tVal (vBin pEq (vP (gN 7)) (vP (gN 6)))) (vP (gN 5)) (vP (gN 7)))
def L_part_marks_1 : SF :=
  (sWipe [3, 4, 5, 6] (sSeq (sSet 5 (vP (gIx (gN 2) (gN 3))))
  (sSeq (sSet 6 (vBin pIx (vBw 2) (vBin pAdd (vP (gN 1)) (vP (gN 4)))))
  (sSet 2 (vLc 8 [7] (itL (vRd 2)) (bName 7) tYes' E_part_marks_0)))))
def B_part_marks : SF :=
  (sSeq (sSet 1 (vPrim pLen [(vP (gN 0))]))
  (sSeq (sSet 2 (vLR (r1F (vBin pAdd (vP (gN 1)) (vPrP pLen (gIx (gN 0) (gC (.int 0))))))))
  (sSeq (sFor (itP (vCall F_ways [(vP (gN 0))])) (bTup [(bName 3), (bName 4)])
  L_part_marks_1)
  (sRet (vMv 2)))))
def F_part_marks : Fn := mkFn 1 8 [] B_part_marks
theorem ok_part_marks (Z : TX K mg T base fA fD) : FnOk Pg w K mg base CX0 9 (fA 4) (fD 4) p_part_marks (spF K T 1 F_part_marks) :=
  fnOk_c (k := 8) Z.F_part_marks sc_part_marks rfl fun X c => (show VSs X T [] _ B_part_marks from
  (vss_cons (c.set (i := 1) (by decide +kernel) (by decide) (c.cb cd_len (by decide +kernel) Z.z_len (by decide +kernel) (va_cons (ve_p (c.pn (i := 0) (by decide +kernel))) va_nil)))
  (vss_cons (c.set (i := 2) (by decide +kernel) (by decide) (c.listR (by decide +kernel) Z.z_list (c.rg1 (by decide +kernel) Z.z_range (ve_bin od_add (ve_p (c.pn (i := 1) (by decide +kernel))) (c.cbp cd_len (by decide +kernel) Z.z_len (by decide +kernel) (vp_ix (c.pn (i := 0) (by decide +kernel)) vp_int (fun _ _ => rfl)))))))
  (vss_cons (c.for (vi_tup (c.call (ok_ways Z) (by omega) (by decide +kernel) Z.g_ways Z.F_ways.kp Z.b_ways (va_cons (ve_p (c.pn (i := 0) (by decide +kernel))) va_nil) rfl)) (c.gt (vgs_cons (c.gn (i := 3) (by decide +kernel) (by decide)) (vgs_cons (c.gn (i := 4) (by decide +kernel) (by decide)) vgs_nil)))
  (vss_wipe [3, 4, 5, 6] (vss_cons (c.set (i := 5) (by decide +kernel) (by decide) (ve_p (vp_ix (c.pn (i := 2) (by decide +kernel)) (c.pn (i := 3) (by decide +kernel)) (fun _ _ => rfl))))
  (vss_cons (c.set (i := 6) (by decide +kernel) (by decide) (ve_ix id_ix (fun _ _ => rfl) (c.bw (i := 2) (by decide +kernel)) (ve_bin od_add (ve_p (c.pn (i := 1) (by decide +kernel))) (ve_p (c.pn (i := 4) (by decide +kernel))))))
  (vss_one (c.setLc (i := 2) (own := [("mark", 7)]) (n := 8) (by decide +kernel) (by decide) (by decide +kernel) (by decide +kernel) (vi_list (c.rd (i := 2) (by decide +kernel))) (fun _ c1 => (c1.gn (i := 7) (by decide +kernel) (by decide))) (fun _ c1 => vts_nil) (fun _ c1 => (ve_if (vt_cmp (od_eq c1.hu) rfl (ve_p (c1.pn (i := 7) (by decide +kernel))) (ve_p (c1.pn (i := 6) (by decide +kernel)))) (ve_p (c1.pn (i := 5) (by decide +kernel))) (ve_p (c1.pn (i := 7) (by decide +kernel)))))))))))
  (vss_one (vs_ret (c.mv (i := 2) (by decide +kernel))))))))
def T_parts_0 : TF :=
  (tVal (vBin pEq (vP (gIx (gN 2) (gN 7))) (vP (gN 4))))
def E_parts_1 : VF :=
  (vP (gN 7))
def T_parts_2 : TF :=
  (tVal (vBin pEq (vBin pIx (vP (gN 2)) (vBin pAdd (vP (gN 1)) (vP (gN 8)))) (vP (gN 4))))
def E_parts_3 : VF :=
  (vP (gN 8))
def L_parts_4 : SF :=
  (sWipe [4, 5, 6] (sSeq (sSet 5 ((gx1 9 [7] (itR1 (vP (gN 1))) (bName 7) T_parts_0 E_parts_1) stNo false fTup))
  (sSeq (sSet 6 ((gx1 9 [8] (itR1 (vPrP pLen (gIx (gN 0) (gC (.int 0))))) (bName 8) T_parts_2 E_parts_3) stNo false fTup))
  (sExpr (vApp 3 (vTup [(vP (gN 5)), (vP (gN 6))]))))))
def B_parts : SF :=
  (sSeq (sSet 1 (vPrim pLen [(vP (gN 0))]))
  (sSeq (sSet 2 (vFz (vCall F_part_marks [(vP (gN 0))])))
  (sSeq (sSet 3 (vLst []))
  (sSeq (sFor (itL (vFz (vPrim pSetS [(vP (gN 2))]))) (bName 4)
  L_parts_4)
  (sRet (vUn pTuple (vPrim pSorted [(vBw 3)])))))))
def F_parts : Fn := mkFn 1 9 [] B_parts
theorem ok_parts (Z : TX K mg T base fA fD) : FnOk Pg w K mg base CX0 10 (fA 5) (fD 5) p_parts (spF K T 1 F_parts) :=
  fnOk_c (k := 9) Z.F_parts sc_parts rfl fun X c => (show VSs X T [] _ B_parts from
  (vss_cons (c.set (i := 1) (by decide +kernel) (by decide) (c.cb cd_len (by decide +kernel) Z.z_len (by decide +kernel) (va_cons (ve_p (c.pn (i := 0) (by decide +kernel))) va_nil)))
  (vss_cons (c.set (i := 2) (by decide +kernel) (by decide) (ve_fz (c.call (ok_part_marks Z) (by omega) (by decide +kernel) Z.g_part_marks Z.F_part_marks.kp Z.b_part_marks (va_cons (ve_p (c.pn (i := 0) (by decide +kernel))) va_nil) rfl)))
  (vss_cons (c.set (i := 3) (by decide +kernel) (by decide) (ve_lst va_nil))
  (vss_cons (c.for (vi_list (ve_fz (c.setS (by decide +kernel) Z.z_sorted (by decide +kernel) Z.z_set (ve_p (c.pn (i := 2) (by decide +kernel)))))) (c.gn (i := 4) (by decide +kernel) (by decide))
  (vss_wipe [4, 5, 6] (vss_cons (c.set (i := 5) (by decide +kernel) (by decide) (c.tupG (by omega) (c.g1 Z.bm Z.kt_parts (own := ["i"]) (slots := [7]) (n := 9) 0 (by decide +kernel) (c.r1 (by decide +kernel) Z.z_range (ve_p (c.pn (i := 1) (by decide +kernel)))) (fun _ _ d1 k1 c1 => (c1.gn (i := 7) (by decide +kernel) (by decide))) (fun _ _ d1 k1 c1 => (vts_one (vt_cmp (od_eq c1.hu) rfl (ve_p (vp_ix (c1.pn (i := 2) (by decide +kernel)) (c1.pn (i := 7) (by decide +kernel)) (fun _ _ => rfl))) (ve_p (c1.pn (i := 4) (by decide +kernel)))))) (fun _ _ d1 k1 c1 => (ve_p (c1.pn (i := 7) (by decide +kernel))))) (by decide +kernel) Z.z_tuple))
  (vss_cons (c.set (i := 6) (by decide +kernel) (by decide) (c.tupG (by omega) (c.g1 Z.bm Z.kt_parts (own := ["j"]) (slots := [8]) (n := 9) 0 (by decide +kernel) (c.r1 (by decide +kernel) Z.z_range (c.cbp cd_len (by decide +kernel) Z.z_len (by decide +kernel) (vp_ix (c.pn (i := 0) (by decide +kernel)) vp_int (fun _ _ => rfl)))) (fun _ _ d1 k1 c1 => (c1.gn (i := 8) (by decide +kernel) (by decide))) (fun _ _ d1 k1 c1 => (vts_one (vt_cmp (od_eq c1.hu) rfl (ve_ix id_ix (fun _ _ => rfl) (ve_p (c1.pn (i := 2) (by decide +kernel))) (ve_bin od_add (ve_p (c1.pn (i := 1) (by decide +kernel))) (ve_p (c1.pn (i := 8) (by decide +kernel))))) (ve_p (c1.pn (i := 4) (by decide +kernel)))))) (fun _ _ d1 k1 c1 => (ve_p (c1.pn (i := 8) (by decide +kernel))))) (by decide +kernel) Z.z_tuple))
  (vss_one (vex (c.app (i := 3) (by decide +kernel) (ve_tup (va_cons (ve_p (c.pn (i := 5) (by decide +kernel))) (va_cons (ve_p (c.pn (i := 6) (by decide +kernel))) va_nil))))))))))
  (vss_one (vs_ret (c.tuple (by decide +kernel) Z.z_tuple (c.sorted (by decide +kernel) Z.z_sorted (va_cons (c.bw (i := 3) (by decide +kernel)) va_nil))))))))))
def B_law_take : SF :=
  (sSeq (sSet 2 (vP (gIx (gN 0) (gC (.int 4)))))
  (sSeq (sAugS 0 (gC (.int 2)) (fun i j => i + j) (vC (.int 1)))
  (sSeq (sWipe [4] (sIf (tAn (tVal (vBin pEq (vP (gIx (gN 0) (gC (.int 0)))) (vC (.int 0)))) (tVal (vBin pLt (vP (gIx (gN 0) (gC (.int 1)))) (vPrim pLen [(vP (gN 2))]))))
  (sSeq (sSet 4 (vP (gIx (gN 2) (gIx (gN 0) (gC (.int 1))))))
  (sSeq (sAugS 0 (gC (.int 1)) (fun i j => i + j) (vC (.int 1)))
  (sSeq (sIf (tVal (vBin pLt (vPrim pAbs [(vP (gN 4))]) (vBin pPow (vC (.int 10)) (vC (.int 18)))))
  (sRet (vBin pMod (vPrim pInt [(vCall F_law_mixed [(vP (gN 4)), (vP (gIx (gN 0) (gC (.int 2))))])]) (vP (gN 1))))
  sNx)
  (sSeq (sSetI 0 (gC (.int 0)) (vPrim pAbs [(vP (gN 4))]))
  (sSetI 0 (gC (.int 5)) (vC (.int 60)))))))
  sNx))
  (sSeq (sIf (tVal (vBin pEq (vP (gIx (gN 0) (gC (.int 0)))) (vC (.int 0))))
  (sRet (vBin pMod (vPrim pInt [(vCall F_law_mixed [(vP (gIx (gN 0) (gC (.int 3)))), (vP (gIx (gN 0) (gC (.int 2))))])]) (vP (gN 1))))
  sNx)
  (sSeq (sSet 3 (vBin pMod (vPrim pInt [(vP (gIx (gN 0) (gC (.int 0))))]) (vP (gN 1))))
  (sSeq (sAugS 0 (gC (.int 5)) (fun i j => i - j) (vC (.int 1)))
  (sSeq (sSetI 0 (gC (.int 0)) (vBin pMul (vBin pDiv (vP (gIx (gN 0) (gC (.int 0)))) (vP (gN 1))) (vPrim pInt [(vBin pGt (vP (gIx (gN 0) (gC (.int 5)))) (vC (.int 0)))])))
  (sRet (vP (gN 3))))))))))
def F_law_take : Fn := mkFn 2 5 [0] B_law_take
theorem ok_law_take (Z : TX K mg T base fA fD) : FnOk Pg w K mg base CX0 2 (fA 9) (fD 9) p_law_take (spF K T 2 F_law_take) :=
  fnOk_c (k := 1) Z.F_law_take sc_law_take rfl fun X c => (show VSs X T [0] _ B_law_take from
  (vss_cons (c.set (i := 2) (by decide +kernel) (by decide) (ve_p (vp_ix (c.pn (i := 0) (by decide +kernel)) vp_int (fun _ _ => rfl))))
  (vss_cons (c.augS (i := 0) (by decide +kernel) vp_int ve_int ip_add)
  (vss_cons (vs_wipe [4] (vs_if (vt_w (vw_an (vt_cmp (od_eq c.hu) rfl (ve_p (vp_ix (c.pn (i := 0) (by decide +kernel)) vp_int (fun _ _ => rfl))) ve_int) (vw_an1 (vt_cmp od_lt rfl (ve_p (vp_ix (c.pn (i := 0) (by decide +kernel)) vp_int (fun _ _ => rfl))) (c.cb cd_len (by decide +kernel) Z.z_len (by decide +kernel) (va_cons (ve_p (c.pn (i := 2) (by decide +kernel))) va_nil))))))
  (vss_cons (c.set (i := 4) (by decide +kernel) (by decide) (ve_p (vp_ix (c.pn (i := 2) (by decide +kernel)) (vp_ix (c.pn (i := 0) (by decide +kernel)) vp_int (fun _ _ => rfl)) (fun _ _ => rfl))))
  (vss_cons (c.augS (i := 0) (by decide +kernel) vp_int ve_int ip_add)
  (vss_cons (vs_if (vt_cmp od_lt rfl (c.cb cd_abs (by decide +kernel) Z.z_abs (by decide +kernel) (va_cons (ve_p (c.pn (i := 4) (by decide +kernel))) va_nil)) (ve_bin od_pow ve_int ve_int))
  (vss_one (vs_ret (ve_bin od_mod (c.ct cd_int (by decide +kernel) Z.z_int (by decide +kernel) (va_cons (c.call (ok_law_mixed Z) (by omega) (by decide +kernel) Z.g_law_mixed Z.F_law_mixed.kp Z.b_law_mixed (va_cons (ve_p (c.pn (i := 4) (by decide +kernel))) (va_cons (ve_p (vp_ix (c.pn (i := 0) (by decide +kernel)) vp_int (fun _ _ => rfl))) va_nil)) rfl) va_nil)) (ve_p (c.pn (i := 1) (by decide +kernel))))))
  vss_nil)
  (vss_cons (c.setI (i := 0) (by decide +kernel) vp_int (c.cb cd_abs (by decide +kernel) Z.z_abs (by decide +kernel) (va_cons (ve_p (c.pn (i := 4) (by decide +kernel))) va_nil)))
  (vss_one (c.setI (i := 0) (by decide +kernel) vp_int ve_int))))))
  vss_nil))
  (vss_cons (vs_if (vt_cmp (od_eq c.hu) rfl (ve_p (vp_ix (c.pn (i := 0) (by decide +kernel)) vp_int (fun _ _ => rfl))) ve_int)
  (vss_one (vs_ret (ve_bin od_mod (c.ct cd_int (by decide +kernel) Z.z_int (by decide +kernel) (va_cons (c.call (ok_law_mixed Z) (by omega) (by decide +kernel) Z.g_law_mixed Z.F_law_mixed.kp Z.b_law_mixed (va_cons (ve_p (vp_ix (c.pn (i := 0) (by decide +kernel)) vp_int (fun _ _ => rfl))) (va_cons (ve_p (vp_ix (c.pn (i := 0) (by decide +kernel)) vp_int (fun _ _ => rfl))) va_nil)) rfl) va_nil)) (ve_p (c.pn (i := 1) (by decide +kernel))))))
  vss_nil)
  (vss_cons (c.set (i := 3) (by decide +kernel) (by decide) (ve_bin od_mod (c.ct cd_int (by decide +kernel) Z.z_int (by decide +kernel) (va_cons (ve_p (vp_ix (c.pn (i := 0) (by decide +kernel)) vp_int (fun _ _ => rfl))) va_nil)) (ve_p (c.pn (i := 1) (by decide +kernel)))))
  (vss_cons (c.augS (i := 0) (by decide +kernel) vp_int ve_int ip_sub)
  (vss_cons (c.setI (i := 0) (by decide +kernel) vp_int (ve_bin od_mul (ve_bin od_div (ve_p (vp_ix (c.pn (i := 0) (by decide +kernel)) vp_int (fun _ _ => rfl))) (ve_p (c.pn (i := 1) (by decide +kernel)))) (c.ct cd_int (by decide +kernel) Z.z_int (by decide +kernel) (va_cons (ve_cmp od_gt rfl (ve_p (vp_ix (c.pn (i := 0) (by decide +kernel)) vp_int (fun _ _ => rfl))) ve_int) va_nil))))
  (vss_one (vs_ret (ve_p (c.pn (i := 3) (by decide +kernel)))))))))))))
def L_law_shuffled_0 : SF :=
  (sWipe [4, 5] (sSeq (sSet 5 (vCall F_law_take [(vBw 0), (vPrim pLen [(vP (gN 2))])]))
  (sSeq (sExpr (vApp 3 (vP (gIx (gN 2) (gN 5)))))
  (sSet 2 (vFz (vBin pAdd (vSl (vP (gN 2)) none (some (vP (gN 5)))) (vSl (vP (gN 2)) (some (vBin pAdd (vP (gN 5)) (vC (.int 1)))) none)))))))
def B_law_shuffled : SF :=
  (sSeq (sSet 2 (vFz (vPrim pList [(vP (gN 1))])))
  (sSeq (sSet 3 (vLst []))
  (sSeq (sFor (itR1 (vPrim pLen [(vP (gN 1))])) (bName 4)
  L_law_shuffled_0)
  (sRet (vMv 3)))))
def F_law_shuffled : Fn := mkFn 2 6 [0] B_law_shuffled
theorem ok_law_shuffled (Z : TX K mg T base fA fD) : FnOk Pg w K mg base CX0 3 (fA 11) (fD 11) p_law_shuffled (spF K T 2 F_law_shuffled) :=
  fnOk_c (k := 2) Z.F_law_shuffled sc_law_shuffled rfl fun X c => (show VSs X T [0] _ B_law_shuffled from
  (vss_cons (c.set (i := 2) (by decide +kernel) (by decide) (ve_fz (c.ct cd_list (by decide +kernel) Z.z_list (by decide +kernel) (va_cons (ve_p (c.pn (i := 1) (by decide +kernel))) va_nil))))
  (vss_cons (c.set (i := 3) (by decide +kernel) (by decide) (ve_lst va_nil))
  (vss_cons (c.for (c.r1 (by decide +kernel) Z.z_range (c.cb cd_len (by decide +kernel) Z.z_len (by decide +kernel) (va_cons (ve_p (c.pn (i := 1) (by decide +kernel))) va_nil))) (c.gn (i := 4) (by decide +kernel) (by decide))
  (vss_wipe [4, 5] (vss_cons (c.set (i := 5) (by decide +kernel) (by decide) (c.call (ok_law_take Z) (by omega) (by decide +kernel) Z.g_law_take Z.F_law_take.kp Z.b_law_take (va_cons (c.bw (i := 0) (by decide +kernel)) (va_cons (c.cb cd_len (by decide +kernel) Z.z_len (by decide +kernel) (va_cons (ve_p (c.pn (i := 2) (by decide +kernel))) va_nil)) va_nil)) rfl))
  (vss_cons (vex (c.app (i := 3) (by decide +kernel) (ve_p (vp_ix (c.pn (i := 2) (by decide +kernel)) (c.pn (i := 5) (by decide +kernel)) (fun _ _ => rfl)))))
  (vss_one (c.set (i := 2) (by decide +kernel) (by decide) (ve_fz (ve_bin od_add (ve_sl (ve_p (c.pn (i := 2) (by decide +kernel))) vo_none (vo_some (ve_p (c.pn (i := 5) (by decide +kernel))))) (ve_sl (ve_p (c.pn (i := 2) (by decide +kernel))) (vo_some (ve_bin od_add (ve_p (c.pn (i := 5) (by decide +kernel))) ve_int)) vo_none)))))))))
  (vss_one (vs_ret (c.mv (i := 3) (by decide +kernel))))))))
def E_part_table_0 : VF :=
  (vP (gIx (gIx (gN 0) (gN 3)) (gN 4)))
def E_part_table_1 : VF :=
  ((gx1 5 [4] (itP (vP (gN 2))) (bName 4) tYes' E_part_table_0) stNo false fTup)
def B_part_table : SF :=
  (sRet ((gx1 5 [3] (itP (vP (gN 1))) (bName 3) tYes' E_part_table_1) stNo false fTup))
def F_part_table : Fn := mkFn 3 5 [] B_part_table
theorem ok_part_table (Z : TX K mg T base fA fD) : FnOk Pg w K mg base CX0 15 (fA 3) (fD 3) p_part_table (spF K T 3 F_part_table) :=
  fnOk_c (k := 14) Z.F_part_table sc_part_table rfl fun X c => (show VSs X T [] _ B_part_table from
  (vss_one (vs_ret (c.tupG (by omega) (c.g1 Z.bm Z.kt_part_table (own := ["i"]) (slots := [3]) (n := 5) 7 (by decide +kernel) (vi_tup (ve_p (c.pn (i := 1) (by decide +kernel)))) (fun _ _ d1 k1 c1 => (c1.gn (i := 3) (by decide +kernel) (by decide))) (fun _ _ d1 k1 c1 => vts_nil) (fun _ _ d1 k1 c1 => (c1.tupG (by omega) (c1.g1 Z.bm k1 (own := ["j"]) (slots := [4]) (n := 5) 0 (by decide +kernel) (vi_tup (ve_p (c1.pn (i := 2) (by decide +kernel)))) (fun _ _ d2 k2 c2 => (c2.gn (i := 4) (by decide +kernel) (by decide))) (fun _ _ d2 k2 c2 => vts_nil) (fun _ _ d2 k2 c2 => (ve_p (vp_ix (vp_ix (c2.pn (i := 0) (by decide +kernel)) (c2.pn (i := 3) (by decide +kernel)) (fun _ _ => rfl)) (c2.pn (i := 4) (by decide +kernel)) (fun _ _ => rfl))))) (by decide +kernel) Z.z_tuple))) (by decide +kernel) Z.z_tuple))))
def E_law_is_told_0 : VF :=
  (vP (gIx (gN 8) (gN 6)))
def E_law_is_told_1 : VF :=
  (vUn pTuple (vLc 9 [8] (itP (vP (gN 1))) (bName 8) tYes' E_law_is_told_0))
def E_law_is_told_2 : VF :=
  (vP (gIx (gIx (gN 1) (gN 7)) (gN 6)))
def E_law_is_told_3 : VF :=
  (vUn pTuple (vLc 9 [6] (itP (vP (gN 5))) (bName 6) tYes' E_law_is_told_2))
def L_law_is_told_4 : SF :=
  (sWipe [2, 3, 4, 5] (sSeq (sSet 4 (vUn pTuple (vPrim pSorted [(vSl (vFz (vCall F_law_shuffled [(vBw 0), (vFz (vLR (r1F (vPrim pLen [(vP (gN 1))]))))])) none (some (vBin pAdd (vC (.int 1)) (vCall F_law_take [(vBw 0), (vPrim pLen [(vP (gN 1))])]))))])))
  (sSeq (sSet 5 (vUn pTuple (vPrim pSorted [(vSl (vFz (vCall F_law_shuffled [(vBw 0), (vFz (vLR (r1F (vPrP pLen (gIx (gN 1) (gC (.int 0)))))))])) none (some (vBin pAdd (vC (.int 1)) (vCall F_law_take [(vBw 0), (vPrP pLen (gIx (gN 1) (gC (.int 0))))]))))])))
  (sSeq (sSet 2 (vUn pTuple (vLc 9 [7] (itP (vP (gN 4))) (bName 7) tYes' E_law_is_told_3)))
  (sIf (tOr' (tNo (tVal (vCall (F_law_same 4) [(vCall F_part_table [(vP (gN 1)), (vP (gN 4)), (vP (gN 5))]), (vP (gN 2))]))) (tNo (tVal (vCall (F_law_same 4) [(vCallD F_part_table [2, 1, 0] [(vP (gN 5)), (vP (gN 4)), (vP (gN 1))]), (vP (gN 2))]))))
  (sRet (vC (.bl false)))
  sNx)))))
def B_law_is_told : SF :=
  (sSeq (sSet 2 (vUn pTuple (vCall F_law_open [(vP (gN 1))])))
  (sSeq (sIf (tOr' (tNo (tVal (vCall (F_law_same 4) [(vCall F_ways [(vP (gN 1))]), (vP (gN 2))]))) (tNo (tVal (vCall (F_law_same 4) [(vCallD F_ways [0] [(vP (gN 1))]), (vP (gN 2))]))))
  (sRet (vC (.bl false)))
  sNx)
  (sSeq (sSet 2 (vUn pTuple (vLc 9 [6] (itR1 (vPrP pLen (gIx (gN 1) (gC (.int 0))))) (bName 6) tYes' E_law_is_told_1)))
  (sSeq (sIf (tOr' (tNo (tVal (vCall (F_law_same 4) [(vCall F_turned [(vP (gN 1))]), (vP (gN 2))]))) (tOr' (tNo (tVal (vCall (F_law_same 4) [(vCallD F_turned [0] [(vP (gN 1))]), (vP (gN 2))]))) (tNo (tVal (vCall (F_law_same 4) [(vCall F_turned [(vP (gN 2))]), (vP (gN 1))])))))
  (sRet (vC (.bl false)))
  sNx)
  (sSeq (sSet 2 (vCall F_law_parts [(vP (gN 1))]))
  (sSeq (sIf (tOr' (tNo (tVal (vCall (F_law_same 4) [(vCall F_parts [(vP (gN 1))]), (vP (gN 2))]))) (tNo (tVal (vCall (F_law_same 4) [(vCallD F_parts [0] [(vP (gN 1))]), (vP (gN 2))]))))
  (sRet (vC (.bl false)))
  sNx)
  (sSeq (sFor (itR1 (vC (.int 3))) (bName 3)
  L_law_is_told_4)
  (sRet (vC (.bl true))))))))))
def F_law_is_told : Fn := mkFn 2 9 [0] B_law_is_told
theorem ok_law_is_told (Z : TX K mg T base fA fD) : FnOk Pg w K mg base CX0 16 (fA 17) (fD 17) p_law_is_told (spF K T 2 F_law_is_told) :=
  fnOk_c (k := 15) Z.F_law_is_told sc_law_is_told rfl fun X c => (show VSs X T [0] _ B_law_is_told from
  (vss_cons (c.set (i := 2) (by decide +kernel) (by decide) (c.tuple (by decide +kernel) Z.z_tuple (c.call (ok_law_open Z) (by omega) (by decide +kernel) Z.g_law_open Z.F_law_open.kp Z.b_law_open (va_cons (ve_p (c.pn (i := 1) (by decide +kernel))) va_nil) rfl)))
  (vss_cons (vs_if (vt_w (vw_or (vt_no (vt_val (c.call (ok_law_same Z 4) (by omega) (by decide +kernel) Z.g_law_same Z.F_law_same.kp Z.b_law_same (va_cons (c.call (ok_ways Z) (by omega) (by decide +kernel) Z.g_ways Z.F_ways.kp Z.b_ways (va_cons (ve_p (c.pn (i := 1) (by decide +kernel))) va_nil) rfl) (va_cons (ve_p (c.pn (i := 2) (by decide +kernel))) va_nil)) rfl))) (vw_or1 (vt_no (vt_val (c.call (ok_law_same Z 4) (by omega) (by decide +kernel) Z.g_law_same Z.F_law_same.kp Z.b_law_same (va_cons (c.callK0 (ks := ["table"]) (idx := [0]) (ok_ways Z) (by omega) (by decide +kernel) Z.g_ways Z.F_ways.kp Z.k_ways_table (vk_cons (ve_p (c.pn (i := 1) (by decide +kernel))) vk_nil) (fun l h => match l, h with | [v0], _ => rfl) rfl) (va_cons (ve_p (c.pn (i := 2) (by decide +kernel))) va_nil)) rfl))))))
  (vss_one (vs_ret ve_bl))
  vss_nil)
  (vss_cons (c.set (i := 2) (by decide +kernel) (by decide) (c.tuple (by decide +kernel) Z.z_tuple (c.lc (own := [("j", 6)]) (n := 9) (by decide +kernel) (c.r1 (by decide +kernel) Z.z_range (c.cbp cd_len (by decide +kernel) Z.z_len (by decide +kernel) (vp_ix (c.pn (i := 1) (by decide +kernel)) vp_int (fun _ _ => rfl)))) (fun _ c1 => (c1.gn (i := 6) (by decide +kernel) (by decide))) (fun _ c1 => vts_nil) (fun _ c1 => (c1.tuple (by decide +kernel) Z.z_tuple (c1.lc (own := [("row", 8)]) (n := 9) (by decide +kernel) (vi_tup (ve_p (c1.pn (i := 1) (by decide +kernel)))) (fun _ c2 => (c2.gn (i := 8) (by decide +kernel) (by decide))) (fun _ c2 => vts_nil) (fun _ c2 => (ve_p (vp_ix (c2.pn (i := 8) (by decide +kernel)) (c2.pn (i := 6) (by decide +kernel)) (fun _ _ => rfl))))))))))
  (vss_cons (vs_if (vt_w (vw_or (vt_no (vt_val (c.call (ok_law_same Z 4) (by omega) (by decide +kernel) Z.g_law_same Z.F_law_same.kp Z.b_law_same (va_cons (c.call (ok_turned Z) (by omega) (by decide +kernel) Z.g_turned Z.F_turned.kp Z.b_turned (va_cons (ve_p (c.pn (i := 1) (by decide +kernel))) va_nil) rfl) (va_cons (ve_p (c.pn (i := 2) (by decide +kernel))) va_nil)) rfl))) (vw_or (vt_no (vt_val (c.call (ok_law_same Z 4) (by omega) (by decide +kernel) Z.g_law_same Z.F_law_same.kp Z.b_law_same (va_cons (c.callK0 (ks := ["table"]) (idx := [0]) (ok_turned Z) (by omega) (by decide +kernel) Z.g_turned Z.F_turned.kp Z.k_turned_table (vk_cons (ve_p (c.pn (i := 1) (by decide +kernel))) vk_nil) (fun l h => match l, h with | [v0], _ => rfl) rfl) (va_cons (ve_p (c.pn (i := 2) (by decide +kernel))) va_nil)) rfl))) (vw_or1 (vt_no (vt_val (c.call (ok_law_same Z 4) (by omega) (by decide +kernel) Z.g_law_same Z.F_law_same.kp Z.b_law_same (va_cons (c.call (ok_turned Z) (by omega) (by decide +kernel) Z.g_turned Z.F_turned.kp Z.b_turned (va_cons (ve_p (c.pn (i := 2) (by decide +kernel))) va_nil) rfl) (va_cons (ve_p (c.pn (i := 1) (by decide +kernel))) va_nil)) rfl)))))))
  (vss_one (vs_ret ve_bl))
  vss_nil)
  (vss_cons (c.set (i := 2) (by decide +kernel) (by decide) (c.call (ok_law_parts Z) (by omega) (by decide +kernel) Z.g_law_parts Z.F_law_parts.kp Z.b_law_parts (va_cons (ve_p (c.pn (i := 1) (by decide +kernel))) va_nil) rfl))
  (vss_cons (vs_if (vt_w (vw_or (vt_no (vt_val (c.call (ok_law_same Z 4) (by omega) (by decide +kernel) Z.g_law_same Z.F_law_same.kp Z.b_law_same (va_cons (c.call (ok_parts Z) (by omega) (by decide +kernel) Z.g_parts Z.F_parts.kp Z.b_parts (va_cons (ve_p (c.pn (i := 1) (by decide +kernel))) va_nil) rfl) (va_cons (ve_p (c.pn (i := 2) (by decide +kernel))) va_nil)) rfl))) (vw_or1 (vt_no (vt_val (c.call (ok_law_same Z 4) (by omega) (by decide +kernel) Z.g_law_same Z.F_law_same.kp Z.b_law_same (va_cons (c.callK0 (ks := ["table"]) (idx := [0]) (ok_parts Z) (by omega) (by decide +kernel) Z.g_parts Z.F_parts.kp Z.k_parts_table (vk_cons (ve_p (c.pn (i := 1) (by decide +kernel))) vk_nil) (fun l h => match l, h with | [v0], _ => rfl) rfl) (va_cons (ve_p (c.pn (i := 2) (by decide +kernel))) va_nil)) rfl))))))
  (vss_one (vs_ret ve_bl))
  vss_nil)
  (vss_cons (c.for (c.r1 (by decide +kernel) Z.z_range ve_int) (c.gn (i := 3) (by decide +kernel) (by decide))
  (vss_wipe [2, 3, 4, 5] (vss_cons (c.set (i := 4) (by decide +kernel) (by decide) (c.tuple (by decide +kernel) Z.z_tuple (c.sorted (by decide +kernel) Z.z_sorted (va_cons (ve_sl (ve_fz (c.call (ok_law_shuffled Z) (by omega) (by decide +kernel) Z.g_law_shuffled Z.F_law_shuffled.kp Z.b_law_shuffled (va_cons (c.bw (i := 0) (by decide +kernel)) (va_cons (ve_fz (c.listR (by decide +kernel) Z.z_list (c.rg1 (by decide +kernel) Z.z_range (c.cb cd_len (by decide +kernel) Z.z_len (by decide +kernel) (va_cons (ve_p (c.pn (i := 1) (by decide +kernel))) va_nil))))) va_nil)) rfl)) vo_none (vo_some (ve_bin od_add ve_int (c.call (ok_law_take Z) (by omega) (by decide +kernel) Z.g_law_take Z.F_law_take.kp Z.b_law_take (va_cons (c.bw (i := 0) (by decide +kernel)) (va_cons (c.cb cd_len (by decide +kernel) Z.z_len (by decide +kernel) (va_cons (ve_p (c.pn (i := 1) (by decide +kernel))) va_nil)) va_nil)) rfl)))) va_nil))))
  (vss_cons (c.set (i := 5) (by decide +kernel) (by decide) (c.tuple (by decide +kernel) Z.z_tuple (c.sorted (by decide +kernel) Z.z_sorted (va_cons (ve_sl (ve_fz (c.call (ok_law_shuffled Z) (by omega) (by decide +kernel) Z.g_law_shuffled Z.F_law_shuffled.kp Z.b_law_shuffled (va_cons (c.bw (i := 0) (by decide +kernel)) (va_cons (ve_fz (c.listR (by decide +kernel) Z.z_list (c.rg1 (by decide +kernel) Z.z_range (c.cbp cd_len (by decide +kernel) Z.z_len (by decide +kernel) (vp_ix (c.pn (i := 1) (by decide +kernel)) vp_int (fun _ _ => rfl)))))) va_nil)) rfl)) vo_none (vo_some (ve_bin od_add ve_int (c.call (ok_law_take Z) (by omega) (by decide +kernel) Z.g_law_take Z.F_law_take.kp Z.b_law_take (va_cons (c.bw (i := 0) (by decide +kernel)) (va_cons (c.cbp cd_len (by decide +kernel) Z.z_len (by decide +kernel) (vp_ix (c.pn (i := 1) (by decide +kernel)) vp_int (fun _ _ => rfl))) va_nil)) rfl)))) va_nil))))
  (vss_cons (c.set (i := 2) (by decide +kernel) (by decide) (c.tuple (by decide +kernel) Z.z_tuple (c.lc (own := [("i", 7)]) (n := 9) (by decide +kernel) (vi_tup (ve_p (c.pn (i := 4) (by decide +kernel)))) (fun _ c1 => (c1.gn (i := 7) (by decide +kernel) (by decide))) (fun _ c1 => vts_nil) (fun _ c1 => (c1.tuple (by decide +kernel) Z.z_tuple (c1.lc (own := [("j", 6)]) (n := 9) (by decide +kernel) (vi_tup (ve_p (c1.pn (i := 5) (by decide +kernel)))) (fun _ c2 => (c2.gn (i := 6) (by decide +kernel) (by decide))) (fun _ c2 => vts_nil) (fun _ c2 => (ve_p (vp_ix (vp_ix (c2.pn (i := 1) (by decide +kernel)) (c2.pn (i := 7) (by decide +kernel)) (fun _ _ => rfl)) (c2.pn (i := 6) (by decide +kernel)) (fun _ _ => rfl))))))))))
  (vss_one (vs_if (vt_w (vw_or (vt_no (vt_val (c.call (ok_law_same Z 4) (by omega) (by decide +kernel) Z.g_law_same Z.F_law_same.kp Z.b_law_same (va_cons (c.call (ok_part_table Z) (by omega) (by decide +kernel) Z.g_part_table Z.F_part_table.kp Z.b_part_table (va_cons (ve_p (c.pn (i := 1) (by decide +kernel))) (va_cons (ve_p (c.pn (i := 4) (by decide +kernel))) (va_cons (ve_p (c.pn (i := 5) (by decide +kernel))) va_nil))) rfl) (va_cons (ve_p (c.pn (i := 2) (by decide +kernel))) va_nil)) rfl))) (vw_or1 (vt_no (vt_val (c.call (ok_law_same Z 4) (by omega) (by decide +kernel) Z.g_law_same Z.F_law_same.kp Z.b_law_same (va_cons (c.callK0 (ks := ["shops", "stores", "table"]) (idx := [2, 1, 0]) (ok_part_table Z) (by omega) (by decide +kernel) Z.g_part_table Z.F_part_table.kp Z.k_part_table_shops_stores_table (vk_cons (ve_p (c.pn (i := 5) (by decide +kernel))) (vk_cons (ve_p (c.pn (i := 4) (by decide +kernel))) (vk_cons (ve_p (c.pn (i := 1) (by decide +kernel))) vk_nil))) (fun l h => match l, h with | [v0, v1, v2], _ => rfl) rfl) (va_cons (ve_p (c.pn (i := 2) (by decide +kernel))) va_nil)) rfl))))))
  (vss_one (vs_ret ve_bl))
  vss_nil)))))))
  (vss_one (vs_ret ve_bl))))))))))
def B_law_pick : SF :=
  (sRet (vBin pIx (vP (gN 1)) (vCall F_law_take [(vBw 0), (vPrim pLen [(vP (gN 1))])])))
def F_law_pick : Fn := mkFn 2 2 [0] B_law_pick
theorem ok_law_pick (Z : TX K mg T base fA fD) : FnOk Pg w K mg base CX0 3 (fA 10) (fD 10) p_law_pick (spF K T 2 F_law_pick) :=
  fnOk_c (k := 2) Z.F_law_pick sc_law_pick rfl fun X c => (show VSs X T [0] _ B_law_pick from
  (vss_one (vs_ret (ve_ix id_ix (fun _ _ => rfl) (ve_p (c.pn (i := 1) (by decide +kernel))) (c.call (ok_law_take Z) (by omega) (by decide +kernel) Z.g_law_take Z.F_law_take.kp Z.b_law_take (va_cons (c.bw (i := 0) (by decide +kernel)) (va_cons (c.cb cd_len (by decide +kernel) Z.z_len (by decide +kernel) (va_cons (ve_p (c.pn (i := 1) (by decide +kernel))) va_nil)) va_nil)) rfl)))))
def B_law_shape : SF :=
  (sSeq (sSet 1 (vCall F_law_pick [(vBw 0), (vFz (vLst [(vTup [(vC (.int 4)), (vC (.int 6))]), (vTup [(vC (.int 6)), (vC (.int 4))]), (vTup [(vC (.int 1)), (vC (.int 6))]), (vTup [(vC (.int 6)), (vC (.int 1))]), (vTup [(vC (.int 2)), (vC (.int 6))]), (vTup [(vC (.int 3)), (vC (.int 6))]), (vTup [(vC (.int 6)), (vC (.int 2))]), (vTup [(vC (.int 6)), (vC (.int 3))])]))]))
  (sRet (vCall F_law_pick [(vBw 0), (vFz (vLst [(vTup [(vBin pAdd (vC (.int 1)) (vCall F_law_take [(vBw 0), (vC (.int 3))])), (vBin pAdd (vC (.int 1)) (vCall F_law_take [(vBw 0), (vC (.int 3))]))]), (vTup [(vBin pAdd (vC (.int 1)) (vCall F_law_take [(vBw 0), (vC (.int 5))])), (vBin pAdd (vC (.int 1)) (vCall F_law_take [(vBw 0), (vC (.int 5))]))]), (vP (gN 1)), (vTup [(vC (.int 3)), (vC (.int 3))])]))])))
def F_law_shape : Fn := mkFn 1 2 [0] B_law_shape
theorem ok_law_shape (Z : TX K mg T base fA fD) : FnOk Pg w K mg base CX0 4 (fA 13) (fD 13) p_law_shape (spF K T 1 F_law_shape) :=
  fnOk_c (k := 3) Z.F_law_shape sc_law_shape rfl fun X c => (show VSs X T [0] _ B_law_shape from
  (vss_cons (c.set (i := 1) (by decide +kernel) (by decide) (c.call (ok_law_pick Z) (by omega) (by decide +kernel) Z.g_law_pick Z.F_law_pick.kp Z.b_law_pick (va_cons (c.bw (i := 0) (by decide +kernel)) (va_cons (ve_fz (ve_lst (va_cons (ve_tup (va_cons ve_int (va_cons ve_int va_nil))) (va_cons (ve_tup (va_cons ve_int (va_cons ve_int va_nil))) (va_cons (ve_tup (va_cons ve_int (va_cons ve_int va_nil))) (va_cons (ve_tup (va_cons ve_int (va_cons ve_int va_nil))) (va_cons (ve_tup (va_cons ve_int (va_cons ve_int va_nil))) (va_cons (ve_tup (va_cons ve_int (va_cons ve_int va_nil))) (va_cons (ve_tup (va_cons ve_int (va_cons ve_int va_nil))) (va_cons (ve_tup (va_cons ve_int (va_cons ve_int va_nil))) va_nil)))))))))) va_nil)) rfl))
  (vss_one (vs_ret (c.call (ok_law_pick Z) (by omega) (by decide +kernel) Z.g_law_pick Z.F_law_pick.kp Z.b_law_pick (va_cons (c.bw (i := 0) (by decide +kernel)) (va_cons (ve_fz (ve_lst (va_cons (ve_tup (va_cons (ve_bin od_add ve_int (c.call (ok_law_take Z) (by omega) (by decide +kernel) Z.g_law_take Z.F_law_take.kp Z.b_law_take (va_cons (c.bw (i := 0) (by decide +kernel)) (va_cons ve_int va_nil)) rfl)) (va_cons (ve_bin od_add ve_int (c.call (ok_law_take Z) (by omega) (by decide +kernel) Z.g_law_take Z.F_law_take.kp Z.b_law_take (va_cons (c.bw (i := 0) (by decide +kernel)) (va_cons ve_int va_nil)) rfl)) va_nil))) (va_cons (ve_tup (va_cons (ve_bin od_add ve_int (c.call (ok_law_take Z) (by omega) (by decide +kernel) Z.g_law_take Z.F_law_take.kp Z.b_law_take (va_cons (c.bw (i := 0) (by decide +kernel)) (va_cons ve_int va_nil)) rfl)) (va_cons (ve_bin od_add ve_int (c.call (ok_law_take Z) (by omega) (by decide +kernel) Z.g_law_take Z.F_law_take.kp Z.b_law_take (va_cons (c.bw (i := 0) (by decide +kernel)) (va_cons ve_int va_nil)) rfl)) va_nil))) (va_cons (ve_p (c.pn (i := 1) (by decide +kernel))) (va_cons (ve_tup (va_cons ve_int (va_cons ve_int va_nil))) va_nil)))))) va_nil)) rfl)))))
def L_law_table_0 : SF :=
  (sWipe [8, 9] (sSeq (sSet 9 (vIf (tVal (vP (gN 5))) (vCall F_law_pick [(vBw 0), (vFz (vLst [(vBin pSub (vCall F_law_take [(vBw 0), (vC (.int 2001))]) (vC (.int 1000))), (vC (.int 1000)), (vUn pNeg (vC (.int 1000)))]))]) (vCall F_law_pick [(vBw 0), (vFz (vLst [(vCall F_law_take [(vBw 0), (vC (.int 5))]), (vCall F_law_take [(vBw 0), (vC (.int 5))]), (vBin pSub (vCall F_law_take [(vBw 0), (vC (.int 5))]) (vC (.int 2)))]))])))
  (sExpr (vApp 7 (vIf (tVal (vBin pEq (vCall F_law_take [(vBw 0), (vP (gN 6))]) (vC (.int 1)))) (vC .non) (vP (gN 9)))))))
def L_law_table_1 : SF :=
  (sWipe [4, 7, 8, 9] (sSeq (sSet 7 (vLst []))
  (sSeq (sFor (itR1 (vP (gN 2))) (bName 8)
  L_law_table_0)
  (sExpr (vApp 3 (vUn pTuple (vBw 7)))))))
def B_law_table : SF :=
  (sSeq (sPar [5, 6] [(vBin pEq (vCall F_law_take [(vBw 0), (vC (.int 4))]) (vC (.int 0))), (vCall F_law_pick [(vBw 0), (vFz (vLst [(vC (.int 999)), (vC (.int 999)), (vC (.int 5)), (vC (.int 2))]))])])
  (sSeq (sSet 3 (vLst []))
  (sSeq (sFor (itR1 (vP (gN 1))) (bName 4)
  L_law_table_1)
  (sRet (vUn pTuple (vBw 3))))))
def F_law_table : Fn := mkFn 3 10 [0] B_law_table
theorem ok_law_table (Z : TX K mg T base fA fD) : FnOk Pg w K mg base CX0 4 (fA 14) (fD 14) p_law_table (spF K T 3 F_law_table) :=
  fnOk_c (k := 3) Z.F_law_table sc_law_table rfl fun X c => (show VSs X T [0] _ B_law_table from
  (vss_cons (c.par2 (i := 5) (j := 6) (by decide) (by decide +kernel) (by decide +kernel) (by decide +kernel) (by decide +kernel) (by decide) (va_cons (ve_cmp (od_eq c.hu) rfl (c.call (ok_law_take Z) (by omega) (by decide +kernel) Z.g_law_take Z.F_law_take.kp Z.b_law_take (va_cons (c.bw (i := 0) (by decide +kernel)) (va_cons ve_int va_nil)) rfl) ve_int) (va_cons (c.call (ok_law_pick Z) (by omega) (by decide +kernel) Z.g_law_pick Z.F_law_pick.kp Z.b_law_pick (va_cons (c.bw (i := 0) (by decide +kernel)) (va_cons (ve_fz (ve_lst (va_cons ve_int (va_cons ve_int (va_cons ve_int (va_cons ve_int va_nil)))))) va_nil)) rfl) va_nil)) (c.swp rfl))
  (vss_cons (c.set (i := 3) (by decide +kernel) (by decide) (ve_lst va_nil))
  (vss_cons (c.for (c.r1 (by decide +kernel) Z.z_range (ve_p (c.pn (i := 1) (by decide +kernel)))) (c.gn (i := 4) (by decide +kernel) (by decide))
  (vss_wipe [4, 7, 8, 9] (vss_cons (c.set (i := 7) (by decide +kernel) (by decide) (ve_lst va_nil))
  (vss_cons (c.for (c.r1 (by decide +kernel) Z.z_range (ve_p (c.pn (i := 2) (by decide +kernel)))) (c.gn (i := 8) (by decide +kernel) (by decide))
  (vss_wipe [8, 9] (vss_cons (c.set (i := 9) (by decide +kernel) (by decide) (ve_if (vt_val (ve_p (c.pn (i := 5) (by decide +kernel)))) (c.call (ok_law_pick Z) (by omega) (by decide +kernel) Z.g_law_pick Z.F_law_pick.kp Z.b_law_pick (va_cons (c.bw (i := 0) (by decide +kernel)) (va_cons (ve_fz (ve_lst (va_cons (ve_bin od_sub (c.call (ok_law_take Z) (by omega) (by decide +kernel) Z.g_law_take Z.F_law_take.kp Z.b_law_take (va_cons (c.bw (i := 0) (by decide +kernel)) (va_cons ve_int va_nil)) rfl) ve_int) (va_cons ve_int (va_cons (ve_un ud_neg ve_int (by decide)) va_nil))))) va_nil)) rfl) (c.call (ok_law_pick Z) (by omega) (by decide +kernel) Z.g_law_pick Z.F_law_pick.kp Z.b_law_pick (va_cons (c.bw (i := 0) (by decide +kernel)) (va_cons (ve_fz (ve_lst (va_cons (c.call (ok_law_take Z) (by omega) (by decide +kernel) Z.g_law_take Z.F_law_take.kp Z.b_law_take (va_cons (c.bw (i := 0) (by decide +kernel)) (va_cons ve_int va_nil)) rfl) (va_cons (c.call (ok_law_take Z) (by omega) (by decide +kernel) Z.g_law_take Z.F_law_take.kp Z.b_law_take (va_cons (c.bw (i := 0) (by decide +kernel)) (va_cons ve_int va_nil)) rfl) (va_cons (ve_bin od_sub (c.call (ok_law_take Z) (by omega) (by decide +kernel) Z.g_law_take Z.F_law_take.kp Z.b_law_take (va_cons (c.bw (i := 0) (by decide +kernel)) (va_cons ve_int va_nil)) rfl) ve_int) va_nil))))) va_nil)) rfl)))
  (vss_one (vex (c.app (i := 7) (by decide +kernel) (ve_if (vt_cmp (od_eq c.hu) rfl (c.call (ok_law_take Z) (by omega) (by decide +kernel) Z.g_law_take Z.F_law_take.kp Z.b_law_take (va_cons (c.bw (i := 0) (by decide +kernel)) (va_cons (ve_p (c.pn (i := 6) (by decide +kernel))) va_nil)) rfl) ve_int) ve_non (ve_p (c.pn (i := 9) (by decide +kernel))))))))))
  (vss_one (vex (c.app (i := 3) (by decide +kernel) (c.tuple (by decide +kernel) Z.z_tuple (c.bw (i := 7) (by decide +kernel))))))))))
  (vss_one (vs_ret (c.tuple (by decide +kernel) Z.z_tuple (c.bw (i := 3) (by decide +kernel)))))))))
def E_law_0 : VF :=
  (vIf (tVal (vBin pEq (vCall F_law_take [(vBw 1), (vC (.int 3))]) (vC (.int 0)))) (vP (gN 8)) (vC .non))
def E_law_1 : VF :=
  (vUn pTuple (vLc 9 [8] (itP (vP (gIx (gN 3) (gN 7)))) (bName 8) tYes' E_law_0))
def L_law_2 : SF :=
  (sWipe [2, 3, 4] (sSeq (sAsg (vCall F_law_shape [(vBw 1)]) (bTup [(bName 5), (bName 6)]))
  (sSeq (sSet 3 (vCall F_law_table [(vBw 1), (vP (gN 5)), (vP (gN 6))]))
  (sSeq (sIf (tNo (tVal (vCall F_law_is_told [(vBw 1), (vP (gN 3))])))
  (sRet (vC (.bl false)))
  sNx)
  (sSeq (sSet 4 (vUn pTuple (vLc 9 [7] (itR1 (vP (gN 5))) (bName 7) tYes' E_law_1)))
  (sIf (tNo (tVal (vCall F_law_is_told [(vBw 1), (vP (gN 4))])))
  (sRet (vC (.bl false)))
  sNx))))))
def B_law : SF :=
  (sSeq (sSet 1 (vCall F_law_start [(vP (gN 0))]))
  (sSeq (sFor (itR1 (vC (.int 4))) (bName 2)
  L_law_2)
  (sRet (vCall F_law_is_told [(vBw 1), (vBin pMulT (vTup [(vBin pMulT (vTup [(vC .non)]) (vP (gN 6)))]) (vP (gN 5)))]))))
def F_law : Fn := mkFn 1 9 [] B_law
theorem ok_law (Z : TX K mg T base fA fD) : FnOk Pg w K mg base CX0 17 (fA 18) (fD 18) p_law (spF K T 1 F_law) :=
  fnOk_c (k := 16) Z.F_law sc_law rfl fun X c => (show VSs X T [] _ B_law from
  (vss_cons (c.set (i := 1) (by decide +kernel) (by decide) (c.call (ok_law_start Z) (by omega) (by decide +kernel) Z.g_law_start Z.F_law_start.kp Z.b_law_start (va_cons (ve_p (c.pn (i := 0) (by decide +kernel))) va_nil) rfl))
  (vss_cons (c.for (c.r1 (by decide +kernel) Z.z_range ve_int) (c.gn (i := 2) (by decide +kernel) (by decide))
  (vss_wipe [2, 3, 4] (vss_cons (c.asg (c.call (ok_law_shape Z) (by omega) (by decide +kernel) Z.g_law_shape Z.F_law_shape.kp Z.b_law_shape (va_cons (c.bw (i := 1) (by decide +kernel)) va_nil) rfl) (c.gt (vgs_cons (c.gn (i := 5) (by decide +kernel) (by decide)) (vgs_cons (c.gn (i := 6) (by decide +kernel) (by decide)) vgs_nil))))
  (vss_cons (c.set (i := 3) (by decide +kernel) (by decide) (c.call (ok_law_table Z) (by omega) (by decide +kernel) Z.g_law_table Z.F_law_table.kp Z.b_law_table (va_cons (c.bw (i := 1) (by decide +kernel)) (va_cons (ve_p (c.pn (i := 5) (by decide +kernel))) (va_cons (ve_p (c.pn (i := 6) (by decide +kernel))) va_nil))) rfl))
  (vss_cons (vs_if (vt_no (vt_val (c.call (ok_law_is_told Z) (by omega) (by decide +kernel) Z.g_law_is_told Z.F_law_is_told.kp Z.b_law_is_told (va_cons (c.bw (i := 1) (by decide +kernel)) (va_cons (ve_p (c.pn (i := 3) (by decide +kernel))) va_nil)) rfl)))
  (vss_one (vs_ret ve_bl))
  vss_nil)
  (vss_cons (c.set (i := 4) (by decide +kernel) (by decide) (c.tuple (by decide +kernel) Z.z_tuple (c.lc (own := [("i", 7)]) (n := 9) (by decide +kernel) (c.r1 (by decide +kernel) Z.z_range (ve_p (c.pn (i := 5) (by decide +kernel)))) (fun _ c1 => (c1.gn (i := 7) (by decide +kernel) (by decide))) (fun _ c1 => vts_nil) (fun _ c1 => (c1.tuple (by decide +kernel) Z.z_tuple (c1.lc (own := [("price", 8)]) (n := 9) (by decide +kernel) (vi_tup (ve_p (vp_ix (c1.pn (i := 3) (by decide +kernel)) (c1.pn (i := 7) (by decide +kernel)) (fun _ _ => rfl)))) (fun _ c2 => (c2.gn (i := 8) (by decide +kernel) (by decide))) (fun _ c2 => vts_nil) (fun _ c2 => (ve_if (vt_cmp (od_eq c2.hu) rfl (c2.call (ok_law_take Z) (by omega) (by decide +kernel) Z.g_law_take Z.F_law_take.kp Z.b_law_take (va_cons (c2.bw (i := 1) (by decide +kernel)) (va_cons ve_int va_nil)) rfl) ve_int) (ve_p (c2.pn (i := 8) (by decide +kernel))) ve_non))))))))
  (vss_one (vs_if (vt_no (vt_val (c.call (ok_law_is_told Z) (by omega) (by decide +kernel) Z.g_law_is_told Z.F_law_is_told.kp Z.b_law_is_told (va_cons (c.bw (i := 1) (by decide +kernel)) (va_cons (ve_p (c.pn (i := 4) (by decide +kernel))) va_nil)) rfl)))
  (vss_one (vs_ret ve_bl))
  vss_nil))))))))
  (vss_one (vs_ret (c.call (ok_law_is_told Z) (by omega) (by decide +kernel) Z.g_law_is_told Z.F_law_is_told.kp Z.b_law_is_told (va_cons (c.bw (i := 1) (by decide +kernel)) (va_cons (ve_bin od_mulT (ve_tup (va_cons (ve_bin od_mulT (ve_tup (va_cons ve_non va_nil)) (ve_p (c.pn (i := 6) (by decide +kernel)))) va_nil)) (ve_p (c.pn (i := 5) (by decide +kernel)))) va_nil)) rfl))))))
end
end
end K02


set_option Elab.async false
set_option linter.all false
set_option maxRecDepth 100000
namespace K02
noncomputable section
open PySem PySem.Spec PyProof.Rows L2 VS
/-! the state that draws -/
structure Rl where
  a : Int
  p : Nat
  c : Int
  d : Int
  l : List Int
  f : Int
def rlO (a : Int) (p : Nat) (c d : Int) (l : List Int) (f : Int) : O := .own [.fz (.int a), .fz (.int p), .fz (.int c), .fz (.int d), .fz (.lst (l.map D.int)), .fz (.int f)]
def Rl.o (s : Rl) : O := rlO s.a s.p s.c s.d s.l s.f
theorem mixed_ex (x k : Int) : ∃ v : Int, F_law_mixed [.fz (.int x), .fz (.int k)] = some (.fz (.int v), [none, none]) := by
  have s1 : ∀ y : Int, s64 (y % 2147483647) = true := fun y => s64_of (by omega) (by omega)
  refine ⟨(((x * 48271 + k * 69621 + 97) % 2147483647 * ((x * 48271 + k * 69621 + 97) % 2147483647 + 2 * k + 1) + k * 16807 + 31) % 2147483629 * 40692 + (x * 48271 + k * 69621 + 97) % 2147483647) % 2147483587, ?_⟩
  simp [F_law_mixed, B_law_mixed, s1]
  rfl
theorem nat_of {v m : Int} (h : 0 < m) : ∃ k : Nat, v % m = (k : Int) ∧ (k : Int) < m :=
  ⟨(v % m).toNat, by have := Int.emod_nonneg v (show m ≠ 0 by omega); omega, by have := Int.emod_nonneg v (show m ≠ 0 by omega); have := Int.emod_lt_of_pos v h; omega⟩
theorem take (s : Rl) {m : Int} (hm : 0 < m) (hm2 : m < 2 ^ 62) : ∃ (k : Nat) (s' : Rl), (k : Int) < m ∧ F_law_take [s.o, .fz (.int m)] = some (.fz (.int k), [some s'.o, none]) := by
  obtain ⟨a, p, c, d, l, f⟩ := s
  have hm3 : m < 4611686018427387904 := by omega
  by_cases hA : a = 0 ∧ p < l.length
  · obtain ⟨rfl, hp⟩ := hA
    have hpi : ((p : Int) < (l.length : Int)) := by omega
    by_cases hB : (if l[p] < 0 then -l[p] else l[p]) < 1000000000000000000
    · obtain ⟨v, hv⟩ := mixed_ex l[p] (c + 1)
      obtain ⟨k, k1, k2⟩ := nat_of (v := v) hm
      refine ⟨k, ⟨0, p + 1, c + 1, d, l, f⟩, k2, ?_⟩
      simp [F_law_take, B_law_take, Rl.o, rlO, atI, ixN, hp, hpi, hB, hv, hm, k1]
      try rfl
    · generalize hx : (if l[p] < 0 then -l[p] else l[p]) = x at hB
      have hx0 : ¬ x = 0 := by omega
      obtain ⟨k, k1, k2⟩ := nat_of (v := x) hm
      refine ⟨k, ⟨x / m, p + 1, c + 1, d, l, 59⟩, k2, ?_⟩
      simp [F_law_take, B_law_take, Rl.o, rlO, atI, ixN, hp, hpi, hx, hB, hx0, hm, hm3, k1]
      try rfl
  · have hA' : a = 0 → ¬ ((p : Int) < (l.length : Int)) := fun e z => hA ⟨e, by omega⟩
    by_cases ha : a = 0
    · subst ha
      have hp := hA' rfl
      obtain ⟨v, hv⟩ := mixed_ex d (c + 1)
      obtain ⟨k, k1, k2⟩ := nat_of (v := v) hm
      refine ⟨k, ⟨0, p, c + 1, d, l, f⟩, k2, ?_⟩
      have hp' : ¬ p < l.length := by omega
      simp [F_law_take, B_law_take, Rl.o, rlO, atI, ixN, hp, hp', hv, hm, k1]
      try rfl
    · obtain ⟨k, k1, k2⟩ := nat_of (v := a) hm
      by_cases hf : 1 < f
      · refine ⟨k, ⟨a / m, p, c + 1, d, l, f - 1⟩, k2, ?_⟩
        simp [F_law_take, B_law_take, Rl.o, rlO, atI, ixN, ha, hm, hm3, k1, hf]
        try rfl
      · refine ⟨k, ⟨0, p, c + 1, d, l, f - 1⟩, k2, ?_⟩
        simp [F_law_take, B_law_take, Rl.o, rlO, atI, ixN, ha, hm, hm3, k1, hf]
        try rfl
theorem start_ex (ns : List Int) (h : ns.length ≤ 63) : ∃ s : Rl, F_law_start [.fz (.scr ns)] = some (s.o, [none]) := by
  obtain ⟨ε', h4, v, rfl⟩ := for_gen (b := bName 2) (body := L_law_start_0) (fun _ ε => ∃ v : Int, ε = [some (.fz (.scr ns)), some (.fz (.int v)), none]) (ds := ns.map D.int) 0
    (fun i hi ε hε => by
      obtain ⟨v, rfl⟩ := hε
      rw [List.getElem_map]
      obtain ⟨u, hu⟩ := mixed_ex (v + ns[i]'(by simpa using hi)) 5
      exact ⟨_, _, rfl, .inl (by simp [L_law_start_0, hu]), u, rfl⟩) _ ⟨ns.length, rfl⟩
  refine ⟨⟨0, 0, 0, v, ns, 0⟩, mk_rt (n := 1) (N := 3) (P := []) (body := B_law_start) (os := [.fz (.scr ns)]) (ε := [some (.fz (.scr ns)), some (.fz (.int v)), none]) rfl ?_⟩
  have hc : (ns.map D.int).take 63 = ns.map D.int := List.take_of_length_le (by simpa using h)
  have hc2 : ns.take 63 = ns := List.take_of_length_le h
  have hv : O.vals ((ns.map D.int).map O.fz) = ns.map D.int := vals_fz _
  have hv2 : O.vals (ns.map (O.fz ∘ D.int)) = ns.map D.int := vals_comp _ _
  have hr : room ns.length = true := room_of (by omega)
  have ct : cutD ns none (some 63) = ns := by rw [show (63 : Int) = ((63 : Nat) : Int) from rfl, cut_to, hc2]
  refine seq_nx (ε1 := [some (.fz (.scr ns)), some (.fz (.int ns.length)), none]) (by simp) (seq_nx (ε1 := [some (.fz (.scr ns)), some (.fz (.int v)), none]) ?_ ?_)
  · simp [h4, ct]
  · simp [Rl.o, rlO, ct]
theorem pick (s : Rl) (ds : List D) (h : 0 < ds.length) (h2 : ds.length ≤ 100000) : ∃ (d : D) (s' : Rl), d ∈ ds ∧ F_law_pick [s.o, .fz (.lst ds)] = some (.fz d, [some s'.o, none]) := by
  obtain ⟨k, b', h3, h4⟩ := take s (m := (ds.length : Int)) (by omega) (by omega)
  have h5 : k < ds.length := by omega
  refine ⟨ds[k], b', List.getElem_mem h5, ?_⟩
  simp [F_law_pick, B_law_pick, h4, atI_ofNat, h5]
  rfl
/-! a shape, a table -/
theorem shape_ex (s : Rl) : ∃ (m n : Nat) (s' : Rl), (0 < m ∧ m ≤ 6 ∧ 0 < n ∧ n ≤ 6 ∧ m + n ≤ 10) ∧ F_law_shape [s.o] = some (.fz (.tup [.int m, .int n]), [some s'.o]) := by
  obtain ⟨w, s1, hw, h1⟩ := pick s [.tup [.int 4, .int 6], .tup [.int 6, .int 4], .tup [.int 1, .int 6], .tup [.int 6, .int 1], .tup [.int 2, .int 6], .tup [.int 3, .int 6], .tup [.int 6, .int 2], .tup [.int 6, .int 3]] (by simp) (by simp)
  obtain ⟨k1, s2, b1, h2⟩ := take s1 (m := 3) (by decide) (by decide)
  obtain ⟨k2, s3, b2, h3⟩ := take s2 (m := 3) (by decide) (by decide)
  obtain ⟨k3, s4, b3, h4⟩ := take s3 (m := 5) (by decide) (by decide)
  obtain ⟨k4, s5, b4, h5⟩ := take s4 (m := 5) (by decide) (by decide)
  obtain ⟨d, s6, hd, h6⟩ := pick s5 [.tup [.int (1 + k1), .int (1 + k2)], .tup [.int (1 + k3), .int (1 + k4)], w, .tup [.int 3, .int 3]] (by simp) (by simp)
  obtain ⟨m, n, rfl, hb⟩ : ∃ m n : Nat, d = .tup [.int m, .int n] ∧ (0 < m ∧ m ≤ 6 ∧ 0 < n ∧ n ≤ 6 ∧ m + n ≤ 10) := by
    simp at hd hw
    rcases hd with rfl | rfl | rfl | rfl
    · exact ⟨k1 + 1, k2 + 1, by rw [show ((k1 + 1 : Nat) : Int) = 1 + k1 by omega, show ((k2 + 1 : Nat) : Int) = 1 + k2 by omega], by omega⟩
    · exact ⟨k3 + 1, k4 + 1, by rw [show ((k3 + 1 : Nat) : Int) = 1 + k3 by omega, show ((k4 + 1 : Nat) : Int) = 1 + k4 by omega], by omega⟩
    · rcases hw with rfl | rfl | rfl | rfl | rfl | rfl | rfl | rfl
      · exact ⟨4, 6, rfl, by omega⟩
      · exact ⟨6, 4, rfl, by omega⟩
      · exact ⟨1, 6, rfl, by omega⟩
      · exact ⟨6, 1, rfl, by omega⟩
      · exact ⟨2, 6, rfl, by omega⟩
      · exact ⟨3, 6, rfl, by omega⟩
      · exact ⟨6, 2, rfl, by omega⟩
      · exact ⟨6, 3, rfl, by omega⟩
    · exact ⟨3, 3, rfl, by omega⟩
  refine ⟨m, n, s6, hb, ?_⟩
  simp [F_law_shape, B_law_shape, h1, h2, h3, h4, h5, h6]
abbrev evt (s : Rl) (m n : Nat) (great : Bool) (rare : Nat) (rows : List (List (Option Int))) (x4 x7 x8 x9 : Option O) : Env' :=
  [some s.o, some (.fz (.int m)), some (.fz (.int n)), some (.own (rows.map fun r => O.fz (.tup (r.map cellD)))), x4, some (.fz (.bl great)), some (.fz (.int rare)), x7, x8, x9]
abbrev crow (r : List (Option Int)) : Option O := some (.own (r.map fun c => O.fz (cellD c)))
theorem price_ex (s : Rl) (m n : Nat) (great : Bool) (rare : Nat) (rows : List (List (Option Int))) (x4 x7 x8 : Option O) : ∃ (i : Int) (s' : Rl),
    sSet 9 (vIf (tVal (vP (gN 5))) (vCall F_law_pick [(vBw 0), (vFz (vLst [(vBin pSub (vCall F_law_take [(vBw 0), (vC (.int 2001))]) (vC (.int 1000))), (vC (.int 1000)), (vUn pNeg (vC (.int 1000)))]))]) (vCall F_law_pick [(vBw 0), (vFz (vLst [(vCall F_law_take [(vBw 0), (vC (.int 5))]), (vCall F_law_take [(vBw 0), (vC (.int 5))]), (vBin pSub (vCall F_law_take [(vBw 0), (vC (.int 5))]) (vC (.int 2)))]))]))
      (evt s m n great rare rows x4 x7 x8 none) = some (.nx, evt s' m n great rare rows x4 x7 x8 (some (.fz (.int i)))) := by
  cases great with
  | true =>
    obtain ⟨k1, s1, _, h1⟩ := take s (m := 2001) (by decide) (by decide)
    obtain ⟨d, s2, hd, h2⟩ := pick s1 [.int (k1 - 1000), .int 1000, .int (-1000)] (by simp) (by simp)
    obtain ⟨i, rfl⟩ : ∃ i : Int, d = .int i := by
      simp at hd; rcases hd with rfl | rfl | rfl <;> exact ⟨_, rfl⟩
    refine ⟨i, s2, ?_⟩
    simp [h1, h2]
  | false =>
    obtain ⟨k1, s1, _, h1⟩ := take s (m := 5) (by decide) (by decide)
    obtain ⟨k2, s2, _, h2⟩ := take s1 (m := 5) (by decide) (by decide)
    obtain ⟨k3, s3, _, h3⟩ := take s2 (m := 5) (by decide) (by decide)
    obtain ⟨d, s4, hd, h4⟩ := pick s3 [.int k1, .int k2, .int (k3 - 2)] (by simp) (by simp)
    obtain ⟨i, rfl⟩ : ∃ i : Int, d = .int i := by
      simp at hd; rcases hd with rfl | rfl | rfl <;> exact ⟨_, rfl⟩
    refine ⟨i, s4, ?_⟩
    simp [h1, h2, h3, h4]
theorem cell_ex (s : Rl) (m n : Nat) (great : Bool) (rare : Nat) (hr : 0 < rare) (hr2 : rare < 1000) (rows : List (List (Option Int))) (r : List (Option Int)) (hl : r.length ≤ 100) (x4 x8 : Option O) : ∃ (c : Option Int) (s' : Rl),
    L_law_table_0 (evt s m n great rare rows x4 (crow r) x8 none) = some (.nx, evt s' m n great rare rows x4 (crow (r ++ [c])) none none) := by
  obtain ⟨i, s1, h1⟩ := price_ex s m n great rare rows x4 (crow r) x8
  obtain ⟨k, s2, _, h2⟩ := take s1 (m := (rare : Int)) (by omega) (by omega)
  have hr : room r.length = true := room_of (by omega)
  refine ⟨if k = 1 then none else some i, s2, ?_⟩
  have e2 : sExpr (vApp 7 (vIf (tVal (vBin pEq (vCall F_law_take [(vBw 0), (vP (gN 6))]) (vC (.int 1)))) (vC .non) (vP (gN 9)))) (evt s1 m n great rare rows x4 (crow r) x8 (some (.fz (.int i)))) = some (.nx, evt s2 m n great rare rows x4 (crow (r ++ [if k = 1 then none else some i])) x8 (some (.fz (.int i)))) := by
    by_cases hk : k = 1
    · simp [h2, hr, hk, cellD]
    · have hk2 : ¬ (k : Int) = 1 := by omega
      simp [h2, hr, hk, hk2, cellD]
  unfold L_law_table_0
  rw [sWipe, seq_nx h1 e2]
  rfl
theorem row_ex (s : Rl) (m n : Nat) (hn : n ≤ 100) (great : Bool) (rare : Nat) (hr : 0 < rare) (hr2 : rare < 1000) (rows : List (List (Option Int))) (hrow : rows.length ≤ 100) (x4 : Option O) :
    ∃ (r : List (Option Int)) (s' : Rl), r.length = n ∧ L_law_table_1 (evt s m n great rare rows x4 none none none) = some (.nx, evt s' m n great rare (rows ++ [r]) none none none none) := by
  obtain ⟨ε', h4, r, b4, h5, rfl⟩ := for_gen (b := bName 8) (body := L_law_table_0) (fun k ε => ∃ r b', r.length = k ∧ ε = evt b' m n great rare rows x4 (crow r) none none) (ds := rng 0 n) 0
    (fun i hi ε hε => by
      obtain ⟨r, b', q1, rfl⟩ := hε
      have hi : i < n := by simpa [rng_length] using hi
      obtain ⟨c, b'', e⟩ := cell_ex b' m n great rare hr hr2 rows r (by omega) x4 (some (.fz (rng 0 n)[i]))
      exact ⟨_, _, rfl, .inl e, r ++ [c], b'', by simp; omega, rfl⟩) (evt s m n great rare rows x4 (crow []) none none) ⟨[], s, rfl, rfl⟩
  have h7 : small (n : Int) = true := small_of (by omega) (by omega)
  rw [rng_length, Nat.zero_add] at h5
  have h8 : room rows.length = true := room_of (by omega)
  have h9 : room r.length = true := room_of (by omega)
  refine ⟨r, b4, h5, ?_⟩
  have e1 : sSet 7 (vLst []) (evt s m n great rare rows x4 none none none) = some (.nx, evt s m n great rare rows x4 (crow []) none none) := by simp
  have e2 : sFor (itR1 (vP (gN 2))) (bName 8) L_law_table_0 (evt s m n great rare rows x4 (crow []) none none) = some (.nx, evt b4 m n great rare rows x4 (crow r) none none) := by
    simp [h7]; exact h4
  have e3 : sExpr (vApp 3 (vUn pTuple (vBw 7))) (evt b4 m n great rare rows x4 (crow r) none none) = some (.nx, evt b4 m n great rare (rows ++ [r]) x4 (crow r) none none) := by
    have hv : O.vals (r.map fun c => O.fz (cellD c)) = r.map cellD := vals_ints cellD _
    simp [h8, h9, hv]
  unfold L_law_table_1
  rw [sWipe, seq_nx e1 (seq_nx e2 e3)]
  rfl
theorem table_ex (s : Rl) (m n : Nat) (hm : m ≤ 100) (hn : n ≤ 100) : ∃ (t : List (List (Option Int))) (s' : Rl), Tab m n t ∧ F_law_table [s.o, .fz (.int m), .fz (.int n)] = some (.fz (tabD t), [some s'.o, none, none]) := by
  obtain ⟨g, s1, _, h1⟩ := take s (m := 4) (by decide) (by decide)
  obtain ⟨rr, s2, hrr, h2⟩ := pick s1 [.int 999, .int 999, .int 5, .int 2] (by simp) (by simp)
  obtain ⟨rare, rfl, r1, r2⟩ : ∃ rare : Nat, rr = .int rare ∧ 0 < rare ∧ rare < 1000 := by
    simp at hrr
    rcases hrr with rfl | rfl | rfl
    · exact ⟨999, rfl, by omega, by omega⟩
    · exact ⟨5, rfl, by omega, by omega⟩
    · exact ⟨2, rfl, by omega, by omega⟩
  obtain ⟨ε', h4, rows, b4, ⟨h5, h6⟩, rfl⟩ := for_gen (b := bName 4) (body := L_law_table_1) (fun k ε => ∃ rows b', (rows.length = k ∧ ∀ r ∈ rows, r.length = n) ∧ ε = evt b' m n (decide (g = 0)) rare rows none none none none) (ds := rng 0 m) 0
    (fun i hi ε hε => by
      obtain ⟨rows, b', ⟨q1, q2⟩, rfl⟩ := hε
      have hi : i < m := by simpa [rng_length] using hi
      obtain ⟨r, b'', e1, e2⟩ := row_ex b' m n hn (decide (g = 0)) rare r1 r2 rows (by omega) (some (.fz (rng 0 m)[i]))
      refine ⟨_, _, rfl, .inl e2, rows ++ [r], b'', ⟨by simp; omega, fun x hx => ?_⟩, rfl⟩
      rcases List.mem_append.1 hx with hx | hx
      · exact q2 x hx
      · rw [List.mem_singleton.1 hx]; exact e1) (evt s2 m n (decide (g = 0)) rare [] none none none none) ⟨[], s2, ⟨rfl, by simp⟩, rfl⟩
  have h7 : small (m : Int) = true := small_of (by omega) (by omega)
  rw [rng_length, Nat.zero_add] at h5
  have h8 : room rows.length = true := room_of (by omega)
  refine ⟨rows, b4, ⟨h5, h6⟩, mk_rt (n := 3) (N := 10) (P := [0]) (body := B_law_table) (os := [s.o, .fz (.int m), .fz (.int n)]) (ε := evt b4 m n (decide (g = 0)) rare rows none none none none) rfl ?_⟩
  refine seq_nx (ε1 := [some s2.o, some (.fz (.int m)), some (.fz (.int n)), none, none, some (.fz (.bl (decide (g = 0)))), some (.fz (.int rare)), none, none, none]) ?_ (seq_nx (ε1 := evt s2 m n (decide (g = 0)) rare [] none none none none) (by simp) (seq_nx (ε1 := evt b4 m n (decide (g = 0)) rare rows none none none none) ?_ ?_))
  · simp [h1, h2]
  · simp [h7]; exact h4
  · have hv : O.vals (rows.map fun r => O.fz (.tup (r.map cellD))) = rows.map fun r => D.tup (r.map cellD) := vals_ints (fun r : List (Option Int) => D.tup (r.map cellD)) _
    simp [h8, hv, tabD]
end
end K02


set_option Elab.async false
set_option linter.all false
set_option maxRecDepth 100000
namespace K02
noncomputable section
open PySem PySem.Spec PyProof.Rows L2 VS
/-! marks: one number for all places that hang together. W: the open ways, m: how many stores -/
theorem map_getD (g : Nat → Nat) (l : List Nat) {x : Nat} (h : x < l.length) : (l.map g).getD x 0 = g (l.getD x 0) := by
  simp [List.getD_eq_getElem?_getD, h]
def markStep (m : Nat) (mk : List Nat) (w : Nat × Nat) : List Nat := mk.map fun x => if x = mk.getD (m + w.2) 0 then mk.getD w.1 0 else x
def Closed (m : Nat) (W : List (Nat × Nat)) (S : Nat → Prop) : Prop := ∀ w ∈ W, (S w.1 ↔ S (m + w.2))
structure Mk (m N : Nat) (W U : List (Nat × Nat)) (mk : List Nat) : Prop where
  len : mk.length = N
  edge : ∀ w ∈ U, mk.getD w.1 0 = mk.getD (m + w.2) 0
  sound : ∀ S, Closed m W S → ∀ x y, x < N → y < N → mk.getD x 0 = mk.getD y 0 → (S x ↔ S y)
  lt : ∀ x ∈ mk, x < N
theorem Mk.start (m N : Nat) (W : List (Nat × Nat)) : Mk m N W [] (List.range N) where
  len := List.length_range
  edge := by simp
  sound := fun S _ x y hx hy e => by
    simp [List.getD_eq_getElem?_getD, hx, hy] at e
    rw [e]
  lt := fun x hx => by simpa using hx
theorem Mk.step {m N : Nat} {W U : List (Nat × Nat)} {mk : List Nat} (h : Mk m N W U mk) {w : Nat × Nat} (hw : w ∈ W) (hU : ∀ u ∈ U, u.1 < N ∧ m + u.2 < N) (h1 : w.1 < N) (h2 : m + w.2 < N) : Mk m N W (U ++ [w]) (markStep m mk w) where
  len := by rw [markStep, List.length_map, h.len]
  edge := fun u hu => by
    unfold markStep
    rcases List.mem_append.1 hu with hu | hu
    · obtain ⟨a, b⟩ := hU u hu
      rw [map_getD _ _ (by rw [h.len]; exact a), map_getD _ _ (by rw [h.len]; exact b), h.edge u hu]
    · have e : u = w := List.mem_singleton.1 hu
      subst e
      rw [map_getD _ _ (by rw [h.len]; exact h1), map_getD _ _ (by rw [h.len]; exact h2)]
      simp
  sound := fun S hS x y hx hy e => by
    unfold markStep at e
    rw [map_getD _ _ (by rw [h.len]; exact hx), map_getD _ _ (by rw [h.len]; exact hy)] at e
    have ab := hS w hw
    by_cases c1 : mk.getD x 0 = mk.getD (m + w.2) 0 <;> by_cases c2 : mk.getD y 0 = mk.getD (m + w.2) 0
    · exact h.sound S hS x y hx hy (by rw [c1, c2])
    · rw [if_pos c1, if_neg c2] at e
      rw [h.sound S hS x _ hx h2 c1, ← ab, h.sound S hS _ y h1 hy e]
    · rw [if_neg c1, if_pos c2] at e
      rw [h.sound S hS x _ hx h1 e, ab, ← h.sound S hS y _ hy h2 c2]
    · rw [if_neg c1, if_neg c2] at e
      exact h.sound S hS x y hx hy e
  lt := fun x hx => by
    unfold markStep at hx
    obtain ⟨y, hy, rfl⟩ := List.mem_map.1 hx
    split
    · have : w.1 < mk.length := by rw [h.len]; exact h1
      rw [List.getD_eq_getElem?_getD, List.getElem?_eq_getElem this]
      exact h.lt _ (List.getElem_mem this)
    · exact h.lt y hy
/-! a lot that grows -/
def add1 (lot : List Nat) (a b : Nat) : List Nat := if a ∈ lot ∧ b ∉ lot then lot ++ [b] else lot
def addW (m : Nat) (lot : List Nat) (w : Nat × Nat) : List Nat := add1 (add1 lot w.1 (m + w.2)) (m + w.2) w.1
def rnd (m : Nat) (W : List (Nat × Nat)) (lot : List Nat) : List Nat := W.foldl (addW m) lot
def lots (m : Nat) (W : List (Nat × Nat)) (x : Nat) : Nat → List Nat
  | 0 => [x]
  | k + 1 => rnd m W (lots m W x k)
theorem add1_pre (lot : List Nat) (a b : Nat) : ∃ r, add1 lot a b = lot ++ r := by
  unfold add1; split
  · exact ⟨[b], rfl⟩
  · exact ⟨[], by simp⟩
theorem addW_pre (m : Nat) (lot : List Nat) (w : Nat × Nat) : ∃ r, addW m lot w = lot ++ r := by
  obtain ⟨r1, e1⟩ := add1_pre lot w.1 (m + w.2)
  obtain ⟨r2, e2⟩ := add1_pre (add1 lot w.1 (m + w.2)) (m + w.2) w.1
  exact ⟨r1 ++ r2, by rw [addW, e2, e1, List.append_assoc]⟩
theorem rnd_pre (m : Nat) : ∀ (W : List (Nat × Nat)) (lot : List Nat), ∃ r, rnd m W lot = lot ++ r
  | [], lot => ⟨[], by simp [rnd]⟩
  | w :: W, lot => by
    obtain ⟨r1, e1⟩ := addW_pre m lot w
    obtain ⟨r2, e2⟩ := rnd_pre m W (addW m lot w)
    exact ⟨r1 ++ r2, by rw [rnd, List.foldl_cons]; rw [rnd] at e2; rw [e2, e1, List.append_assoc]⟩
theorem add1_hit {lot : List Nat} {a b : Nat} (h : a ∈ lot) : b ∈ add1 lot a b := by
  unfold add1
  by_cases hb : b ∈ lot
  · rw [if_neg fun z => z.2 hb]; exact hb
  · rw [if_pos ⟨h, hb⟩]; simp
theorem pre_mem {l l' : List Nat} {x : Nat} (h : ∃ r, l' = l ++ r) (hx : x ∈ l) : x ∈ l' := by
  obtain ⟨r, rfl⟩ := h; exact List.mem_append_left _ hx
theorem rnd_hit (m : Nat) : ∀ {W : List (Nat × Nat)} {lot : List Nat} {w : Nat × Nat}, w ∈ W → (w.1 ∈ lot → m + w.2 ∈ rnd m W lot) ∧ (m + w.2 ∈ lot → w.1 ∈ rnd m W lot)
  | v :: W, lot, w, hw => by
    have e : rnd m (v :: W) lot = rnd m W (addW m lot v) := rfl
    rw [e]
    rcases List.mem_cons.1 hw with rfl | hw
    · refine ⟨fun h => pre_mem (rnd_pre m W _) (pre_mem (add1_pre _ _ _) (add1_hit h)), fun h => pre_mem (rnd_pre m W _) ?_⟩
      exact add1_hit (pre_mem (add1_pre _ _ _) h)
    · obtain ⟨h1, h2⟩ := rnd_hit m (lot := addW m lot v) hw
      exact ⟨fun h => h1 (pre_mem (addW_pre m lot v) h), fun h => h2 (pre_mem (addW_pre m lot v) h)⟩
/-- what a lot is -/
structure Lot (N : Nat) (lot : List Nat) : Prop where
  nd : lot.Nodup
  lt : ∀ x ∈ lot, x < N
theorem Lot.add1 {N : Nat} {lot : List Nat} (h : Lot N lot) {a b : Nat} (hb : b < N) : Lot N (add1 lot a b) := by
  unfold K02.add1
  split
  · rename_i c
    refine ⟨List.nodup_append.2 ⟨h.nd, by simp, fun x hx y hy e => ?_⟩, fun x hx => ?_⟩
    · rw [List.mem_singleton.1 hy] at e; rw [e] at hx; exact c.2 hx
    · rcases List.mem_append.1 hx with hx | hx
      · exact h.lt x hx
      · rw [List.mem_singleton.1 hx]; exact hb
  · exact h
theorem Lot.rnd {m N : Nat} : ∀ {W : List (Nat × Nat)} {lot : List Nat}, (∀ w ∈ W, w.1 < N ∧ m + w.2 < N) → Lot N lot → Lot N (rnd m W lot)
  | [], _, _, h => h
  | w :: W, lot, hW, h => by
    have e : K02.rnd m (w :: W) lot = K02.rnd m W (addW m lot w) := rfl
    rw [e]
    obtain ⟨h1, h2⟩ := hW w (by simp)
    exact Lot.rnd (fun v hv => hW v (by simp [hv])) ((h.add1 h2).add1 h1)
theorem add1_sound {S : Nat → Prop} {lot : List Nat} {a b : Nat} (h : ∀ x ∈ lot, S x) (hs : S a → S b) : ∀ x ∈ add1 lot a b, S x := by
  unfold add1
  split
  · rename_i c
    intro x hx
    rcases List.mem_append.1 hx with hx | hx
    · exact h x hx
    · rw [List.mem_singleton.1 hx]; exact hs (h a c.1)
  · exact h
theorem rnd_sound {m : Nat} {S : Nat → Prop} : ∀ {W : List (Nat × Nat)} {lot : List Nat}, (∀ w ∈ W, (S w.1 ↔ S (m + w.2))) → (∀ x ∈ lot, S x) → ∀ x ∈ rnd m W lot, S x
  | [], _, _, h => h
  | w :: W, lot, hW, h => by
    have e : rnd m (w :: W) lot = rnd m W (addW m lot w) := rfl
    rw [e]
    exact rnd_sound (fun v hv => hW v (by simp [hv])) (add1_sound (add1_sound h (hW w (by simp)).1) (hW w (by simp)).2)
theorem rnd_closed {m : Nat} {lot : List Nat} : ∀ {W : List (Nat × Nat)}, Closed m W (· ∈ lot) → rnd m W lot = lot
  | [], _ => rfl
  | w :: W, h => by
    have e : rnd m (w :: W) lot = rnd m W (addW m lot w) := rfl
    have hw := h w (by simp)
    have e2 : addW m lot w = lot := by
      unfold addW
      have e3 : add1 lot w.1 (m + w.2) = lot := by
        unfold add1; rw [if_neg fun z => z.2 (hw.1 z.1)]
      rw [e3]
      unfold add1; rw [if_neg fun z => z.2 (hw.2 z.1)]
    rw [e, e2]
    exact rnd_closed fun v hv => h v (by simp [hv])
theorem lots_ok {m N : Nat} {W : List (Nat × Nat)} (hW : ∀ w ∈ W, w.1 < N ∧ m + w.2 < N) {x : Nat} (hx : x < N) : ∀ k, Lot N (lots m W x k) ∧ x ∈ lots m W x k
  | 0 => ⟨⟨by simp [lots], fun y hy => by simp [lots] at hy; rw [hy]; exact hx⟩, by simp [lots]⟩
  | k + 1 => ⟨(lots_ok hW hx k).1.rnd hW, pre_mem (rnd_pre m W _) (lots_ok hW hx k).2⟩
theorem Lot.card {N : Nat} {lot : List Nat} (h : Lot N lot) : lot.length ≤ N := by
  have h2 : lot ⊆ List.range N := fun x hx => by simpa using h.lt x hx
  have := h.nd.length_le_of_subset h2
  simpa using this
theorem lots_grow {m N : Nat} {W : List (Nat × Nat)} (hW : ∀ w ∈ W, w.1 < N ∧ m + w.2 < N) {x : Nat} (hx : x < N) : ∀ k, Closed m W (· ∈ lots m W x k) ∨ k + 1 ≤ (lots m W x k).length
  | 0 => .inr (by simp [lots])
  | k + 1 => by
    rcases lots_grow hW hx k with h | h
    · left
      have e : lots m W x (k + 1) = lots m W x k := rnd_closed h
      rw [e]; exact h
    · obtain ⟨r, e⟩ := rnd_pre m W (lots m W x k)
      have e' : lots m W x (k + 1) = lots m W x k ++ r := e
      cases r with
      | nil =>
        left
        rw [List.append_nil] at e e'
        intro w hw
        obtain ⟨a, b⟩ := rnd_hit m (lot := lots m W x k) hw
        rw [e] at a b
        rw [e']
        exact ⟨a, b⟩
      | cons y r => right; rw [e', List.length_append, List.length_cons]; omega
/-- behind twelve turns the lot is the places with the mark of the first -/
theorem lot_mem {m N : Nat} (hN : N ≤ 10) {W : List (Nat × Nat)} (hW : ∀ w ∈ W, w.1 < N ∧ m + w.2 < N) {mk : List Nat} (hm : Mk m N W W mk) {x y : Nat} (hx : x < N) (hy : y < N) : y ∈ lots m W x 12 ↔ mk.getD y 0 = mk.getD x 0 := by
  obtain ⟨l1, l2⟩ := lots_ok hW hx 12
  have cl : Closed m W (· ∈ lots m W x 12) := by
    rcases lots_grow hW hx 12 with h | h
    · exact h
    · have := l1.card; omega
  constructor
  · have : ∀ k, ∀ y ∈ lots m W x k, mk.getD y 0 = mk.getD x 0 := fun k => by
      induction k with
      | zero => intro y hy; simp [lots] at hy; rw [hy]
      | succ k ih => exact rnd_sound (S := fun y => mk.getD y 0 = mk.getD x 0) (fun w hw => by rw [hm.edge w hw]) ih
    exact this 12 y
  · intro e
    exact (hm.sound _ cl y x hy hx e).2 l2
end
end K02


set_option Elab.async false
set_option linter.all false
set_option maxRecDepth 100000
namespace K02
noncomputable section
open PySem PySem.Spec PyProof.Rows L2 VS
/-! sorting does not ask in which order things came -/
theorem srt_ext : ∀ {l m : List D}, l.Perm m → (∀ d ∈ l, plainP d.toP = true) → l.Pairwise (fun d e => leD d e = true) → m.Pairwise (fun d e => leD d e = true) → l = m
  | [], m, h, _, _, _ => by rw [List.nil_perm.1 h]
  | a :: l, [], h, _, _, _ => absurd h.length_eq (by simp)
  | a :: l, b :: m, h, hp, hl, hm => by
    obtain ⟨l1, l2⟩ := List.pairwise_cons.1 hl
    obtain ⟨m1, m2⟩ := List.pairwise_cons.1 hm
    have refl : ∀ d : D, leD d d = true := fun d => by have := leD_total d d; simpa using this
    have hab : leD a b = true := by
      rcases List.mem_cons.1 (h.mem_iff.2 (List.mem_cons_self (a := b))) with e | e
      · rw [e]; exact refl _
      · exact l1 b e
    have hba : leD b a = true := by
      rcases List.mem_cons.1 (h.mem_iff.1 (List.mem_cons_self (a := a))) with e | e
      · rw [e]; exact refl _
      · exact m1 a e
    have e : a = b := leD_anti (hp a (by simp)) (hp b (h.mem_iff.2 (by simp))) hab hba
    subst e
    rw [srt_ext ((List.perm_cons a).1 h) (fun d hd => hp d (by simp [hd])) l2 m2]
theorem sortD_of_perm {l m : List D} (h : l.Perm m) (hp : ∀ d ∈ l, plainP d.toP = true) : sortD l = sortD m :=
  srt_ext ((sortD_perm l).trans (h.trans (sortD_perm m).symm)) (fun d hd => hp d ((sortD_perm l).mem_iff.1 hd)) (sortD_sorted l) (sortD_sorted m)
theorem sortD_asc (l : List Nat) (h : l.Pairwise (· < ·)) : sortD (natsD l) = natsD l := by
  refine srt_ext (sortD_perm _) (fun d hd => ?_) (sortD_sorted _) ?_
  · obtain ⟨j, _, rfl⟩ := List.mem_map.1 ((sortD_perm _).mem_iff.1 hd)
    simp [D.toP, plainP]
  · unfold natsD
    refine List.pairwise_map.2 (h.imp fun {a b} hab => ?_)
    unfold leD
    rw [D.toP, D.toP, ltP_int]
    simp
    omega
theorem perm_of_mem {l m : List Nat} (hl : l.Nodup) (hm : m.Nodup) (h : ∀ x, x ∈ l ↔ x ∈ m) : l.Perm m := (List.perm_ext_iff_of_nodup hl hm).2 h
theorem sort_nats {l m : List Nat} (hl : l.Nodup) (hm : m.Pairwise (· < ·)) (h : ∀ x, x ∈ l ↔ x ∈ m) : sortD (natsD l) = natsD m := by
  rw [← sortD_asc m hm]
  refine sortD_of_perm ((perm_of_mem hl (hm.imp fun {a b} h => by omega) h).map _) fun d hd => ?_
  obtain ⟨j, _, rfl⟩ := List.mem_map.1 hd
  simp [D.toP, plainP]
/-! two rows as data -/
def sqD (p : List Nat × List Nat) : D := .tup [rowD p.1, rowD p.2]
theorem sqD_plain (p : List Nat × List Nat) : plainP (sqD p).toP = true := by
  have h1 := ints_plain (fun j : Nat => (j : Int)) p.1
  have h2 := ints_plain (fun j : Nat => (j : Int)) p.2
  simp [sqD, rowD, D.toP, D.toPs, toPs_nats, plainP, plainPs, h1, h2]
theorem sortOk_sq (l : List (List Nat × List Nat)) (h : l.length ≤ 1000000) : sortOk (l.map sqD) = true := by
  unfold sortOk
  rw [Bool.and_eq_true, Bool.and_eq_true]
  refine ⟨⟨List.all_eq_true.2 fun d hd => ?_, List.all_eq_true.2 fun d hd => List.all_eq_true.2 fun e he => ?_⟩, room_of (by simpa using h)⟩
  · obtain ⟨p, _, rfl⟩ := List.mem_map.1 hd
    have h0 := sqD_plain p
    have h1 := ints_depth (fun j : Nat => (j : Int)) p.1
    have h2 := ints_depth (fun j : Nat => (j : Int)) p.2
    rw [h0, Bool.true_and, decide_eq_true_eq]
    simp [sqD, rowD, D.toP, D.toPs, toPs_nats, PyData.depth, PyData.depthAll]
    omega
  · obtain ⟨p, _, rfl⟩ := List.mem_map.1 hd
    obtain ⟨q, _, rfl⟩ := List.mem_map.1 he
    have h1 := ints_com (fun j : Nat => (j : Int)) (fun j : Nat => (j : Int)) p.1 q.1
    have h2 := ints_com (fun j : Nat => (j : Int)) (fun j : Nat => (j : Int)) p.2 q.2
    simp [sqD, rowD, D.toP, D.toPs, toPs_nats, comP, comPs, h1, h2]
/-! places as data -/
def plD (m x : Nat) : D := .tup [.int (if x < m then (0 : Int) else 1), .int (if x < m then (x : Nat) else x - m : Nat)]
theorem plD_toP (m x : Nat) : (plD m x).toP = .tuple [.int (if x < m then (0 : Int) else 1), .int (if x < m then (x : Nat) else x - m : Nat)] := by
  simp [plD, D.toP, D.toPs]
theorem plD_eqv (m x y : Nat) : PyData.eqv (plD m y).toP (plD m x).toP = decide (x = y) := by
  rw [plD_toP, plD_toP]
  simp only [PyData.eqv, PyData.eqvAll]
  by_cases hx : x < m <;> by_cases hy : y < m
  · simp only [hx, hy, if_true, Bool.and_true, beq_self_eq_true, Bool.true_and]
    rw [Bool.eq_iff_iff, beq_iff_eq, decide_eq_true_iff]
    omega
  · simp only [hx, hy, if_true, if_false]
    rw [show ((1 : Int) == 0) = false from rfl, Bool.false_and, eq_comm, decide_eq_false_iff_not]
    omega
  · simp only [hx, hy, if_true, if_false]
    rw [show ((0 : Int) == 1) = false from rfl, Bool.false_and, eq_comm, decide_eq_false_iff_not]
    omega
  · simp only [hx, hy, if_false, Bool.and_true, beq_self_eq_true, Bool.true_and]
    rw [Bool.eq_iff_iff, beq_iff_eq, decide_eq_true_iff]
    omega
theorem pl_lay (m : Nat) : ∀ lot : List Nat, PyData.canLayAll0 (lot.map fun x => (plD m x).toP) = true
  | [] => by simp [PyData.canLayAll0]
  | x :: l => by
    rw [List.map_cons, plD_toP]
    simp [PyData.canLayAll0, PyData.canLay0, pl_lay m l]
theorem pl_depth (m : Nat) : ∀ lot : List Nat, PyData.depthAll (lot.map fun x => (plD m x).toP) ≤ 3
  | [] => by simp [PyData.depthAll]
  | x :: l => by
    have := pl_depth m l
    rw [List.map_cons, plD_toP]
    simp [PyData.depthAll, PyData.depth]
    omega
theorem in_lot (m x : Nat) (lot : List Nat) : inD (plD m x) (.lst (lot.map (plD m))) = some (decide (x ∈ lot)) := by
  have h1 : SeqAt.shaped (plD m x).toP = true := by
    rw [plD_toP]
    simp [SeqAt.shaped, PyData.canLay0, PyData.canLayAll0, PyData.depth, PyData.depthAll]
  have h2 : SeqAt.shaped (D.lst (lot.map (plD m))).toP = true := by
    have a := pl_lay m lot
    have b := pl_depth m lot
    rw [D.toP, toPs_map]
    simp [SeqAt.shaped, PyData.canLay0, PyData.depth, a]
    omega
  unfold inD
  simp only [h1, h2, Bool.and_self, if_true]
  rw [toPs_map, List.any_map]
  congr 1
  rw [Bool.eq_iff_iff, List.any_eq_true, decide_eq_true_iff]
  constructor
  · rintro ⟨y, hy, e⟩
    have e : PyData.eqv (plD m y).toP (plD m x).toP = true := e
    rw [plD_eqv, decide_eq_true_iff] at e
    rw [e]; exact hy
  · exact fun h => ⟨x, h, by show PyData.eqv (plD m x).toP (plD m x).toP = true; rw [plD_eqv]; simp⟩
end
end K02


set_option Elab.async false
set_option linter.all false
set_option maxRecDepth 100000
namespace K02
noncomputable section
open PySem PySem.Spec PyProof.Rows L2 VS
/-- the places with a mark -/
def G (mk : List Nat) (m n v : Nat) : List Nat × List Nat := ((List.range m).filter fun i => decide (mk.getD i 0 = v), (List.range n).filter fun j => decide (mk.getD (m + j) 0 = v))
theorem filt_asc (n : Nat) (P : Nat → Bool) : ((List.range n).filter P).Pairwise (· < ·) := List.pairwise_lt_range.filter P
theorem lot_left {m n : Nat} (hN : m + n ≤ 10) {W : List (Nat × Nat)} (hW : ∀ w ∈ W, w.1 < m + n ∧ m + w.2 < m + n) {mk : List Nat} (hm : Mk m (m + n) W W mk) {x : Nat} (hx : x < m + n) :
    sortD (natsD ((lots m W x 12).filter fun y => decide (y < m))) = natsD (G mk m n (mk.getD x 0)).1 := by
  obtain ⟨l1, l2⟩ := lots_ok hW hx 12
  refine sort_nats (l1.nd.filter _) (filt_asc m _) fun y => ?_
  unfold G
  rw [List.mem_filter, List.mem_filter, List.mem_range, decide_eq_true_iff, decide_eq_true_iff]
  constructor
  · rintro ⟨h1, h2⟩
    exact ⟨h2, (lot_mem hN hW hm hx (by omega)).1 h1⟩
  · rintro ⟨h1, h2⟩
    exact ⟨(lot_mem hN hW hm hx (by omega)).2 h2, h1⟩
theorem lot_right {m n : Nat} (hN : m + n ≤ 10) {W : List (Nat × Nat)} (hW : ∀ w ∈ W, w.1 < m + n ∧ m + w.2 < m + n) {mk : List Nat} (hm : Mk m (m + n) W W mk) {x : Nat} (hx : x < m + n) :
    sortD (natsD (((lots m W x 12).filter fun y => !decide (y < m)).map fun y => y - m)) = natsD (G mk m n (mk.getD x 0)).2 := by
  obtain ⟨l1, l2⟩ := lots_ok hW hx 12
  refine sort_nats ?_ (filt_asc n _) fun y => ?_
  · refine List.pairwise_map.2 ((l1.nd.filter _).imp_of_mem fun {a b} ha hb hab => ?_)
    have ha := (List.mem_filter.1 ha).2
    have hb := (List.mem_filter.1 hb).2
    simp at ha hb
    omega
  · unfold G
    rw [List.mem_map, List.mem_filter, List.mem_range, decide_eq_true_iff]
    constructor
    · rintro ⟨z, hz, rfl⟩
      obtain ⟨h1, h2⟩ := List.mem_filter.1 hz
      simp at h2
      have h3 := l1.lt z h1
      refine ⟨by omega, ?_⟩
      rw [show m + (z - m) = z by omega]
      exact (lot_mem hN hW hm hx h3).1 h1
    · rintro ⟨h1, h2⟩
      exact ⟨m + y, List.mem_filter.2 ⟨(lot_mem hN hW hm hx (by omega)).2 h2, by simp⟩, by omega⟩
/-- which marks have come, which places are done -/
structure Rp (mk : List Nat) (N k : Nat) (vs done : List Nat) : Prop where
  nd : vs.Nodup
  mem : ∀ v, v ∈ vs ↔ ∃ y, y < k ∧ mk.getD y 0 = v
  done : ∀ x, x < N → (x ∈ done ↔ mk.getD x 0 ∈ vs)
theorem Rp.old {mk : List Nat} {N k : Nat} {vs done : List Nat} (h : Rp mk N k vs done) (hk : k < N) (hd : k ∈ done) : Rp mk N (k + 1) vs done where
  nd := h.nd
  mem := fun v => by
    rw [h.mem]
    constructor
    · rintro ⟨y, h1, h2⟩; exact ⟨y, by omega, h2⟩
    · rintro ⟨y, h1, h2⟩
      by_cases e : y = k
      · have := (h.mem _).1 ((h.done k hk).1 hd)
        rw [e] at h2; rw [h2] at this; exact this
      · exact ⟨y, by omega, h2⟩
  done := h.done
theorem Rp.new {m N : Nat} (hN : N ≤ 10) {W : List (Nat × Nat)} (hW : ∀ w ∈ W, w.1 < N ∧ m + w.2 < N) {mk : List Nat} (hm : Mk m N W W mk) {k : Nat} {vs done : List Nat} (h : Rp mk N k vs done) (hk : k < N) (hd : k ∉ done) :
    Rp mk N (k + 1) (vs ++ [mk.getD k 0]) (done ++ lots m W k 12) where
  nd := List.nodup_append.2 ⟨h.nd, by simp, fun x hx y hy e => by
    rw [List.mem_singleton.1 hy] at e
    rw [e] at hx
    exact hd ((h.done k hk).2 hx)⟩
  mem := fun v => by
    rw [List.mem_append, h.mem, List.mem_singleton]
    constructor
    · rintro (⟨y, h1, h2⟩ | h1)
      · exact ⟨y, by omega, h2⟩
      · exact ⟨k, by omega, h1.symm⟩
    · rintro ⟨y, h1, h2⟩
      by_cases e : y = k
      · exact .inr (by rw [← h2, e])
      · exact .inl ⟨y, by omega, h2⟩
  done := fun x hx => by
    rw [List.mem_append, List.mem_append, h.done x hx, lot_mem hN hW hm hk hx, List.mem_singleton]
/-- the marks that there are, ascending -/
theorem usort_nats (mk : List Nat) : ∃ us : List Nat, usort (mk.map fun j : Nat => (j : Int)) = us.map (fun j : Nat => (j : Int)) ∧ us.Nodup ∧ ∀ v, v ∈ us ↔ v ∈ mk := by
  have key : ∀ l : List Int, (∀ i ∈ l, ∃ v : Nat, i = v ∧ v ∈ mk) → ∃ us : List Nat, l = us.map (fun j : Nat => (j : Int)) := by
    intro l
    induction l with
    | nil => intro _; exact ⟨[], rfl⟩
    | cons i l ih =>
      intro h
      obtain ⟨us, e⟩ := ih fun j hj => h j (by simp [hj])
      obtain ⟨v, e2, _⟩ := h i (by simp)
      exact ⟨v :: us, by rw [List.map_cons, e, e2]⟩
  obtain ⟨us, e⟩ := key (usort (mk.map fun j : Nat => (j : Int))) fun i hi => by
    rw [usort_mem] at hi
    obtain ⟨v, hv, rfl⟩ := List.mem_map.1 hi
    exact ⟨v, rfl, hv⟩
  refine ⟨us, e, ?_, fun v => ?_⟩
  · have := usort_asc (mk.map fun j : Nat => (j : Int))
    rw [e, List.pairwise_map] at this
    exact this.imp fun {a b} h z => by omega
  · have := usort_mem (v : Int) (mk.map fun j : Nat => (j : Int))
    rw [e, List.mem_map, List.mem_map] at this
    constructor
    · intro h
      obtain ⟨a, ha, e⟩ := this.1 ⟨v, h, rfl⟩
      have : a = v := by omega
      rw [← this]; exact ha
    · intro h
      obtain ⟨a, ha, e⟩ := this.2 ⟨v, h, rfl⟩
      have : a = v := by omega
      rw [← this]; exact ha
/-- all parts -/
def partsD (mk : List Nat) (m n : Nat) (us : List Nat) : D := .tup (sortD (us.map fun v => sqD (G mk m n v)))
theorem mem_getD (mk : List Nat) (v : Nat) : v ∈ mk ↔ ∃ y, y < mk.length ∧ mk.getD y 0 = v := by
  constructor
  · intro h
    obtain ⟨i, hi, e⟩ := List.getElem_of_mem h
    exact ⟨i, hi, by rw [List.getD_eq_getElem?_getD, List.getElem?_eq_getElem hi]; exact e⟩
  · rintro ⟨y, h1, h2⟩
    rw [List.getD_eq_getElem?_getD, List.getElem?_eq_getElem h1] at h2
    rw [← h2]; exact List.getElem_mem h1
theorem parts_same {mk : List Nat} {m n N : Nat} (hl : mk.length = N) {vs done us : List Nat} (h : Rp mk N N vs done) (hu : us.Nodup) (hus : ∀ v, v ∈ us ↔ v ∈ mk) : partsD mk m n vs = partsD mk m n us := by
  unfold partsD
  rw [sortD_of_perm ((perm_of_mem h.nd hu fun v => ?_).map _) fun d hd => ?_]
  · rw [h.mem, hus, mem_getD, hl]
  · obtain ⟨v, _, rfl⟩ := List.mem_map.1 hd
    exact sqD_plain _
end
end K02


set_option Elab.async false
set_option linter.all false
set_option maxRecDepth 100000
namespace K02
noncomputable section
open PySem PySem.Spec PyProof.Rows L2 VS
/-! ways -/
def wayD (p : Nat × Nat) : D := .tup [.int (p.1 : Nat), .int (p.2 : Nat)]
def openW (t : List (List (Option Int))) (m n : Nat) : List (Nat × Nat) := (List.range m).flatMap fun i => ((List.range n).filter fun j => (tget t i j).isSome).map fun j => (i, j)
theorem wlen {α : Type} (f : Nat → List α) (n : Nat) : ∀ m : Nat, (∀ i, (f i).length ≤ n) → ((List.range m).flatMap f).length ≤ m * n
  | 0, _ => by simp
  | m + 1, h => by
    have ih := wlen f n m h
    rw [List.range_succ, List.flatMap_append, List.length_append, Nat.succ_mul]
    have := h m
    have e : ([m].flatMap f).length = (f m).length := by simp
    omega
theorem ways_ok {t : List (List (Option Int))} {m n : Nat} (h : Tab m n t) (hm0 : 0 < m) (hm : m ≤ 100) (hn : n ≤ 100) : F_ways [.fz (tabD t)] = some (.fz (.tup ((openW t m n).map wayD)), [none]) := by
  have n1 : small (n : Int) = true := small_of (by omega) (by omega)
  have g : gRun2 [2, 3] [3] stNo (bName 2) tYes' (itR1 (vP (gN 1))) (bName 3) T_ways_0 E_ways_1 ((List.range m).map fun j : Nat => D.int (j : Nat)) [some (.fz (tabD t)), some (.fz (.int n)), none, none] =
      some (false, (List.range m).flatMap fun i => ((List.range n).filter fun j => (tget t i j).isSome).map fun j => wayD (i, j), [some (.fz (tabD t)), some (.fz (.int n)), none, none]) := by
    refine gr2_some (own := [2, 3]) (own1 := [3]) (b := bName 2) (b1 := bName 3) (c1 := T_ways_0) (it1 := itR1 (vP (gN 1))) (f := E_ways_1) (ε := [some (.fz (tabD t)), some (.fz (.int n)), none, none]) (l := List.range m) (fun j : Nat => D.int (j : Nat)) (fun j : Nat => D.int (j : Nat)) (fun _ => List.range n) (fun i j => (tget t i j).isSome) (fun i j => O.fz (wayD (i, j))) fun i hi => ⟨[some (.fz (tabD t)), some (.fz (.int n)), some (.fz (.int (i : Nat))), none], rfl, ?_, rfl, fun j hj => ⟨[some (.fz (tabD t)), some (.fz (.int n)), some (.fz (.int (i : Nat))), some (.fz (.int (j : Nat)))], rfl, ?_, fun ht => ⟨?_, rfl⟩, rfl⟩, rfl⟩
    · simp [n1, rng0]
    · have q := gIx_cell h (show i < m by simpa using hi) (show j < n by simpa using hj) (ε := [some (.fz (tabD t)), some (.fz (.int n)), some (.fz (.int (i : Nat))), some (.fz (.int (j : Nat)))]) (a := gN 0) (b := gN 2) (c := gN 3) rfl rfl rfl
      cases hc : tget t i j with
      | none => rw [hc] at q; simp [-gIx, T_ways_0, q, cellD]
      | some c => rw [hc] at q; simp [-gIx, T_ways_0, q, cellD]
    · simp [E_ways_1, wayD]
  have e : ((List.range m).flatMap fun i => ((List.range n).filter fun j => (tget t i j).isSome).map fun j => wayD (i, j)) = (openW t m n).map wayD := by
    unfold openW
    rw [List.map_flatMap]
    congr 1
    funext i
    rw [List.map_map]
    rfl
  rw [e] at g
  have hw : (openW t m n).length ≤ 10000 := by
    refine Nat.le_trans (wlen _ n m fun i => ?_) (Nat.mul_le_mul hm hn)
    rw [List.length_map]
    refine Nat.le_trans (List.length_filter_le _ _) ?_
    simp
  have hr : room (openW t m n).length = true := room_of (by omega)
  have ln := len_row h hm0 (ε := [some (.fz (tabD t)), none, none, none]) (a := gN 0) rfl
  have it := it_tab h (by omega) (ε := [some (.fz (tabD t)), some (.fz (.int n)), none, none]) (a := gN 0) rfl
  refine mk_rt (n := 1) (N := 4) (P := []) (body := B_ways) (os := [.fz (tabD t)]) (ε := [some (.fz (tabD t)), some (.fz (.int n)), none, none]) rfl ?_
  refine seq_nx (ε1 := [some (.fz (tabD t)), some (.fz (.int n)), none, none]) (by simp [-vPrP, ln]) ?_
  simp [-itR1, it, g, hr]
theorem openW_mem {t : List (List (Option Int))} {m n : Nat} {w : Nat × Nat} (h : w ∈ openW t m n) : w.1 < m ∧ w.2 < n := by
  unfold openW at h
  obtain ⟨i, hi, h⟩ := List.mem_flatMap.1 h
  obtain ⟨j, hj, rfl⟩ := List.mem_map.1 h
  exact ⟨by simpa using hi, by simpa using (List.mem_filter.1 hj).1⟩
theorem openW_len (t : List (List (Option Int))) {m n : Nat} (hm : m ≤ 100) (hn : n ≤ 100) : (openW t m n).length ≤ 10000 := by
  refine Nat.le_trans (wlen _ n m fun i => ?_) (Nat.mul_le_mul hm hn)
  rw [List.length_map]
  refine Nat.le_trans (List.length_filter_le _ _) ?_
  simp
theorem openW_succ (t : List (List (Option Int))) (k n : Nat) : openW t (k + 1) n = openW t k n ++ ((List.range n).filter fun j => (tget t k j).isSome).map fun j => (k, j) := by
  unfold openW
  rw [List.range_succ, List.flatMap_append]
  simp
abbrev waysO (l : List (Nat × Nat)) : O := .own (l.map fun w => O.fz (wayD w))
theorem law_open_ok {t : List (List (Option Int))} {m n : Nat} (h : Tab m n t) (hm0 : 0 < m) (hm : m ≤ 100) (hn : n ≤ 100) : F_law_open [.fz (tabD t)] = some (waysO (openW t m n), [none]) := by
  obtain ⟨ε', h4, rfl⟩ := for_gen (b := bName 2) (body := L_law_open_2) (fun k ε => ε = [some (.fz (tabD t)), some (waysO (openW t k n)), none, none]) (ds := (List.range m).map fun j : Nat => D.int (j : Nat)) 0
    (fun i hi ε hε => by
      subst hε
      have hi : i < m := by simpa using hi
      refine ⟨[some (.fz (tabD t)), some (waysO (openW t i n)), some (.fz (.int (i : Nat))), none], _, by simp, .inl ?_, rfl⟩
      have g : lcRun [3] (bName 3) T_law_open_0 E_law_open_1 ((List.range n).map fun j : Nat => D.int (j : Nat)) [some (.fz (tabD t)), some (waysO (openW t i n)), some (.fz (.int (i : Nat))), none] =
          some (((List.range n).filter fun j => (tget t i j).isSome).map (fun j => O.fz (wayD (i, j))), [some (.fz (tabD t)), some (waysO (openW t i n)), some (.fz (.int (i : Nat))), none]) := by
        refine lc_some (fun j : Nat => D.int (j : Nat)) (fun j => (tget t i j).isSome) (fun j => O.fz (wayD (i, j))) fun j hj => ?_
        have hj : j < n := by simpa using hj
        have q := gIx_cell h hi hj (ε := [some (.fz (tabD t)), some (waysO (openW t i n)), some (.fz (.int (i : Nat))), some (.fz (.int (j : Nat)))]) (a := gN 0) (b := gN 2) (c := gN 3) rfl rfl rfl
        refine ⟨[some (.fz (tabD t)), some (waysO (openW t i n)), some (.fz (.int (i : Nat))), some (.fz (.int (j : Nat)))], rfl, ?_, fun _ => by simp [E_law_open_1, wayD], rfl⟩
        cases hc : tget t i j with
        | none => rw [hc] at q; simp [-gIx, T_law_open_0, q, cellD]
        | some c => rw [hc] at q; simp [-gIx, T_law_open_0, q, cellD]
      have it := it_row h hm0 (by omega) (ε := [some (.fz (tabD t)), some (waysO (openW t i n)), some (.fz (.int (i : Nat))), none]) (a := gN 0) rfl
      have hr : room n = true := room_of (by omega)
      have l1 := openW_len t (m := i) (n := n) (by omega) hn
      have l2 : (((List.range n).filter fun j => (tget t i j).isSome)).length ≤ 100 := Nat.le_trans (List.length_filter_le _ _) (by simpa using hn)
      have hr2 : room ((openW t i n).length + ((List.range n).filter fun j => (tget t i j).isSome).length) = true := room_of (by omega)
      have v1 : O.vals ((openW t i n).map fun w => O.fz (wayD w)) = (openW t i n).map wayD := vals_ints _ _
      have v2 : O.vals (((List.range n).filter fun j => (tget t i j).isSome).map fun j => O.fz (wayD (i, j))) = ((List.range n).filter fun j => (tget t i j).isSome).map fun j => wayD (i, j) := vals_ints _ _
      have e2 := openW_succ t i n
      simp only [waysO] at g it
      simp [-itR1, -vPrP, L_law_open_2, it, g, hr, hr2, v1, v2, e2, List.map_append, List.map_map, Function.comp_def]) [some (.fz (tabD t)), some (waysO []), none, none] (by simp [openW])
  rw [List.length_map, List.length_range, Nat.zero_add] at h4
  have it := it_tab h (by omega) (ε := [some (.fz (tabD t)), some (waysO []), none, none]) (a := gN 0) rfl
  refine mk_rt (n := 1) (N := 4) (P := []) (body := B_law_open) (os := [.fz (tabD t)]) (ε := [some (.fz (tabD t)), none, none, none]) rfl ?_
  refine seq_nx (ε1 := [some (.fz (tabD t)), some (waysO []), none, none]) (by simp) (seq_nx (ε1 := [some (.fz (tabD t)), some (waysO (openW t m n)), none, none]) ?_ ?_)
  · rw [sFor, it]; exact h4
  · simp
end
end K02


set_option Elab.async false
set_option linter.all false
set_option maxRecDepth 100000
namespace K02
noncomputable section
open PySem PySem.Spec PyProof.Rows L2 VS
/-! turned tables, tables of parts -/
def trn (t : List (List (Option Int))) (n : Nat) : List (List (Option Int)) := (List.range n).map fun j => t.map fun r => r.getD j none
theorem trn_tab {t : List (List (Option Int))} {m n : Nat} (h : Tab m n t) : Tab n m (trn t n) := ⟨by simp [trn], fun r hr => by
  obtain ⟨j, _, rfl⟩ := List.mem_map.1 hr
  rw [List.length_map, h.len]⟩
theorem row_eta (r : List (Option Int)) : (List.range r.length).map (fun j => r.getD j none) = r := by
  refine List.ext_getElem (by simp) fun i h1 h2 => ?_
  simp [List.getD_eq_getElem?_getD, h2]
theorem trn_trn {t : List (List (Option Int))} {m n : Nat} (h : Tab m n t) : trn (trn t n) m = t := by
  refine List.ext_getElem (by simp [trn, h.len]) fun i h1 h2 => ?_
  have e := h.row t[i] (List.getElem_mem h2)
  simp only [trn, List.getElem_map, List.getElem_range, List.map_map]
  rw [← row_eta t[i], e]
  refine List.map_congr_left fun j _ => ?_
  simp [Function.comp, List.getD_eq_getElem?_getD, h2]
theorem row_ix {r : List (Option Int)} {j : Nat} (hj : j < r.length) {ε : Env'} {a b : Pl} (ha : a ε = some (.fz (.tup (r.map cellD)))) (hb : b ε = some (.fz (.int (j : Nat)))) : gIx a b ε = some (.fz (cellD (r.getD j none))) := by
  simp [ha, hb, atI_ofNat, hj, List.getD_eq_getElem?_getD]
theorem turned_ok {t : List (List (Option Int))} {m n : Nat} (h : Tab m n t) (hm0 : 0 < m) (hm : m ≤ 100) (hn : n ≤ 100) : F_turned [.fz (tabD t)] = some (.fz (tabD (trn t n)), [none]) := by
  have inner : ∀ j, j < n → gRun [2] stNo (bName 2) tYes' E_turned_0 (t.map fun r => D.tup (r.map cellD)) [some (.fz (tabD t)), some (.fz (.int (j : Nat))), none] =
      some (false, t.map (fun r => cellD (r.getD j none)), [some (.fz (tabD t)), some (.fz (.int (j : Nat))), none]) := fun j hj => by
    refine gr_all (own := [2]) (stop := stNo) (b := bName 2) (f := E_turned_0) (ε := [some (.fz (tabD t)), some (.fz (.int (j : Nat))), none]) (fun r : List (Option Int) => D.tup (r.map cellD)) (fun r => O.fz (cellD (r.getD j none))) (l := t) fun r hr => ?_
    have q := row_ix (r := r) (j := j) (by rw [h.row r hr]; exact hj) (ε := [some (.fz (tabD t)), some (.fz (.int (j : Nat))), some (.fz (.tup (r.map cellD)))]) (a := gN 2) (b := gN 1) rfl rfl
    exact ⟨[some (.fz (tabD t)), some (.fz (.int (j : Nat))), some (.fz (.tup (r.map cellD)))], rfl, by simp [-gIx, E_turned_0, q], rfl, rfl⟩
  have hrn : room n = true := room_of (by omega)
  have hrm : room t.length = true := room_of (by rw [h.len]; omega)
  have outer : gRun [1] stNo (bName 1) tYes' E_turned_1 ((List.range n).map fun k : Nat => D.int (k : Nat)) [some (.fz (tabD t)), none, none] =
      some (false, (List.range n).map (fun j => D.tup (t.map fun r => cellD (r.getD j none))), [some (.fz (tabD t)), none, none]) := by
    refine gr_all (own := [1]) (stop := stNo) (b := bName 1) (f := E_turned_1) (ε := [some (.fz (tabD t)), none, none]) (fun k : Nat => D.int (k : Nat)) (fun j => O.fz (.tup (t.map fun r => cellD (r.getD j none)))) (l := List.range n) fun j hj => ?_
    have y := inner j (by simpa using hj)
    refine ⟨[some (.fz (tabD t)), some (.fz (.int (j : Nat))), none], rfl, ?_, rfl, rfl⟩
    have e : itP (vP (gN 0)) [some (.fz (tabD t)), some (.fz (.int (j : Nat))), none] = some (t.map fun r => D.tup (r.map cellD), [some (.fz (tabD t)), some (.fz (.int (j : Nat))), none]) := rfl
    simp [-itP, E_turned_1, e, y, hrm]
  have it := it_row h hm0 (by omega) (ε := [some (.fz (tabD t)), none, none]) (a := gN 0) rfl
  refine mk_rt (n := 1) (N := 3) (P := []) (body := B_turned) (os := [.fz (tabD t)]) (ε := [some (.fz (tabD t)), none, none]) rfl ?_
  have e : tabD (trn t n) = .tup ((List.range n).map fun j => D.tup (t.map fun r => cellD (r.getD j none))) := by
    simp only [tabD, trn, List.map_map]
    congr 1
    refine List.map_congr_left fun j _ => ?_
    simp [Function.comp]
  rw [e]
  simp [-itR1, -vPrP, B_turned, it, outer, hrn]
def ptb (t : List (List (Option Int))) (is js : List Nat) : List (List (Option Int)) := is.map fun i => js.map fun j => tget t i j
theorem part_table_ok {t : List (List (Option Int))} {m n : Nat} (h : Tab m n t) (is js : List Nat) (hi : ∀ i ∈ is, i < m) (hj : ∀ j ∈ js, j < n) (hil : is.length ≤ 100) (hjl : js.length ≤ 100) :
    F_part_table [.fz (tabD t), .fz (rowD is), .fz (rowD js)] = some (.fz (tabD (ptb t is js)), [none, none, none]) := by
  have inner : ∀ i ∈ is, gRun [4] stNo (bName 4) tYes' E_part_table_0 (natsD js) [some (.fz (tabD t)), some (.fz (rowD is)), some (.fz (rowD js)), some (.fz (.int (i : Nat))), none] =
      some (false, js.map (fun j => cellD (tget t i j)), [some (.fz (tabD t)), some (.fz (rowD is)), some (.fz (rowD js)), some (.fz (.int (i : Nat))), none]) := fun i hii => by
    refine gr_all (own := [4]) (stop := stNo) (b := bName 4) (f := E_part_table_0) (ε := [some (.fz (tabD t)), some (.fz (rowD is)), some (.fz (rowD js)), some (.fz (.int (i : Nat))), none]) (fun j : Nat => D.int (j : Nat)) (fun j => O.fz (cellD (tget t i j))) (l := js) fun j hjj => ?_
    have q := gIx_cell h (hi i hii) (hj j hjj) (ε := [some (.fz (tabD t)), some (.fz (rowD is)), some (.fz (rowD js)), some (.fz (.int (i : Nat))), some (.fz (.int (j : Nat)))]) (a := gN 0) (b := gN 3) (c := gN 4) rfl rfl rfl
    exact ⟨[some (.fz (tabD t)), some (.fz (rowD is)), some (.fz (rowD js)), some (.fz (.int (i : Nat))), some (.fz (.int (j : Nat)))], rfl, by simp [-gIx, E_part_table_0, q], rfl, rfl⟩
  have r1 : room is.length = true := room_of (by omega)
  have r2 : room js.length = true := room_of (by omega)
  have s1 : seqOf (rowD is) = some (natsD is) := rfl
  have s2 : seqOf (rowD js) = some (natsD js) := rfl
  have outer : gRun [3] stNo (bName 3) tYes' E_part_table_1 (natsD is) [some (.fz (tabD t)), some (.fz (rowD is)), some (.fz (rowD js)), none, none] =
      some (false, is.map (fun i => D.tup (js.map fun j => cellD (tget t i j))), [some (.fz (tabD t)), some (.fz (rowD is)), some (.fz (rowD js)), none, none]) := by
    refine gr_all (own := [3]) (stop := stNo) (b := bName 3) (f := E_part_table_1) (ε := [some (.fz (tabD t)), some (.fz (rowD is)), some (.fz (rowD js)), none, none]) (fun j : Nat => D.int (j : Nat)) (fun i => O.fz (.tup (js.map fun j => cellD (tget t i j)))) (l := is) fun i hii => ?_
    have y := inner i hii
    refine ⟨[some (.fz (tabD t)), some (.fz (rowD is)), some (.fz (rowD js)), some (.fz (.int (i : Nat))), none], rfl, ?_, rfl, rfl⟩
    have e : itP (vP (gN 2)) [some (.fz (tabD t)), some (.fz (rowD is)), some (.fz (rowD js)), some (.fz (.int (i : Nat))), none] = some (natsD js, [some (.fz (tabD t)), some (.fz (rowD is)), some (.fz (rowD js)), some (.fz (.int (i : Nat))), none]) := rfl
    simp [-itP, E_part_table_1, e, y, r2]
  refine mk_rt (n := 3) (N := 5) (P := []) (body := B_part_table) (os := [.fz (tabD t), .fz (rowD is), .fz (rowD js)]) (ε := [some (.fz (tabD t)), some (.fz (rowD is)), some (.fz (rowD js)), none, none]) rfl ?_
  have e : tabD (ptb t is js) = .tup (is.map fun i => D.tup (js.map fun j => cellD (tget t i j))) := by
    simp only [tabD, ptb, List.map_map]
    congr 1
    refine List.map_congr_left fun i _ => ?_
    simp [Function.comp]
  have e2 : itP (vP (gN 1)) [some (.fz (tabD t)), some (.fz (rowD is)), some (.fz (rowD js)), none, none] = some (natsD is, [some (.fz (tabD t)), some (.fz (rowD is)), some (.fz (rowD js)), none, none]) := rfl
  rw [e]
  simp [-itP, B_part_table, e2, outer, r1]
theorem ptb_tab (t : List (List (Option Int))) (is js : List Nat) : Tab is.length js.length (ptb t is js) := ⟨by simp [ptb], fun r hr => by
  obtain ⟨i, _, rfl⟩ := List.mem_map.1 hr
  simp⟩
/-! marks -/
abbrev natsO (l : List Nat) : O := .own (l.map fun j => O.fz (.int (j : Nat)))
def marks (t : List (List (Option Int))) (m n : Nat) : List Nat := (openW t m n).foldl (markStep m) (List.range (m + n))
theorem foldl_mk {t : List (List (Option Int))} {m n : Nat} : ∀ (V U : List (Nat × Nat)) (mk : List Nat), (∀ w ∈ V, w ∈ openW t m n) → (∀ w ∈ U, w ∈ openW t m n) → Mk m (m + n) (openW t m n) U mk → Mk m (m + n) (openW t m n) (U ++ V) (V.foldl (markStep m) mk)
  | [], U, mk, _, _, h => by rw [List.append_nil]; exact h
  | w :: V, U, mk, hV, hU, h => by
    have hw := hV w (by simp)
    have b := openW_mem hw
    have h' := h.step hw (fun u hu => by have := openW_mem (hU u hu); omega) (by omega) (by omega)
    have := foldl_mk V (U ++ [w]) _ (fun v hv => hV v (by simp [hv])) (fun u hu => by
      rcases List.mem_append.1 hu with hu | hu
      · exact hU u hu
      · rw [List.mem_singleton.1 hu]; exact hw) h'
    rw [List.append_assoc] at this
    exact this
theorem marks_mk (t : List (List (Option Int))) (m n : Nat) : Mk m (m + n) (openW t m n) (openW t m n) (marks t m n) := by
  have := foldl_mk (t := t) (m := m) (n := n) (openW t m n) [] (List.range (m + n)) (fun w h => h) (by simp) (Mk.start _ _ _)
  rw [List.nil_append] at this
  exact this
theorem mstep_len (m : Nat) (mk : List Nat) (w : Nat × Nat) : (markStep m mk w).length = mk.length := by simp [markStep]
theorem mfold_len (m : Nat) : ∀ (V : List (Nat × Nat)) (mk : List Nat), (V.foldl (markStep m) mk).length = mk.length
  | [], _ => rfl
  | w :: V, mk => by rw [List.foldl_cons, mfold_len m V, mstep_len]
theorem nat_ix (l : List Nat) {k : Nat} (hk : k < l.length) : l[k] = l.getD k 0 := by simp [List.getD_eq_getElem?_getD, hk]
abbrev evm (t : List (List (Option Int))) (m : Nat) (mk : List Nat) (x3 x4 x5 x6 : Option O) : Env' := [some (.fz (tabD t)), some (.fz (.int (m : Nat))), some (natsO mk), x3, x4, x5, x6, none]
theorem mstep_ok {t : List (List (Option Int))} {m n : Nat} {mk : List Nat} (hl : mk.length = m + n) (hN : m + n ≤ 100) {w : Nat × Nat} (h1 : w.1 < m) (h2 : w.2 < n) :
    L_part_marks_1 (evm t m mk (some (.fz (.int (w.1 : Nat)))) (some (.fz (.int (w.2 : Nat)))) none none) = some (.nx, evm t m (markStep m mk w) none none none none) := by
  obtain ⟨i, j⟩ := w
  have b1 : i < mk.length := by have : i < m := h1; omega
  obtain ⟨k, hk⟩ : ∃ k, m + j = k := ⟨_, rfl⟩
  have b2 : k < mk.length := by have : j < n := h2; omega
  obtain ⟨A, hA⟩ : ∃ A, mk.getD i 0 = A := ⟨_, rfl⟩
  obtain ⟨B, hB⟩ : ∃ B, mk.getD k 0 = B := ⟨_, rfl⟩
  have qA : mk[i] = A := by rw [nat_ix mk b1, hA]
  have qB : mk[k] = B := by rw [nat_ix mk b2, hB]
  have eS : markStep m mk (i, j) = mk.map fun x => if x = B then A else x := by unfold markStep; simp only [hk, hA, hB]
  rw [eS]
  have c : ((m : Int) + (j : Int)) = (k : Int) := by omega
  have v : O.vals (mk.map fun j => O.fz (.int (j : Nat))) = natsD mk := vals_ints (fun j : Nat => D.int (j : Nat)) _
  have e1 : sSet 5 (vP (gIx (gN 2) (gN 3))) (evm t m mk (some (.fz (.int (i : Nat)))) (some (.fz (.int (j : Nat)))) none none) =
      some (.nx, evm t m mk (some (.fz (.int (i : Nat)))) (some (.fz (.int (j : Nat)))) (some (.fz (.int (A : Nat)))) none) := by
    simp [atI_ofNat, b1, qA]
  have ix : atI (natsD mk) (k : Int) = some (.int (B : Nat)) := by
    rw [atI_ofNat]; simp [natsD, b2, qB]
  have e2 : sSet 6 (vBin pIx (vBw 2) (vBin pAdd (vP (gN 1)) (vP (gN 4)))) (evm t m mk (some (.fz (.int (i : Nat)))) (some (.fz (.int (j : Nat)))) (some (.fz (.int (A : Nat)))) none) =
      some (.nx, evm t m mk (some (.fz (.int (i : Nat)))) (some (.fz (.int (j : Nat)))) (some (.fz (.int (A : Nat)))) (some (.fz (.int (B : Nat))))) := by
    have ix2 : atI (mk.map fun i : Nat => D.int (i : Nat)) (k : Int) = some (.int (B : Nat)) := ix
    simp [v, c, ix2]
    try rfl
  have g : lcRun [7] (bName 7) tYes' E_part_marks_0 (natsD mk) [some (.fz (tabD t)), some (.fz (.int (m : Nat))), some (.fz (.lst (natsD mk))), some (.fz (.int (i : Nat))), some (.fz (.int (j : Nat))), some (.fz (.int (A : Nat))), some (.fz (.int (B : Nat))), none] =
      some (mk.map (fun x => O.fz (.int ((if x = B then A else x : Nat) : Nat))), [some (.fz (tabD t)), some (.fz (.int (m : Nat))), some (.fz (.lst (natsD mk))), some (.fz (.int (i : Nat))), some (.fz (.int (j : Nat))), some (.fz (.int (A : Nat))), some (.fz (.int (B : Nat))), none]) := by
    refine lc_all (fun j : Nat => D.int (j : Nat)) (fun x => O.fz (.int ((if x = B then A else x : Nat) : Nat))) fun x _ => ?_
    refine ⟨_, rfl, ?_, rfl⟩
    by_cases hx : x = B
    · simp [E_part_marks_0, hx]
    · have hx2 : ¬ (x : Int) = B := by omega
      simp [E_part_marks_0, hx, hx2]
  have e3 : sSet 2 (vLc 8 [7] (itL (vRd 2)) (bName 7) tYes' E_part_marks_0) (evm t m mk (some (.fz (.int (i : Nat)))) (some (.fz (.int (j : Nat)))) (some (.fz (.int (A : Nat)))) (some (.fz (.int (B : Nat))))) =
      some (.nx, evm t m (mk.map fun x => if x = B then A else x) (some (.fz (.int (i : Nat)))) (some (.fz (.int (j : Nat)))) (some (.fz (.int (A : Nat)))) (some (.fz (.int (B : Nat))))) := by
    have hr : room mk.length = true := room_of (by omega)
    have e : (mk.map fun x => if x = B then A else x).map (fun j => O.fz (.int (j : Nat))) = mk.map (fun x => O.fz (.int ((if x = B then A else x : Nat) : Nat))) := by
      rw [List.map_map]; rfl
    simp only [evm, natsO, e]
    simp [-List.map_map, v, natsD_len, hr, g]
  unfold L_part_marks_1
  rw [sWipe, seq_nx e1 (seq_nx e2 e3)]
  rfl
theorem part_marks_ok {t : List (List (Option Int))} {m n : Nat} (h : Tab m n t) (hm0 : 0 < m) (hm : m ≤ 50) (hn : n ≤ 50) : F_part_marks [.fz (tabD t)] = some (natsO (marks t m n), [none]) := by
  have w := ways_ok h hm0 (by omega) (by omega)
  obtain ⟨ε', h4, rfl⟩ := for_gen (b := bTup [bName 3, bName 4]) (body := L_part_marks_1) (fun k ε => ε = evm t m (((openW t m n).take k).foldl (markStep m) (List.range (m + n))) none none none none) (ds := (openW t m n).map wayD) 0
    (fun i hi ε hε => by
      subst hε
      have hi : i < (openW t m n).length := by simpa using hi
      obtain ⟨b1, b2⟩ := openW_mem (List.getElem_mem hi)
      have e := mstep_ok (t := t) (m := m) (n := n) (mk := ((openW t m n).take i).foldl (markStep m) (List.range (m + n))) (by rw [mfold_len, List.length_range]) (by omega) b1 b2
      refine ⟨evm t m (((openW t m n).take i).foldl (markStep m) (List.range (m + n))) (some (.fz (.int ((openW t m n)[i].1 : Nat)))) (some (.fz (.int ((openW t m n)[i].2 : Nat)))) none none, _, by simp [wayD], .inl e, ?_⟩
      have e5 : ((openW t m n).take (i + 1)).foldl (markStep m) (List.range (m + n)) = markStep m (((openW t m n).take i).foldl (markStep m) (List.range (m + n))) (openW t m n)[i] := by
        rw [List.take_add_one, List.getElem?_eq_getElem hi, List.foldl_append]; rfl
      rw [Nat.zero_add, e5]) _ rfl
  rw [List.length_map, Nat.zero_add, List.take_of_length_le (Nat.le_refl _)] at h4
  have ln := len_row h hm0 (ε := [some (.fz (tabD t)), some (.fz (.int (m : Nat))), none, none, none, none, none, none]) (a := gN 0) rfl
  have lt := len_tab h
  obtain ⟨N, hN⟩ : ∃ N, m + n = N := ⟨_, rfl⟩
  have c : ((m : Int) + (n : Int)) = (N : Int) := by omega
  have sm : small (N : Int) = true := small_of (by omega) (by omega)
  have hr : room N = true := room_of (by omega)
  refine mk_rt (n := 1) (N := 8) (P := []) (body := B_part_marks) (os := [.fz (tabD t)]) (ε := [some (.fz (tabD t)), some (.fz (.int (m : Nat))), none, none, none, none, none, none]) rfl ?_
  refine seq_nx (ε1 := [some (.fz (tabD t)), some (.fz (.int (m : Nat))), none, none, none, none, none, none]) (by simp [-pLen, lt]) (seq_nx (ε1 := evm t m (List.range (m + n)) none none none none) ?_ (seq_nx (ε1 := evm t m (marks t m n) none none none none) ?_ ?_))
  · rw [hN]
    simp [-vPrP, ln, c, sm, hr, rng0, List.map_map, Function.comp_def]
  · rw [sFor]
    have e : itP (vCall F_ways [(vP (gN 0))]) (evm t m (List.range (m + n)) none none none none) = some ((openW t m n).map wayD, evm t m (List.range (m + n)) none none none none) := by simp [w]
    rw [e]; exact h4
  · simp
end
end K02


set_option Elab.async false
set_option linter.all false
set_option maxRecDepth 100000
namespace K02
noncomputable section
open PySem PySem.Spec PyProof.Rows L2 VS
abbrev sqO (l : List (List Nat × List Nat)) : O := .own (l.map fun p => O.fz (sqD p))
abbrev evq (t : List (List (Option Int))) (m : Nat) (mk : List Nat) (found : List (List Nat × List Nat)) (x4 x5 x6 : Option O) : Env' := [some (.fz (tabD t)), some (.fz (.int (m : Nat))), some (.fz (.lst (natsD mk))), some (sqO found), x4, x5, x6, none, none]
theorem dec_nat (a b : Nat) : decide (((a : Nat) : Int) = (b : Int)) = decide (a = b) := by
  by_cases h : a = b
  · simp [h]
  · have : ¬ (a : Int) = b := by omega
    simp [h, this]
theorem part_step {t : List (List (Option Int))} {m n : Nat} (h : Tab m n t) (hm0 : 0 < m) (hN : m + n ≤ 100) {mk : List Nat} (hl : mk.length = m + n) (v : Nat) (found : List (List Nat × List Nat)) (hf : found.length ≤ 1000) :
    L_parts_4 (evq t m mk found (some (.fz (.int (v : Nat)))) none none) = some (.nx, evq t m mk (found ++ [G mk m n v]) none none none) := by
  have g1 : gRun [7] stNo (bName 7) T_parts_0 E_parts_1 ((List.range m).map fun j : Nat => D.int (j : Nat)) (evq t m mk found (some (.fz (.int (v : Nat)))) none none) =
      some (false, ((List.range m).filter fun i => decide (mk.getD i 0 = v)).map (fun i : Nat => D.int (i : Nat)), evq t m mk found (some (.fz (.int (v : Nat)))) none none) := by
    refine gr_some (own := [7]) (stop := stNo) (b := bName 7) (c := T_parts_0) (f := E_parts_1) (ε := evq t m mk found (some (.fz (.int (v : Nat)))) none none) (l := List.range m) (fun j : Nat => D.int (j : Nat)) (fun i => decide (mk.getD i 0 = v)) (fun i => O.fz (.int (i : Nat))) fun i hi => ?_
    have hi : i < mk.length := by have : i < m := by simpa using hi
                                  omega
    obtain ⟨A, hA⟩ : ∃ A, mk.getD i 0 = A := ⟨_, rfl⟩
    have ix : atI (natsD mk) (i : Int) = some (.int (A : Nat)) := by
      rw [atI_ofNat, ← hA, ← nat_ix mk hi]; simp [natsD, hi]
    refine ⟨[some (.fz (tabD t)), some (.fz (.int (m : Nat))), some (.fz (.lst (natsD mk))), some (sqO found), some (.fz (.int (v : Nat))), none, none, some (.fz (.int (i : Nat))), none], rfl, ?_, fun _ => ⟨by simp [E_parts_1], rfl⟩, rfl⟩
    have d := dec_nat A v
    rw [hA]
    simp [T_parts_0, ix, d]
    try rfl
  have g2 : ∀ x5, gRun [8] stNo (bName 8) T_parts_2 E_parts_3 ((List.range n).map fun j : Nat => D.int (j : Nat)) (evq t m mk found (some (.fz (.int (v : Nat)))) x5 none) =
      some (false, ((List.range n).filter fun j => decide (mk.getD (m + j) 0 = v)).map (fun i : Nat => D.int (i : Nat)), evq t m mk found (some (.fz (.int (v : Nat)))) x5 none) := fun x5 => by
    refine gr_some (own := [8]) (stop := stNo) (b := bName 8) (c := T_parts_2) (f := E_parts_3) (ε := evq t m mk found (some (.fz (.int (v : Nat)))) x5 none) (l := List.range n) (fun j : Nat => D.int (j : Nat)) (fun j => decide (mk.getD (m + j) 0 = v)) (fun i => O.fz (.int (i : Nat))) fun j hj => ?_
    obtain ⟨k, hk⟩ : ∃ k, m + j = k := ⟨_, rfl⟩
    have hi : k < mk.length := by have : j < n := by simpa using hj
                                  omega
    have c : (m : Int) + (j : Int) = (k : Int) := by omega
    obtain ⟨A, hA⟩ : ∃ A, mk.getD k 0 = A := ⟨_, rfl⟩
    have ix : atI (natsD mk) (k : Int) = some (.int (A : Nat)) := by
      rw [atI_ofNat, ← hA, ← nat_ix mk hi]; simp [natsD, hi]
    refine ⟨[some (.fz (tabD t)), some (.fz (.int (m : Nat))), some (.fz (.lst (natsD mk))), some (sqO found), some (.fz (.int (v : Nat))), x5, none, none, some (.fz (.int (j : Nat)))], rfl, ?_, fun _ => ⟨by simp [E_parts_3], rfl⟩, rfl⟩
    have d := dec_nat A v
    rw [hk, hA]
    simp [T_parts_2, c, ix, d]
    try rfl
  have sm : small (m : Int) = true := small_of (by omega) (by omega)
  have l1 : ((List.range m).filter fun i => decide (mk.getD i 0 = v)).length ≤ m := by simpa using List.length_filter_le (fun i => decide (mk.getD i 0 = v)) (List.range m)
  have l2 : ((List.range n).filter fun j => decide (mk.getD (m + j) 0 = v)).length ≤ n := by simpa using List.length_filter_le (fun j => decide (mk.getD (m + j) 0 = v)) (List.range n)
  have r3 : room found.length = true := room_of (by omega)
  have eG : G mk m n v = ((List.range m).filter fun i => decide (mk.getD i 0 = v), (List.range n).filter fun j => decide (mk.getD (m + j) 0 = v)) := rfl
  generalize ((List.range m).filter fun i => decide (mk.getD i 0 = v)) = LL at *
  generalize ((List.range n).filter fun j => decide (mk.getD (m + j) 0 = v)) = RR at *
  have r1 : room LL.length = true := room_of (by omega)
  have r2 : room RR.length = true := room_of (by omega)
  have e1 : sSet 5 ((gx1 9 [7] (itR1 (vP (gN 1))) (bName 7) T_parts_0 E_parts_1) stNo false fTup) (evq t m mk found (some (.fz (.int (v : Nat)))) none none) = some (.nx, evq t m mk found (some (.fz (.int (v : Nat)))) (some (.fz (rowD LL))) none) := by
    simp [sm, rng0, g1, r1]
    rfl
  have it := it_row h hm0 (by omega) (ε := evq t m mk found (some (.fz (.int (v : Nat)))) (some (.fz (rowD LL))) none) (a := gN 0) rfl
  have g2' := g2 (some (.fz (rowD LL)))
  have e2 : sSet 6 ((gx1 9 [8] (itR1 (vPrP pLen (gIx (gN 0) (gC (.int 0))))) (bName 8) T_parts_2 E_parts_3) stNo false fTup) (evq t m mk found (some (.fz (.int (v : Nat)))) (some (.fz (rowD LL))) none) = some (.nx, evq t m mk found (some (.fz (.int (v : Nat)))) (some (.fz (rowD LL))) (some (.fz (rowD RR)))) := by
    simp [-itR1, -vPrP, it, g2', r2]
    rfl
  have e3 : sExpr (vApp 3 (vTup [(vP (gN 5)), (vP (gN 6))])) (evq t m mk found (some (.fz (.int (v : Nat)))) (some (.fz (rowD LL))) (some (.fz (rowD RR)))) = some (.nx, evq t m mk (found ++ [(LL, RR)]) (some (.fz (.int (v : Nat)))) (some (.fz (rowD LL))) (some (.fz (rowD RR)))) := by
    simp [r3, sqD]
  unfold L_parts_4
  rw [sWipe, seq_nx e1 (seq_nx e2 e3), eG]
  rfl
theorem parts_ok {t : List (List (Option Int))} {m n : Nat} (h : Tab m n t) (hm0 : 0 < m) (hm : m ≤ 25) (hn : n ≤ 25) :
    ∃ us : List Nat, us.Nodup ∧ (∀ v, v ∈ us ↔ v ∈ marks t m n) ∧ us.length ≤ 1000 ∧ F_parts [.fz (tabD t)] = some (.fz (partsD (marks t m n) m n us), [none]) := by
  obtain ⟨us, u1, u2, u3⟩ := usort_nats (marks t m n)
  have mk := marks_mk t m n
  have pm := part_marks_ok h hm0 (by omega) (by omega)
  have hul : us.length ≤ 50 := by
    have : us ⊆ List.range (m + n) := fun v hv => by have := mk.lt v ((u3 v).1 hv); simpa using this
    have := u2.length_le_of_subset this
    simp at this
    omega
  have hlen := mk.len
  generalize marks t m n = mks at *
  obtain ⟨ε', h4, rfl⟩ := for_gen (b := bName 4) (body := L_parts_4) (fun k ε => ε = evq t m mks ((us.take k).map (G mks m n)) none none none) (ds := us.map fun j : Nat => D.int (j : Nat)) 0
    (fun i hi ε hε => by
      subst hε
      have hi : i < us.length := by simpa using hi
      have e := part_step h hm0 (by omega) hlen us[i] ((us.take i).map (G mks m n)) (by rw [List.length_map]; have := List.length_take_le i us; omega)
      have e5 : (us.take i).map (G mks m n) ++ [G mks m n us[i]] = (us.take (i + 1)).map (G mks m n) := by
        rw [List.take_add_one, List.getElem?_eq_getElem hi, List.map_append]; rfl
      rw [e5] at e
      refine ⟨evq t m mks ((us.take i).map (G mks m n)) (some (.fz (.int (us[i] : Nat)))) none none, _, ?_, .inl e, by rw [Nat.zero_add]⟩
      rw [Nat.zero_add, List.getElem_map]; rfl) _ rfl
  rw [List.length_map, Nat.zero_add, List.take_of_length_le (Nat.le_refl _)] at h4
  refine ⟨us, u2, u3, by omega, mk_rt (n := 1) (N := 9) (P := []) (body := B_parts) (os := [.fz (tabD t)]) (ε := evq t m mks (us.map (G mks m n)) none none none) rfl ?_⟩
  have lt := len_tab h
  have v : O.vals (mks.map fun j => O.fz (.int (j : Nat))) = natsD mks := vals_ints (fun j : Nat => D.int (j : Nat)) _
  have io : intsOf (natsD mks) = some (mks.map fun j : Nat => (j : Int)) := by
    have e : natsD mks = (mks.map fun j : Nat => (j : Int)).map D.int := by rw [List.map_map]; rfl
    rw [e]; exact intsOf_map _
  have so := sortOk_sq (us.map (G mks m n)) (by rw [List.length_map]; omega)
  refine seq_nx (ε1 := [some (.fz (tabD t)), some (.fz (.int (m : Nat))), none, none, none, none, none, none, none]) (by simp [-pLen, lt]) (seq_nx (ε1 := [some (.fz (tabD t)), some (.fz (.int (m : Nat))), some (.fz (.lst (natsD mks))), none, none, none, none, none, none]) ?_ (seq_nx (ε1 := evq t m mks [] none none none) ?_ (seq_nx (ε1 := evq t m mks (us.map (G mks m n)) none none none) ?_ ?_)))
  · simp only [natsO] at pm
    simp [pm, v]
  · simp
  · have hl60 : (mks.map fun j : Nat => (j : Int)).length ≤ 60 := by rw [List.length_map]; omega
    have hv : O.vals ((usort (mks.map fun j : Nat => (j : Int))).map fun i => O.fz (.int i)) = us.map fun j : Nat => D.int (j : Nat) := by
      rw [u1, List.map_map]
      exact vals_ints (fun j : Nat => D.int (j : Nat)) _
    have e : itL (vFz (vPrim pSetS [(vP (gN 2))])) (evq t m mks [] none none none) = some (us.map fun j : Nat => D.int (j : Nat), evq t m mks [] none none none) := by
      have p : pSetS [.lst (natsD mks)] = some (.own ((usort (mks.map fun j : Nat => (j : Int))).map fun i => O.fz (.int i))) := by
        simp only [pSetS, seqOf_lst, io, hl60, if_true]
      simp [-pSetS, p, hv]
    rw [sFor, e]; exact h4
  · have v2 : O.vals ((us.map (G mks m n)).map fun p => O.fz (sqD p)) = (us.map (G mks m n)).map sqD := vals_ints _ _
    have rr : room us.length = true := room_of (by omega)
    have v3 : ∀ l : List D, O.vals (l.map O.fz) = l := vals_fz
    have sl : (sortD ((us.map (G mks m n)).map sqD)).length = us.length := by rw [(sortD_perm _).length_eq]; simp
    simp only [partsD]
    have e : (us.map fun v => sqD (G mks m n v)) = (us.map (G mks m n)).map sqD := by rw [List.map_map]; rfl
    rw [e]
    simp only [evq, sqO]
    generalize (us.map (G mks m n)) = gs at *
    simp [v2, so, v3, sl, rr]
end
end K02


set_option Elab.async false
set_option linter.all false
set_option maxRecDepth 100000
namespace K02
noncomputable section
open PySem PySem.Spec PyProof.Rows L2 VS
abbrev plO (m : Nat) (l : List Nat) : O := .own (l.map fun x => O.fz (plD m x))
abbrev plsD (m : Nat) (l : List Nat) : Option O := some (.fz (.lst (l.map (plD m))))
abbrev evt2 (t : List (List (Option Int))) (m : Nat) (places : List Nat) (x2 : Option O) (found : List (List Nat × List Nat)) (done : List Nat) (x5 x6 x7 x8 x9 x10 : Option O) : Env' := [some (.fz (tabD t)), plsD m places, x2, some (sqO found), plsD m done, x5, x6, x7, x8, x9, x10]
theorem vals_pl (m : Nat) (l : List Nat) : O.vals (l.map fun x => O.fz (plD m x)) = l.map (plD m) := vals_ints _ _
theorem addone_ok (t : List (List (Option Int))) (m : Nat) (places : List Nat) (x2 : Option O) (found : List (List Nat × List Nat)) (done lot : List Nat) (hl : lot.length ≤ 1000) (a b : Nat) (x6 x7 x8 : Option O) :
    L_law_parts_2 (evt2 t m places x2 found done (some (plO m lot)) x6 x7 x8 (some (.fz (plD m a))) (some (.fz (plD m b)))) = some (.nx, evt2 t m places x2 found done (some (plO m (add1 lot a b))) x6 x7 x8 none none) := by
  have i1 := in_lot m a lot
  have i2 := in_lot m b lot
  have hr : room lot.length = true := room_of (by omega)
  have v := vals_pl m lot
  unfold add1
  by_cases ha : a ∈ lot
  · by_cases hb : b ∈ lot
    · rw [if_neg fun z => z.2 hb]
      simp [L_law_parts_2, v, i1, i2, ha, hb]
    · rw [if_pos ⟨ha, hb⟩]
      simp [L_law_parts_2, v, i1, i2, ha, hb, hr]
  · rw [if_neg fun z => ha z.1]
    simp [L_law_parts_2, v, i1, ha]
theorem add1_len (lot : List Nat) (a b : Nat) : (add1 lot a b).length ≤ lot.length + 1 := by unfold add1; split <;> simp
theorem addW_ok (t : List (List (Option Int))) (m : Nat) (places : List Nat) (x2 : Option O) (found : List (List Nat × List Nat)) (done lot : List Nat) (hl : lot.length ≤ 900) (w : Nat × Nat) (hw : w.1 < m) (x6 : Option O) :
    L_law_parts_3 (evt2 t m places x2 found done (some (plO m lot)) x6 (some (.fz (.int (w.1 : Nat)))) (some (.fz (.int (w.2 : Nat)))) none none) = some (.nx, evt2 t m places x2 found done (some (plO m (addW m lot w))) x6 none none none none) := by
  obtain ⟨i, j⟩ := w
  have e1 : plD m i = .tup [.int 0, .int (i : Nat)] := by unfold plD; rw [if_pos hw, if_pos hw]
  have hj : ¬ m + j < m := by omega
  have e2 : plD m (m + j) = .tup [.int 1, .int (j : Nat)] := by unfold plD; rw [if_neg hj, if_neg hj, show m + j - m = j by omega]
  have q1 := addone_ok t m places x2 found done lot (by omega) i (m + j) x6 (some (.fz (.int (i : Nat)))) (some (.fz (.int (j : Nat))))
  have q2 := addone_ok t m places x2 found done (add1 lot i (m + j)) (by have := add1_len lot i (m + j); omega) (m + j) i x6 (some (.fz (.int (i : Nat)))) (some (.fz (.int (j : Nat))))
  rw [e1, e2] at q1 q2
  have it : itP (vTup [(vTup [(vTup [(vC (.int 0)), (vP (gN 7))]), (vTup [(vC (.int 1)), (vP (gN 8))])]), (vTup [(vTup [(vC (.int 1)), (vP (gN 8))]), (vTup [(vC (.int 0)), (vP (gN 7))])])]) (evt2 t m places x2 found done (some (plO m lot)) x6 (some (.fz (.int (i : Nat)))) (some (.fz (.int (j : Nat)))) none none) =
      some ([.tup [.tup [.int 0, .int (i : Nat)], .tup [.int 1, .int (j : Nat)]], .tup [.tup [.int 1, .int (j : Nat)], .tup [.int 0, .int (i : Nat)]]], evt2 t m places x2 found done (some (plO m lot)) x6 (some (.fz (.int (i : Nat)))) (some (.fz (.int (j : Nat)))) none none) := by simp
  unfold L_law_parts_3
  rw [sWipe, sFor, it]
  have b1 : bTup [(bName 9), (bName 10)] (.tup [.tup [.int 0, .int (i : Nat)], .tup [.int 1, .int (j : Nat)]]) (evt2 t m places x2 found done (some (plO m lot)) x6 (some (.fz (.int (i : Nat)))) (some (.fz (.int (j : Nat)))) none none) =
      some (evt2 t m places x2 found done (some (plO m lot)) x6 (some (.fz (.int (i : Nat)))) (some (.fz (.int (j : Nat)))) (some (.fz (.tup [.int 0, .int (i : Nat)]))) (some (.fz (.tup [.int 1, .int (j : Nat)])))) := by simp
  have b2 : bTup [(bName 9), (bName 10)] (.tup [.tup [.int 1, .int (j : Nat)], .tup [.int 0, .int (i : Nat)]]) (evt2 t m places x2 found done (some (plO m (add1 lot i (m + j)))) x6 (some (.fz (.int (i : Nat)))) (some (.fz (.int (j : Nat)))) none none) =
      some (evt2 t m places x2 found done (some (plO m (add1 lot i (m + j)))) x6 (some (.fz (.int (i : Nat)))) (some (.fz (.int (j : Nat)))) (some (.fz (.tup [.int 1, .int (j : Nat)]))) (some (.fz (.tup [.int 0, .int (i : Nat)])))) := by simp
  simp only [forRun, b1, q1, b2, q2]
  rfl
theorem rnd_ok {t : List (List (Option Int))} {m n : Nat} (h : Tab m n t) (hm0 : 0 < m) (hN : m + n ≤ 10) (places : List Nat) (x2 : Option O) (found : List (List Nat × List Nat)) (done lot : List Nat) (hl : Lot (m + n) lot) (x6 : Option O) :
    L_law_parts_4 (evt2 t m places x2 found done (some (plO m lot)) x6 none none none none) = some (.nx, evt2 t m places x2 found done (some (plO m (rnd m (openW t m n) lot))) none none none none none) := by
  have op := law_open_ok h hm0 (by omega) (by omega)
  have hW : ∀ w ∈ openW t m n, w.1 < m + n ∧ m + w.2 < m + n := fun w hw => by have := openW_mem hw; omega
  obtain ⟨ε', h4, rfl⟩ := for_gen (b := bTup [bName 7, bName 8]) (body := L_law_parts_3) (fun k ε => ε = evt2 t m places x2 found done (some (plO m (rnd m ((openW t m n).take k) lot))) x6 none none none none) (ds := (openW t m n).map wayD) 0
    (fun i hi ε hε => by
      subst hε
      have hi : i < (openW t m n).length := by simpa using hi
      obtain ⟨b1, b2⟩ := openW_mem (List.getElem_mem hi)
      have hl2 : Lot (m + n) (rnd m ((openW t m n).take i) lot) := hl.rnd fun w hw => hW w (List.mem_of_mem_take hw)
      have e := addW_ok t m places x2 found done (rnd m ((openW t m n).take i) lot) (by have := hl2.card; omega) (openW t m n)[i] b1 x6
      have e5 : rnd m ((openW t m n).take (i + 1)) lot = addW m (rnd m ((openW t m n).take i) lot) (openW t m n)[i] := by
        unfold rnd
        rw [List.take_add_one, List.getElem?_eq_getElem hi, List.foldl_append]; rfl
      refine ⟨evt2 t m places x2 found done (some (plO m (rnd m ((openW t m n).take i) lot))) x6 (some (.fz (.int ((openW t m n)[i].1 : Nat)))) (some (.fz (.int ((openW t m n)[i].2 : Nat)))) none none, _, by simp [wayD], .inl e, ?_⟩
      rw [Nat.zero_add, e5]) _ rfl
  rw [List.length_map, Nat.zero_add, List.take_of_length_le (Nat.le_refl _)] at h4
  have it : itL (vFz (vCall F_law_open [(vP (gN 0))])) (evt2 t m places x2 found done (some (plO m lot)) x6 none none none none) = some ((openW t m n).map wayD, evt2 t m places x2 found done (some (plO m lot)) x6 none none none none) := by
    have v : O.vals ((openW t m n).map fun w => O.fz (wayD w)) = (openW t m n).map wayD := vals_ints _ _
    simp only [waysO] at op
    simp [op, v]
  unfold L_law_parts_4
  have h4 : forRun (bTup [bName 7, bName 8]) L_law_parts_3 ((openW t m n).map wayD) (evt2 t m places x2 found done (some (plO m lot)) x6 none none none none) = _ := h4
  rw [sWipe, sFor, it]
  simp only [h4]
  rfl
theorem lots_run {t : List (List (Option Int))} {m n : Nat} (h : Tab m n t) (hm0 : 0 < m) (hN : m + n ≤ 10) (places : List Nat) (x2 : Option O) (found : List (List Nat × List Nat)) (done : List Nat) {x : Nat} (hx : x < m + n) :
    sFor (itR1 (vC (.int 12))) (bName 6) L_law_parts_4 (evt2 t m places x2 found done (some (plO m [x])) none none none none none) = some (.nx, evt2 t m places x2 found done (some (plO m (lots m (openW t m n) x 12))) none none none none none) := by
  have hW : ∀ w ∈ openW t m n, w.1 < m + n ∧ m + w.2 < m + n := fun w hw => by have := openW_mem hw; omega
  obtain ⟨ε', h4, rfl⟩ := for_gen (b := bName 6) (body := L_law_parts_4) (fun k ε => ε = evt2 t m places x2 found done (some (plO m (lots m (openW t m n) x k))) none none none none none) (ds := rng 0 12) 0
    (fun i hi ε hε => by
      subst hε
      rw [Nat.zero_add]
      have e := rnd_ok h hm0 hN places x2 found done (lots m (openW t m n) x i) (lots_ok hW hx i).1 (some (.fz (rng 0 12)[i]))
      exact ⟨_, _, rfl, .inl e, rfl⟩) _ rfl
  have s12 : small (12 : Int) = true := small_of (by omega) (by omega)
  have e : (rng 0 12).length = 12 := rfl
  rw [e] at h4
  simp [s12]
  exact h4
end
end K02


set_option Elab.async false
set_option linter.all false
set_option maxRecDepth 100000
namespace K02
noncomputable section
open PySem PySem.Spec PyProof.Rows L2 VS
theorem side_l (t : List (List (Option Int))) (m : Nat) (places : List Nat) (x2 : Option O) (found : List (List Nat × List Nat)) (done lot : List Nat) :
    lcRun [9] (bName 9) T_law_parts_5 E_law_parts_6 (lot.map (plD m)) (evt2 t m places x2 found done (plsD m lot) none none none none none) =
      some ((lot.filter fun y => decide (y < m)).map (fun y => O.fz (.int (y : Nat))), evt2 t m places x2 found done (plsD m lot) none none none none none) := by
  refine lc_some (plD m) (fun y => decide (y < m)) (fun y => O.fz (.int (y : Nat))) fun y _ => ?_
  refine ⟨evt2 t m places x2 found done (plsD m lot) none none none (some (.fz (plD m y))) none, rfl, ?_, fun hy => ?_, rfl⟩
  · by_cases hy : y < m
    · simp [T_law_parts_5, plD, hy]; rfl
    · simp [T_law_parts_5, plD, hy]; rfl
  · have hy : y < m := by simpa using hy
    simp [E_law_parts_6, plD, hy]; rfl
theorem side_r (t : List (List (Option Int))) (m : Nat) (places : List Nat) (x2 : Option O) (found : List (List Nat × List Nat)) (done lot : List Nat) :
    lcRun [9] (bName 9) T_law_parts_7 E_law_parts_8 (lot.map (plD m)) (evt2 t m places x2 found done (plsD m lot) none none none none none) =
      some ((lot.filter fun y => !decide (y < m)).map (fun y => O.fz (.int (y - m : Nat))), evt2 t m places x2 found done (plsD m lot) none none none none none) := by
  refine lc_some (plD m) (fun y => !decide (y < m)) (fun y => O.fz (.int (y - m : Nat))) fun y _ => ?_
  refine ⟨evt2 t m places x2 found done (plsD m lot) none none none (some (.fz (plD m y))) none, rfl, ?_, fun hy => ?_, rfl⟩
  · by_cases hy : y < m
    · simp [T_law_parts_7, plD, hy]; rfl
    · simp [T_law_parts_7, plD, hy]; rfl
  · have hy : ¬ y < m := by simpa using hy
    simp [E_law_parts_8, plD, hy]; rfl
theorem place_new {t : List (List (Option Int))} {m n : Nat} (h : Tab m n t) (hm0 : 0 < m) (hN : m + n ≤ 10) (places : List Nat) (found : List (List Nat × List Nat)) (hf : found.length ≤ 1000) (done : List Nat) (hd : done.length ≤ 10000) {x : Nat} (hx : x < m + n) (hn : x ∉ done) :
    L_law_parts_9 (evt2 t m places (some (.fz (plD m x))) found done none none none none none none) =
      some (.nx, evt2 t m places none (found ++ [G (marks t m n) m n ((marks t m n).getD x 0)]) (done ++ lots m (openW t m n) x 12) none none none none none none) := by
  have hW : ∀ w ∈ openW t m n, w.1 < m + n ∧ m + w.2 < m + n := fun w hw => by have := openW_mem hw; omega
  have mk := marks_mk t m n
  have q1 := lot_left hN hW mk hx
  have q2 := lot_right hN hW mk hx
  have lo := lots_ok hW hx 12
  have lc := lo.1.card
  have run := lots_run h hm0 hN places (some (.fz (plD m x))) found done hx
  generalize hLot : lots m (openW t m n) x 12 = lot at *
  have i1 := in_lot m x done
  have v := vals_pl m lot
  have r1 : room (done.length + lot.length) = true := room_of (by omega)
  have r2 : room found.length = true := room_of (by omega)
  have sl := side_l t m places (some (.fz (plD m x))) found (done ++ lot) lot
  have sr := side_r t m places (some (.fz (plD m x))) found (done ++ lot) lot
  have c : sIf (tVal (vBin pNotIn (vP (gN 2)) (vP (gN 4)))) (sSeq (sSet 5 (vLst [(vP (gN 2))])) (sSeq (sFor (itR1 (vC (.int 12))) (bName 6) L_law_parts_4) (sSeq (sSet 4 (vFz (vBin pAdd (vP (gN 4)) (vBw 5))))
      (sExpr (vApp 3 (vTup [(vUn pTuple (vPrim pSorted [(vLc 11 [9] (itL (vRd 5)) (bName 9) T_law_parts_5 E_law_parts_6)])), (vUn pTuple (vPrim pSorted [(vLc 11 [9] (itL (vRd 5)) (bName 9) T_law_parts_7 E_law_parts_8)]))])))))) sNx
      (evt2 t m places (some (.fz (plD m x))) found done none none none none none none) = (sSeq (sSet 5 (vLst [(vP (gN 2))])) (sSeq (sFor (itR1 (vC (.int 12))) (bName 6) L_law_parts_4) (sSeq (sSet 4 (vFz (vBin pAdd (vP (gN 4)) (vBw 5))))
      (sExpr (vApp 3 (vTup [(vUn pTuple (vPrim pSorted [(vLc 11 [9] (itL (vRd 5)) (bName 9) T_law_parts_5 E_law_parts_6)])), (vUn pTuple (vPrim pSorted [(vLc 11 [9] (itL (vRd 5)) (bName 9) T_law_parts_7 E_law_parts_8)]))])))))) (evt2 t m places (some (.fz (plD m x))) found done none none none none none none) := by
    rw [sIf]
    have e : tVal (vBin pNotIn (vP (gN 2)) (vP (gN 4))) (evt2 t m places (some (.fz (plD m x))) found done none none none none none none) = some (true, evt2 t m places (some (.fz (plD m x))) found done none none none none none none) := by
      simp [i1, hn]
    rw [e]
  have e1 : sSet 5 (vLst [(vP (gN 2))]) (evt2 t m places (some (.fz (plD m x))) found done none none none none none none) = some (.nx, evt2 t m places (some (.fz (plD m x))) found done (some (plO m [x])) none none none none none) := by simp
  have e3 : sSet 4 (vFz (vBin pAdd (vP (gN 4)) (vBw 5))) (evt2 t m places (some (.fz (plD m x))) found done (some (plO m lot)) none none none none none) = some (.nx, evt2 t m places (some (.fz (plD m x))) found (done ++ lot) (some (plO m lot)) none none none none none) := by
    have v3 : ∀ l : List D, O.vals (l.map O.fz) = l := vals_fz
    simp [v, r1, v3]
  have so1 : sortOk (natsD (lot.filter fun y => decide (y < m))) = true := sortOk_nats _ (by have := List.length_filter_le (fun y => decide (y < m)) lot; omega)
  have so2 : sortOk (natsD ((lot.filter fun y => !decide (y < m)).map fun y => y - m)) = true := sortOk_nats _ (by rw [List.length_map]; have := List.length_filter_le (fun y => !decide (y < m)) lot; omega)
  have lr : room lot.length = true := room_of (by omega)
  have e4 : sExpr (vApp 3 (vTup [(vUn pTuple (vPrim pSorted [(vLc 11 [9] (itL (vRd 5)) (bName 9) T_law_parts_5 E_law_parts_6)])), (vUn pTuple (vPrim pSorted [(vLc 11 [9] (itL (vRd 5)) (bName 9) T_law_parts_7 E_law_parts_8)]))])) (evt2 t m places (some (.fz (plD m x))) found (done ++ lot) (some (plO m lot)) none none none none none) =
      some (.nx, evt2 t m places (some (.fz (plD m x))) (found ++ [G (marks t m n) m n ((marks t m n).getD x 0)]) (done ++ lot) (plsD m lot) none none none none none) := by
    have w1 : O.vals ((lot.filter fun y => decide (y < m)).map fun y => O.fz (.int (y : Nat))) = natsD (lot.filter fun y => decide (y < m)) := vals_ints (fun y : Nat => D.int (y : Nat)) _
    have w2 : O.vals ((lot.filter fun y => !decide (y < m)).map fun y => O.fz (.int (y - m : Nat))) = natsD ((lot.filter fun y => !decide (y < m)).map fun y => y - m) := by
      unfold natsD; rw [List.map_map]; exact vals_ints (fun y : Nat => D.int (y - m : Nat)) _
    have v3 : ∀ l : List D, O.vals (l.map O.fz) = l := vals_fz
    have len1 := List.length_filter_le (fun y => decide (y < m)) lot
    have len2 := List.length_filter_le (fun y => !decide (y < m)) lot
    have eG : sqD (G (marks t m n) m n ((marks t m n).getD x 0)) = .tup [.tup (sortD (natsD (lot.filter fun y => decide (y < m)))), .tup (sortD (natsD ((lot.filter fun y => !decide (y < m)).map fun y => y - m)))] := by
      unfold sqD rowD; rw [q1, q2]
    have k1 : (sortD (natsD (lot.filter fun y => decide (y < m)))).length = (lot.filter fun y => decide (y < m)).length := by rw [(sortD_perm _).length_eq, natsD_len]
    have k2 : (sortD (natsD ((lot.filter fun y => !decide (y < m)).map fun y => y - m))).length = (lot.filter fun y => !decide (y < m)).length := by rw [(sortD_perm _).length_eq, natsD_len, List.length_map]
    have j1 : vUn pTuple (vPrim pSorted [(vLc 11 [9] (itL (vRd 5)) (bName 9) T_law_parts_5 E_law_parts_6)]) (evt2 t m places (some (.fz (plD m x))) found (done ++ lot) (some (plO m lot)) none none none none none) =
        some (.o (.fz (.tup (sortD (natsD (lot.filter fun y => decide (y < m)))))), evt2 t m places (some (.fz (plD m x))) found (done ++ lot) (plsD m lot) none none none none none) := by
      generalize (lot.filter fun y => decide (y < m)) = L1 at *
      have rr : room L1.length = true := room_of (by omega)
      simp [v, lr, sl, w1, so1, v3, k1, rr]
    have j2 : vUn pTuple (vPrim pSorted [(vLc 11 [9] (itL (vRd 5)) (bName 9) T_law_parts_7 E_law_parts_8)]) (evt2 t m places (some (.fz (plD m x))) found (done ++ lot) (plsD m lot) none none none none none) =
        some (.o (.fz (.tup (sortD (natsD ((lot.filter fun y => !decide (y < m)).map fun y => y - m))))), evt2 t m places (some (.fz (plD m x))) found (done ++ lot) (plsD m lot) none none none none none) := by
      generalize (lot.filter fun y => !decide (y < m)) = L2 at *
      have rr : room L2.length = true := room_of (by omega)
      simp [v, lr, sr, w2, so2, v3, k2, rr]
    have j3 : vTup [(vUn pTuple (vPrim pSorted [(vLc 11 [9] (itL (vRd 5)) (bName 9) T_law_parts_5 E_law_parts_6)])), (vUn pTuple (vPrim pSorted [(vLc 11 [9] (itL (vRd 5)) (bName 9) T_law_parts_7 E_law_parts_8)]))] (evt2 t m places (some (.fz (plD m x))) found (done ++ lot) (some (plO m lot)) none none none none none) =
        some (.o (.fz (sqD (G (marks t m n) m n ((marks t m n).getD x 0)))), evt2 t m places (some (.fz (plD m x))) found (done ++ lot) (plsD m lot) none none none none none) := by
      rw [eG]
      simp only [vTup, evs, j1, j2]
      simp
    generalize G (marks t m n) m n ((marks t m n).getD x 0) = g at *
    simp only [sExpr, vApp, j3]
    simp [r2]
  unfold L_law_parts_9
  rw [sWipe, sWipe, c, seq_nx e1 (seq_nx run (seq_nx e3 e4))]
  rfl
end
end K02


set_option Elab.async false
set_option linter.all false
set_option maxRecDepth 100000
namespace K02
noncomputable section
open PySem PySem.Spec PyProof.Rows L2 VS
theorem place_old (t : List (List (Option Int))) (m : Nat) (places : List Nat) (found : List (List Nat × List Nat)) (done : List Nat) {x : Nat} (hn : x ∈ done) :
    L_law_parts_9 (evt2 t m places (some (.fz (plD m x))) found done none none none none none none) = some (.nx, evt2 t m places none found done none none none none none none) := by
  have i1 := in_lot m x done
  simp [L_law_parts_9, i1, hn]
theorem places_eq (m n : Nat) : (List.range (m + n)).map (plD m) = ((List.range m).map fun i : Nat => D.tup [.int 0, .int (i : Nat)]) ++ (List.range n).map fun j : Nat => D.tup [.int 1, .int (j : Nat)] := by
  rw [List.range_add, List.map_append, List.map_map]
  congr 1
  · refine List.map_congr_left fun i hi => ?_
    have hi : i < m := by simpa using hi
    unfold plD; rw [if_pos hi, if_pos hi]
  · refine List.map_congr_left fun j _ => ?_
    have hj : ¬ m + j < m := by omega
    show plD m (m + j) = _
    unfold plD; rw [if_neg hj, if_neg hj, show m + j - m = j by omega]
theorem law_parts_ok {t : List (List (Option Int))} {m n : Nat} (h : Tab m n t) (hm0 : 0 < m) (hN : m + n ≤ 10) :
    ∃ vs done : List Nat, Rp (marks t m n) (m + n) (m + n) vs done ∧ F_law_parts [.fz (tabD t)] = some (.fz (partsD (marks t m n) m n vs), [none]) := by
  have hW : ∀ w ∈ openW t m n, w.1 < m + n ∧ m + w.2 < m + n := fun w hw => by have := openW_mem hw; omega
  have mk := marks_mk t m n
  obtain ⟨ε', h4, vs, done, ⟨hR, h5, h6⟩, rfl⟩ := for_gen (b := bName 2) (body := L_law_parts_9) (fun k ε => ∃ vs done : List Nat, (Rp (marks t m n) (m + n) k vs done ∧ vs.length ≤ k ∧ done.length ≤ 10 * k) ∧ ε = evt2 t m (List.range (m + n)) none (vs.map (G (marks t m n) m n)) done none none none none none none) (ds := (List.range (m + n)).map (plD m)) 0
    (fun k hk ε hε => by
      obtain ⟨vs, done, ⟨hR, h5, h6⟩, rfl⟩ := hε
      rw [Nat.zero_add] at hR h5 h6 ⊢
      have hk : k < m + n := by simpa using hk
      refine ⟨evt2 t m (List.range (m + n)) (some (.fz (plD m k))) (vs.map (G (marks t m n) m n)) done none none none none none none, ?_⟩
      by_cases hd : k ∈ done
      · exact ⟨_, by simp, .inl (place_old t m (List.range (m + n)) _ done hd), vs, done, ⟨hR.old hk hd, by omega, by omega⟩, rfl⟩
      · have e := place_new h hm0 hN (List.range (m + n)) (vs.map (G (marks t m n) m n)) (by rw [List.length_map]; omega) done (by omega) hk hd
        have lc := (lots_ok hW hk 12).1.card
        refine ⟨_, by simp, .inl e, vs ++ [(marks t m n).getD k 0], done ++ lots m (openW t m n) k 12, ⟨hR.new hN hW mk hk hd, by simp; omega, by rw [List.length_append]; omega⟩, ?_⟩
        rw [List.map_append]; rfl) (evt2 t m (List.range (m + n)) none [] [] none none none none none none) ⟨[], [], ⟨⟨by simp, by simp, by simp⟩, by simp, by simp⟩, rfl⟩
  rw [List.length_map, List.length_range, Nat.zero_add] at hR h5
  refine ⟨vs, done, hR, mk_rt (n := 1) (N := 11) (P := []) (body := B_law_parts) (os := [.fz (tabD t)]) (ε := evt2 t m (List.range (m + n)) none (vs.map (G (marks t m n) m n)) done none none none none none none) rfl ?_⟩
  have it1 := it_tab h (by omega) (ε := [some (.fz (tabD t)), none, none, some (sqO []), plsD m [], none, none, none, none, none, none]) (a := gN 0) rfl
  have it2 := it_row h hm0 (by omega) (ε := [some (.fz (tabD t)), none, none, some (sqO []), plsD m [], none, none, none, none, none, none]) (a := gN 0) rfl
  have g1 : lcRun [7] (bName 7) tYes' E_law_parts_0 ((List.range m).map fun j : Nat => D.int (j : Nat)) [some (.fz (tabD t)), none, none, some (sqO []), plsD m [], none, none, none, none, none, none] =
      some ((List.range m).map (fun i : Nat => O.fz (.tup [.int 0, .int (i : Nat)])), [some (.fz (tabD t)), none, none, some (sqO []), plsD m [], none, none, none, none, none, none]) :=
    lc_all (fun j : Nat => D.int (j : Nat)) (fun i => O.fz (.tup [.int 0, .int (i : Nat)])) fun i _ => ⟨_, rfl, by simp [E_law_parts_0], rfl⟩
  have g2 : lcRun [8] (bName 8) tYes' E_law_parts_1 ((List.range n).map fun j : Nat => D.int (j : Nat)) [some (.fz (tabD t)), none, none, some (sqO []), plsD m [], none, none, none, none, none, none] =
      some ((List.range n).map (fun i : Nat => O.fz (.tup [.int 1, .int (i : Nat)])), [some (.fz (tabD t)), none, none, some (sqO []), plsD m [], none, none, none, none, none, none]) :=
    lc_all (fun j : Nat => D.int (j : Nat)) (fun i => O.fz (.tup [.int 1, .int (i : Nat)])) fun i _ => ⟨_, rfl, by simp [E_law_parts_1], rfl⟩
  have w1 : O.vals ((List.range m).map fun i : Nat => O.fz (.tup [.int 0, .int (i : Nat)])) = (List.range m).map fun i : Nat => D.tup [.int 0, .int (i : Nat)] := vals_ints _ _
  have w2 : O.vals ((List.range n).map fun i : Nat => O.fz (.tup [.int 1, .int (i : Nat)])) = (List.range n).map fun i : Nat => D.tup [.int 1, .int (i : Nat)] := vals_ints _ _
  have v3 : ∀ l : List D, O.vals (l.map O.fz) = l := vals_fz
  have r1 : room m = true := room_of (by omega)
  have r2 : room n = true := room_of (by omega)
  have r3 : room (m + n) = true := room_of (by omega)
  refine seq_nx (ε1 := [some (.fz (tabD t)), none, none, some (sqO []), plsD m [], none, none, none, none, none, none]) (by simp) (seq_nx (ε1 := evt2 t m (List.range (m + n)) none [] [] none none none none none none) ?_ (seq_nx (ε1 := evt2 t m (List.range (m + n)) none (vs.map (G (marks t m n) m n)) done none none none none none none) ?_ ?_))
  · have j1 : vLc 11 [7] (itR1 (vPrim pLen [(vP (gN 0))])) (bName 7) tYes' E_law_parts_0 [some (.fz (tabD t)), none, none, some (sqO []), plsD m [], none, none, none, none, none, none] =
        some (.o (.own ((List.range m).map fun i : Nat => O.fz (.tup [.int 0, .int (i : Nat)]))), [some (.fz (tabD t)), none, none, some (sqO []), plsD m [], none, none, none, none, none, none]) := by
      simp [-itR1, it1, g1, r1]
    have j2 : vLc 11 [8] (itR1 (vPrP pLen (gIx (gN 0) (gC (.int 0))))) (bName 8) tYes' E_law_parts_1 [some (.fz (tabD t)), none, none, some (sqO []), plsD m [], none, none, none, none, none, none] =
        some (.o (.own ((List.range n).map fun i : Nat => O.fz (.tup [.int 1, .int (i : Nat)]))), [some (.fz (tabD t)), none, none, some (sqO []), plsD m [], none, none, none, none, none, none]) := by
      simp [-itR1, -vPrP, it2, g2, r2]
    have e := places_eq m n
    simp only [evt2, plsD, sqO, e, List.map_nil]
    simp only [sqO, plsD, List.map_nil] at j1 j2
    simp [-vLc, j1, j2, w1, w2, r3, v3]
  · have e : itL (vP (gN 1)) (evt2 t m (List.range (m + n)) none [] [] none none none none none none) = some ((List.range (m + n)).map (plD m), evt2 t m (List.range (m + n)) none [] [] none none none none none none) := by simp
    rw [sFor, e]; exact h4
  · have v2 : O.vals ((vs.map (G (marks t m n) m n)).map fun p => O.fz (sqD p)) = (vs.map (G (marks t m n) m n)).map sqD := vals_ints _ _
    have rr : room vs.length = true := room_of (by omega)
    have so := sortOk_sq (vs.map (G (marks t m n) m n)) (by rw [List.length_map]; omega)
    have sl : (sortD ((vs.map (G (marks t m n) m n)).map sqD)).length = vs.length := by rw [(sortD_perm _).length_eq]; simp
    simp only [partsD]
    have e : (vs.map fun v => sqD (G (marks t m n) m n v)) = (vs.map (G (marks t m n) m n)).map sqD := by rw [List.map_map]; rfl
    rw [e]
    simp only [evt2, sqO]
    generalize (vs.map (G (marks t m n) m n)) = gs at *
    simp [v2, so, v3, sl, rr]
end
end K02


set_option Elab.async false
set_option linter.all false
set_option maxRecDepth 100000
namespace K02
noncomputable section
open PySem PySem.Spec PyProof.Rows L2 VS
/-! the same -/
abbrev SameK (k : Nat) (d : D) : Prop := F_law_same k [.fz d, .fz d] = some (.fz (.bl true), [none, none])
theorem same_int (k : Nat) (i : Int) : SameK (k + 1) (.int i) := by
  simp [SameK, F_law_same, B_law_same]
  rfl
theorem same_tup (k : Nat) (l : List D) (hl : l.length ≤ 100000) (h : ∀ d ∈ l, SameK k d) : SameK (k + 1) (.tup l) := by
  obtain ⟨ε', h4, rfl⟩ := for_gen (b := bName 2) (body := L_law_same_0 (F_law_same k)) (fun _ ε => ε = [some (.fz (.tup l)), some (.fz (.tup l)), none]) (ds := (List.range l.length).map fun k : Nat => D.int k) 0
    (fun i hi ε hε => by
      subst hε
      have hi : i < l.length := by simpa using hi
      have q := h l[i] (List.getElem_mem hi)
      refine ⟨[some (.fz (.tup l)), some (.fz (.tup l)), some (.fz (.int i))], _, by simp, .inl ?_, rfl⟩
      simp [L_law_same_0, atI_ofNat, hi, q]) _ rfl
  have h5 : small (l.length : Int) = true := small_of (by omega) (by omega)
  refine mk_rt (n := 2) (N := 3) (P := []) (body := B_law_same (F_law_same k)) (os := [.fz (.tup l), .fz (.tup l)]) (ε := [some (.fz (.tup l)), some (.fz (.tup l)), none]) rfl ?_
  refine seq_nx (ε1 := [some (.fz (.tup l)), some (.fz (.tup l)), none]) (by simp) (seq_nx (ε1 := [some (.fz (.tup l)), some (.fz (.tup l)), none]) (by simp) (seq_nx (ε1 := [some (.fz (.tup l)), some (.fz (.tup l)), none]) (by simp) (seq_nx (ε1 := [some (.fz (.tup l)), some (.fz (.tup l)), none]) (by simp) (seq_nx (ε1 := [some (.fz (.tup l)), some (.fz (.tup l)), none]) (by simp) (seq_nx (ε1 := [some (.fz (.tup l)), some (.fz (.tup l)), none]) ?_ (by simp))))))
  simp [h5, rng0, h4]
theorem same_non (k : Nat) : SameK (k + 1) .non := by
  simp [SameK, F_law_same, B_law_same]
  try rfl
theorem same_bl (k : Nat) (b : Bool) : SameK (k + 1) (.bl b) := by
  cases b <;> (simp [SameK, F_law_same, B_law_same] <;> try rfl)
theorem same_tab {m n : Nat} {t : List (List (Option Int))} (h : Tab m n t) (hm : m ≤ 100) (hn : n ≤ 100) : SameK 4 (tabD t) := by
  refine same_tup _ _ (by rw [List.length_map, h.len]; omega) fun d hd => ?_
  obtain ⟨r, hr, rfl⟩ := List.mem_map.1 hd
  refine same_tup _ _ (by rw [List.length_map, h.row r hr]; omega) fun d hd => ?_
  obtain ⟨c, _, rfl⟩ := List.mem_map.1 hd
  cases c with
  | none => exact same_non 1
  | some i => exact same_int 1 i
theorem same_ways (l : List (Nat × Nat)) (hl : l.length ≤ 10000) : SameK 4 (.tup (l.map wayD)) := by
  refine same_tup _ _ (by rw [List.length_map]; omega) fun d hd => ?_
  obtain ⟨w, _, rfl⟩ := List.mem_map.1 hd
  refine same_tup _ _ (by simp) fun d hd => ?_
  simp at hd
  rcases hd with rfl | rfl <;> exact same_int 1 _
theorem same_parts (mk : List Nat) (m n : Nat) (hm : m ≤ 100) (hn : n ≤ 100) (us : List Nat) (hu : us.length ≤ 1000) : SameK 4 (partsD mk m n us) := by
  unfold partsD
  refine same_tup _ _ ?_ fun d hd => ?_
  · rw [(sortD_perm _).length_eq, List.length_map]; omega
  · obtain ⟨v, _, rfl⟩ := List.mem_map.1 ((sortD_perm _).mem_iff.1 hd)
    have row : ∀ l : List Nat, l.length ≤ 100 → SameK 2 (rowD l) := fun l hl => by
      refine same_tup _ _ (by rw [natsD_len]; omega) fun d hd => ?_
      obtain ⟨j, _, rfl⟩ := List.mem_map.1 hd
      exact same_int 0 _
    refine same_tup _ _ (by simp) fun d hd => ?_
    simp at hd
    have l1 := List.length_filter_le (fun i => decide (mk.getD i 0 = v)) (List.range m)
    have l2 := List.length_filter_le (fun j => decide (mk.getD (m + j) 0 = v)) (List.range n)
    rw [List.length_range] at l1 l2
    rcases hd with rfl | rfl
    · exact row _ (Nat.le_trans l1 hm)
    · exact row _ (Nat.le_trans l2 hn)
/-! some places -/
abbrev evs (s : Rl) (sm : D) (l found : List Nat) (x4 x5 : Option O) : Env' := [some s.o, some (.fz sm), some (.fz (.lst (natsD l))), some (natsO found), x4, x5]
theorem shuf_step (s : Rl) (sm : D) (l found : List Nat) (hl : 0 < l.length) (hl2 : l.length ≤ 1000) (hf : found.length ≤ 1000) (x4 : Option O) :
    ∃ (k : Nat) (hk : k < l.length) (s' : Rl), L_law_shuffled_0 (evs s sm l found x4 none) = some (.nx, evs s' sm (l.eraseIdx k) (found ++ [l[k]]) none none) := by
  obtain ⟨k, s1, h1, h2⟩ := take s (m := (l.length : Int)) (by omega) (by omega)
  have hk : k < l.length := by omega
  refine ⟨k, hk, s1, ?_⟩
  have hr : room found.length = true := room_of (by omega)
  have e1 : sSet 5 (vCall F_law_take [(vBw 0), (vPrim pLen [(vP (gN 2))])]) (evs s sm l found x4 none) = some (.nx, evs s1 sm l found x4 (some (.fz (.int (k : Nat))))) := by
    simp [natsD_len, h2]
  have e2 : sExpr (vApp 3 (vP (gIx (gN 2) (gN 5)))) (evs s1 sm l found x4 (some (.fz (.int (k : Nat))))) = some (.nx, evs s1 sm l (found ++ [l[k]]) x4 (some (.fz (.int (k : Nat))))) := by
    have ix : (natsD l)[k]? = some (.int (l[k] : Nat)) := by simp [natsD, hk]
    simp [atI_ofNat, natsD_len, hk, hr, ix]
    simp [natsD]
  have e3 : sSet 2 (vFz (vBin pAdd (vSl (vP (gN 2)) none (some (vP (gN 5)))) (vSl (vP (gN 2)) (some (vBin pAdd (vP (gN 5)) (vC (.int 1)))) none))) (evs s1 sm l (found ++ [l[k]]) x4 (some (.fz (.int (k : Nat))))) = some (.nx, evs s1 sm (l.eraseIdx k) (found ++ [l[k]]) x4 (some (.fz (.int (k : Nat))))) := by
    have c : ((k : Int) + 1) = ((k + 1 : Nat) : Int) := by omega
    have c1 := cut_to (natsD l) k
    have c2 := cut_from (natsD l) (k + 1)
    have v3 : ∀ l : List D, O.vals (l.map O.fz) = l := vals_fz
    have e : natsD (l.eraseIdx k) = (natsD l).take k ++ (natsD l).drop (k + 1) := by
      unfold natsD
      rw [List.eraseIdx_eq_take_drop_succ, List.map_append, List.map_take, List.map_drop]
    have hl3 : (natsD l).length = l.length := natsD_len l
    have rr : room (((natsD l).take k).length + ((natsD l).drop (k + 1)).length) = true := room_of (by rw [List.length_take, List.length_drop]; omega)
    simp only [evs, e]
    generalize natsD l = L at *
    rw [← c] at c2
    simp [-List.length_take, -List.length_drop, -List.map_take, -List.map_drop, c1, c2, v3, rr]
  unfold L_law_shuffled_0
  rw [sWipe, seq_nx e1 (seq_nx e2 e3)]
  rfl
theorem shuf_ex (s : Rl) (m : Nat) (hm : m ≤ 1000) : ∃ (l : List Nat) (s' : Rl), l.length = m ∧ (∀ j ∈ l, j < m) ∧ F_law_shuffled [s.o, .fz (.lst (natsD (List.range m)))] = some (natsO l, [some s'.o, none]) := by
  obtain ⟨ε', h4, left, l, s', ⟨h5, h6, h7, h8⟩, rfl⟩ := for_gen (b := bName 4) (body := L_law_shuffled_0) (fun k ε => ∃ (left l : List Nat) (s' : Rl), (left.length + k = m ∧ l.length = k ∧ (∀ j ∈ left, j < m) ∧ ∀ j ∈ l, j < m) ∧ ε = evs s' (.lst (natsD (List.range m))) left l none none) (ds := rng 0 m) 0
    (fun i hi ε hε => by
      obtain ⟨left, l, s', ⟨q1, q2, q3, q4⟩, rfl⟩ := hε
      have hi : i < m := by simpa [rng_length] using hi
      obtain ⟨k, hk, s2, e⟩ := shuf_step s' (.lst (natsD (List.range m))) left l (by omega) (by omega) (by omega) (some (.fz (rng 0 m)[i]))
      refine ⟨_, _, rfl, .inl e, left.eraseIdx k, l ++ [left[k]], s2, ⟨?_, by simp; omega, fun j hj => q3 j (List.mem_of_mem_eraseIdx hj), fun j hj => ?_⟩, rfl⟩
      · rw [List.length_eraseIdx, if_pos hk]; omega
      · rcases List.mem_append.1 hj with hj | hj
        · exact q4 j hj
        · rw [List.mem_singleton.1 hj]; exact q3 _ (List.getElem_mem hk)) (evs s (.lst (natsD (List.range m))) (List.range m) [] none none) ⟨List.range m, [], s, ⟨by simp, rfl, fun j hj => by simpa using hj, by simp⟩, rfl⟩
  rw [rng_length, Nat.zero_add] at h5 h6
  have sm : small (m : Int) = true := small_of (by omega) (by omega)
  have rm : room m = true := room_of (by omega)
  have v3 : ∀ l : List D, O.vals (l.map O.fz) = l := vals_fz
  refine ⟨l, s', h6, h8, mk_rt (n := 2) (N := 6) (P := [0]) (body := B_law_shuffled) (os := [s.o, .fz (.lst (natsD (List.range m)))]) (ε := [some s'.o, some (.fz (.lst (natsD (List.range m)))), some (.fz (.lst (natsD left))), none, none, none]) rfl ?_⟩
  refine seq_nx (ε1 := [some s.o, some (.fz (.lst (natsD (List.range m)))), some (.fz (.lst (natsD (List.range m)))), none, none, none]) ?_ (seq_nx (ε1 := evs s (.lst (natsD (List.range m))) (List.range m) [] none none) (by simp) (seq_nx (ε1 := evs s' (.lst (natsD (List.range m))) left l none none) ?_ ?_))
  · have hl : (natsD (List.range m)).length = m := by rw [natsD_len, List.length_range]
    generalize natsD (List.range m) = L at *
    simp [v3, hl, rm]
  · have hl : (natsD (List.range m)).length = m := by rw [natsD_len, List.length_range]
    generalize natsD (List.range m) = L at *
    simp [hl, sm]
    exact h4
  · simp
/-- some places, ascending -/
theorem side_ex (s : Rl) (m : Nat) (hm0 : 0 < m) (hm : m ≤ 100) : ∃ (l is : List Nat) (k : Nat) (s1 s' : Rl), is.length ≤ 100 ∧ (∀ i ∈ is, i < m) ∧ F_law_shuffled [s.o, .fz (.lst (natsD (List.range m)))] = some (natsO l, [some s1.o, none]) ∧
    F_law_take [s1.o, .fz (.int m)] = some (.fz (.int k), [some s'.o, none]) ∧ sortOk (natsD (l.take (k + 1))) = true ∧ sortD (natsD (l.take (k + 1))) = natsD is := by
  obtain ⟨l, s1, h1, h2, h3⟩ := shuf_ex s m (by omega)
  obtain ⟨k, s2, h4, h5⟩ := take s1 (m := (m : Int)) (by omega) (by omega)
  obtain ⟨is, e1, e2, e3⟩ := sortD_form (fun j : Nat => D.int (j : Nat)) (l.take (k + 1))
  have len : (l.take (k + 1)).length ≤ 100 := by rw [List.length_take]; omega
  exact ⟨l, is, k, s1, s2, by omega, fun i hi => h2 i (List.mem_of_mem_take (e3 i hi)), h3, h5, sortOk_nats _ (by omega), e1⟩
end
end K02


set_option Elab.async false
set_option linter.all false
set_option maxRecDepth 100000
namespace K02
noncomputable section
open PySem PySem.Spec PyProof.Rows L2 VS
abbrev evk (s : Rl) (t : List (List (Option Int))) (x2 x3 x4 x5 : Option O) : Env' := [some s.o, some (.fz (tabD t)), x2, x3, x4, x5, none, none, none]
theorem set4_ex {t : List (List (Option Int))} {m n : Nat} (h : Tab m n t) (hm0 : 0 < m) (hm : m ≤ 10) (s : Rl) (x2 x3 : Option O) : ∃ (is : List Nat) (s' : Rl), is.length ≤ 100 ∧ (∀ i ∈ is, i < m) ∧
    sSet 4 (vUn pTuple (vPrim pSorted [(vSl (vFz (vCall F_law_shuffled [(vBw 0), (vFz (vLR (r1F (vPrim pLen [(vP (gN 1))]))))])) none (some (vBin pAdd (vC (.int 1)) (vCall F_law_take [(vBw 0), (vPrim pLen [(vP (gN 1))])]))))])) (evk s t x2 x3 none none) =
      some (.nx, evk s' t x2 x3 (some (.fz (rowD is))) none) := by
  obtain ⟨l, is, k, s1, s2, a1, a2, a3, a4, a5, a6⟩ := side_ex s m hm0 (by omega)
  refine ⟨is, s2, a1, a2, ?_⟩
  rw [show natsD (List.range m) = rng 0 m from (rng0 m).symm] at a3
  have lt := len_tab h
  have sm : small (m : Int) = true := small_of (by omega) (by omega)
  have rm : room m = true := room_of (by omega)
  have v : O.vals (l.map fun j => O.fz (.int (j : Nat))) = natsD l := vals_ints (fun j : Nat => D.int (j : Nat)) _
  have v3 : ∀ l : List D, O.vals (l.map O.fz) = l := vals_fz
  have c : (1 : Int) + (k : Int) = ((k + 1 : Nat) : Int) := by omega
  have ct : cutD (natsD l) none (some ((1 : Int) + (k : Int))) = natsD (l.take (k + 1)) := by rw [c, cut_to]; unfold natsD; rw [List.map_take]
  have eR : rowD is = .tup (sortD (natsD (l.take (k + 1)))) := by unfold rowD; rw [a6]
  have sl : room (sortD (natsD (l.take (k + 1)))).length = true := room_of (by rw [a6, natsD_len]; omega)
  have v' : O.vals (List.map (fun i : Nat => O.fz (.int (i : Nat))) (List.range m)) = rng 0 m := by rw [rng0]; exact vals_ints (fun j : Nat => D.int (j : Nat)) _
  rw [eR]
  generalize hS : sortD (natsD (l.take (k + 1))) = S at *
  simp [-pLen, hS, lt, sm, rm, rng_length, a3, v3, v, a4, ct, a5, sl]
theorem set5_ex {t : List (List (Option Int))} {m n : Nat} (h : Tab m n t) (hm0 : 0 < m) (hn0 : 0 < n) (hn : n ≤ 10) (s : Rl) (x2 x3 x4 : Option O) : ∃ (js : List Nat) (s' : Rl), js.length ≤ 100 ∧ (∀ i ∈ js, i < n) ∧
    sSet 5 (vUn pTuple (vPrim pSorted [(vSl (vFz (vCall F_law_shuffled [(vBw 0), (vFz (vLR (r1F (vPrP pLen (gIx (gN 1) (gC (.int 0)))))))])) none (some (vBin pAdd (vC (.int 1)) (vCall F_law_take [(vBw 0), (vPrP pLen (gIx (gN 1) (gC (.int 0))))]))))])) (evk s t x2 x3 x4 none) =
      some (.nx, evk s' t x2 x3 x4 (some (.fz (rowD js)))) := by
  obtain ⟨l, is, k, s1, s2, a1, a2, a3, a4, a5, a6⟩ := side_ex s n hn0 (by omega)
  refine ⟨is, s2, a1, a2, ?_⟩
  rw [show natsD (List.range n) = rng 0 n from (rng0 n).symm] at a3
  have l1 := len_row h hm0 (ε := evk s t x2 x3 x4 none) (a := gN 1) rfl
  have l2 := len_row h hm0 (ε := evk s1 t x2 x3 x4 none) (a := gN 1) rfl
  have sm : small (n : Int) = true := small_of (by omega) (by omega)
  have rm : room n = true := room_of (by omega)
  have v : O.vals (l.map fun j => O.fz (.int (j : Nat))) = natsD l := vals_ints (fun j : Nat => D.int (j : Nat)) _
  have v3 : ∀ l : List D, O.vals (l.map O.fz) = l := vals_fz
  have c : (1 : Int) + (k : Int) = ((k + 1 : Nat) : Int) := by omega
  have ct : cutD (natsD l) none (some ((1 : Int) + (k : Int))) = natsD (l.take (k + 1)) := by rw [c, cut_to]; unfold natsD; rw [List.map_take]
  have eR : rowD is = .tup (sortD (natsD (l.take (k + 1)))) := by unfold rowD; rw [a6]
  have sl : room (sortD (natsD (l.take (k + 1)))).length = true := room_of (by rw [a6, natsD_len]; omega)
  rw [eR]
  generalize hS : sortD (natsD (l.take (k + 1))) = S at *
  simp [-vPrP, hS, l1, l2, sm, rm, rng_length, a3, v3, v, a4, ct, a5, sl]
/-- the law's own table of parts -/
theorem due_ptb {t : List (List (Option Int))} {m n : Nat} (h : Tab m n t) (is js : List Nat) (hi : ∀ i ∈ is, i < m) (hj : ∀ j ∈ js, j < n) (hil : is.length ≤ 100) (hjl : js.length ≤ 100) (s : Rl) (x2 x3 : Option O) :
    sSet 2 (vUn pTuple (vLc 9 [7] (itP (vP (gN 4))) (bName 7) tYes' E_law_is_told_3)) (evk s t x2 x3 (some (.fz (rowD is))) (some (.fz (rowD js)))) = some (.nx, evk s t (some (.fz (tabD (ptb t is js)))) x3 (some (.fz (rowD is))) (some (.fz (rowD js)))) := by
  have r1 : room is.length = true := room_of (by omega)
  have r2 : room js.length = true := room_of (by omega)
  have inner : ∀ i ∈ is, lcRun [6] (bName 6) tYes' E_law_is_told_2 (natsD js) [some s.o, some (.fz (tabD t)), x2, x3, some (.fz (rowD is)), some (.fz (rowD js)), none, some (.fz (.int (i : Nat))), none] =
      some (js.map (fun j => O.fz (cellD (tget t i j))), [some s.o, some (.fz (tabD t)), x2, x3, some (.fz (rowD is)), some (.fz (rowD js)), none, some (.fz (.int (i : Nat))), none]) := fun i hii => by
    refine lc_all (fun j : Nat => D.int (j : Nat)) (fun j => O.fz (cellD (tget t i j))) fun j hjj => ?_
    have q := gIx_cell h (hi i hii) (hj j hjj) (ε := [some s.o, some (.fz (tabD t)), x2, x3, some (.fz (rowD is)), some (.fz (rowD js)), some (.fz (.int (j : Nat))), some (.fz (.int (i : Nat))), none]) (a := gN 1) (b := gN 7) (c := gN 6) rfl rfl rfl
    exact ⟨[some s.o, some (.fz (tabD t)), x2, x3, some (.fz (rowD is)), some (.fz (rowD js)), some (.fz (.int (j : Nat))), some (.fz (.int (i : Nat))), none], rfl, by simp [-gIx, E_law_is_told_2, q], rfl⟩
  have outer : lcRun [7] (bName 7) tYes' E_law_is_told_3 (natsD is) (evk s t x2 x3 (some (.fz (rowD is))) (some (.fz (rowD js)))) =
      some (is.map (fun i => O.fz (.tup (js.map fun j => cellD (tget t i j)))), evk s t x2 x3 (some (.fz (rowD is))) (some (.fz (rowD js)))) := by
    refine lc_all (fun j : Nat => D.int (j : Nat)) (fun i => O.fz (.tup (js.map fun j => cellD (tget t i j)))) fun i hii => ?_
    have y := inner i hii
    refine ⟨[some s.o, some (.fz (tabD t)), x2, x3, some (.fz (rowD is)), some (.fz (rowD js)), none, some (.fz (.int (i : Nat))), none], rfl, ?_, rfl⟩
    have e : itP (vP (gN 5)) [some s.o, some (.fz (tabD t)), x2, x3, some (.fz (rowD is)), some (.fz (rowD js)), none, some (.fz (.int (i : Nat))), none] = some (natsD js, [some s.o, some (.fz (tabD t)), x2, x3, some (.fz (rowD is)), some (.fz (rowD js)), none, some (.fz (.int (i : Nat))), none]) := rfl
    have v : O.vals (js.map fun j => O.fz (cellD (tget t i j))) = js.map fun j => cellD (tget t i j) := vals_ints _ _
    simp [-itP, E_law_is_told_3, e, y, natsD_len, r2, v]
  have e : itP (vP (gN 4)) (evk s t x2 x3 (some (.fz (rowD is))) (some (.fz (rowD js)))) = some (natsD is, evk s t x2 x3 (some (.fz (rowD is))) (some (.fz (rowD js)))) := rfl
  have v : O.vals (is.map fun i => O.fz (.tup (js.map fun j => cellD (tget t i j)))) = is.map fun i => D.tup (js.map fun j => cellD (tget t i j)) := vals_ints (fun i => D.tup (js.map fun j => cellD (tget t i j))) _
  have eT : tabD (ptb t is js) = .tup (is.map fun i => D.tup (js.map fun j => cellD (tget t i j))) := by
    simp only [tabD, ptb, List.map_map]
    congr 1
    refine List.map_congr_left fun i _ => ?_
    simp [Function.comp]
  rw [eT]
  simp [-itP, e, outer, natsD_len, r1, v]
theorem told4_ex {t : List (List (Option Int))} {m n : Nat} (h : Tab m n t) (hm0 : 0 < m) (hm : m ≤ 10) (hn0 : 0 < n) (hn : n ≤ 10) (s : Rl) (x2 x3 : Option O) : ∃ s' : Rl, L_law_is_told_4 (evk s t x2 x3 none none) = some (.nx, evk s' t none none none none) := by
  obtain ⟨is, s1, a1, a2, e1⟩ := set4_ex h hm0 hm s x2 x3
  obtain ⟨js, s2, b1, b2, e2⟩ := set5_ex h hm0 hn0 hn s1 x2 x3 (some (.fz (rowD is)))
  have e3 := due_ptb h is js a2 b2 a1 b1 s2 x2 x3
  have pt := part_table_ok h is js a2 b2 a1 b1
  have st := same_tab (ptb_tab t is js) a1 b1
  simp only [SameK] at st
  have e4 : sIf (tOr' (tNo (tVal (vCall (F_law_same 4) [(vCall F_part_table [(vP (gN 1)), (vP (gN 4)), (vP (gN 5))]), (vP (gN 2))]))) (tNo (tVal (vCall (F_law_same 4) [(vCallD F_part_table [2, 1, 0] [(vP (gN 5)), (vP (gN 4)), (vP (gN 1))]), (vP (gN 2))])))) (sRet (vC (.bl false))) sNx
      (evk s2 t (some (.fz (tabD (ptb t is js)))) x3 (some (.fz (rowD is))) (some (.fz (rowD js)))) = some (.nx, evk s2 t (some (.fz (tabD (ptb t is js)))) x3 (some (.fz (rowD is))) (some (.fz (rowD js)))) := by
    simp [pt, st]
  refine ⟨s2, ?_⟩
  unfold L_law_is_told_4
  rw [sWipe, seq_nx e1 (seq_nx e2 (seq_nx e3 e4))]
  rfl
end
end K02


set_option Elab.async false
set_option linter.all false
set_option maxRecDepth 100000
set_option maxHeartbeats 1000000
namespace K02
noncomputable section
open PySem PySem.Spec PyProof.Rows L2 VS
theorem due_trn {t : List (List (Option Int))} {m n : Nat} (h : Tab m n t) (hm0 : 0 < m) (hm : m ≤ 10) (hn : n ≤ 10) (s : Rl) (x2 : Option O) :
    sSet 2 (vUn pTuple (vLc 9 [6] (itR1 (vPrP pLen (gIx (gN 1) (gC (.int 0))))) (bName 6) tYes' E_law_is_told_1)) (evk s t x2 none none none) = some (.nx, evk s t (some (.fz (tabD (trn t n)))) none none none) := by
  have rn : room n = true := room_of (by omega)
  have rm : room t.length = true := room_of (by rw [h.len]; omega)
  have inner : ∀ j, j < n → lcRun [8] (bName 8) tYes' E_law_is_told_0 (t.map fun r => D.tup (r.map cellD)) [some s.o, some (.fz (tabD t)), x2, none, none, none, some (.fz (.int (j : Nat))), none, none] =
      some (t.map (fun r => O.fz (cellD (r.getD j none))), [some s.o, some (.fz (tabD t)), x2, none, none, none, some (.fz (.int (j : Nat))), none, none]) := fun j hj => by
    refine lc_all (fun r : List (Option Int) => D.tup (r.map cellD)) (fun r => O.fz (cellD (r.getD j none))) fun r hr => ?_
    have q := row_ix (r := r) (j := j) (by rw [h.row r hr]; exact hj) (ε := [some s.o, some (.fz (tabD t)), x2, none, none, none, some (.fz (.int (j : Nat))), none, some (.fz (.tup (r.map cellD)))]) (a := gN 8) (b := gN 6) rfl rfl
    exact ⟨[some s.o, some (.fz (tabD t)), x2, none, none, none, some (.fz (.int (j : Nat))), none, some (.fz (.tup (r.map cellD)))], rfl, by simp [-gIx, E_law_is_told_0, q], rfl⟩
  have outer : lcRun [6] (bName 6) tYes' E_law_is_told_1 ((List.range n).map fun j : Nat => D.int (j : Nat)) (evk s t x2 none none none) =
      some ((List.range n).map (fun j => O.fz (.tup (t.map fun r => cellD (r.getD j none)))), evk s t x2 none none none) := by
    refine lc_all (fun j : Nat => D.int (j : Nat)) (fun j => O.fz (.tup (t.map fun r => cellD (r.getD j none)))) fun j hj => ?_
    have y := inner j (by simpa using hj)
    refine ⟨[some s.o, some (.fz (tabD t)), x2, none, none, none, some (.fz (.int (j : Nat))), none, none], rfl, ?_, rfl⟩
    have e : itP (vP (gN 1)) [some s.o, some (.fz (tabD t)), x2, none, none, none, some (.fz (.int (j : Nat))), none, none] = some (t.map fun r => D.tup (r.map cellD), [some s.o, some (.fz (tabD t)), x2, none, none, none, some (.fz (.int (j : Nat))), none, none]) := rfl
    have v : O.vals (t.map fun r => O.fz (cellD (r.getD j none))) = t.map fun r => cellD (r.getD j none) := vals_ints (fun r : List (Option Int) => cellD (r.getD j none)) _
    simp only [List.getD_eq_getElem?_getD] at y v ⊢
    simp [-itP, E_law_is_told_1, e, y, rm, v]
  have it := it_row h hm0 (by omega) (ε := evk s t x2 none none none) (a := gN 1) rfl
  have v : O.vals ((List.range n).map fun j => O.fz (.tup (t.map fun r => cellD (r.getD j none)))) = (List.range n).map fun j => D.tup (t.map fun r => cellD (r.getD j none)) := vals_ints (fun j => D.tup (t.map fun r => cellD (r.getD j none))) _
  have e : tabD (trn t n) = .tup ((List.range n).map fun j => D.tup (t.map fun r => cellD (r.getD j none))) := by
    simp only [tabD, trn, List.map_map]
    congr 1
    refine List.map_congr_left fun j _ => ?_
    simp [Function.comp]
  rw [e]
  simp only [List.getD_eq_getElem?_getD] at outer v ⊢
  simp [-itR1, -vPrP, it, outer, rn, v]
theorem told_ok {t : List (List (Option Int))} {m n : Nat} (h : Tab m n t) (hm0 : 0 < m) (hn0 : 0 < n) (hN : m + n ≤ 10) (s : Rl) : ∃ s' : Rl, F_law_is_told [s.o, .fz (tabD t)] = some (.fz (.bl true), [some s'.o, none]) := by
  have lo := law_open_ok h hm0 (by omega) (by omega)
  have wy := ways_ok h hm0 (by omega) (by omega)
  have wl := openW_len t (m := m) (n := n) (by omega) (by omega)
  have sw := same_ways (openW t m n) wl
  have d2 := due_trn h hm0 (by omega) (by omega) s (some (.fz (.tup ((openW t m n).map wayD))))
  have tt := turned_ok h hm0 (by omega) (by omega)
  have tt2 := turned_ok (trn_tab h) hn0 (by omega) (by omega)
  rw [trn_trn h] at tt2
  have st1 := same_tab (trn_tab h) (by omega) (by omega)
  have st2 := same_tab h (by omega) (by omega)
  obtain ⟨vs, done, hR, lp⟩ := law_parts_ok h hm0 hN
  obtain ⟨us, u1, u2, u3, pp⟩ := parts_ok h hm0 (by omega) (by omega)
  have eP := parts_same (m := m) (n := n) (marks_mk t m n).len hR u1 u2
  rw [← eP] at pp
  have sp := same_parts (marks t m n) m n (by omega) (by omega) us u3
  rw [← eP] at sp
  simp only [SameK] at sw st1 st2 sp
  obtain ⟨ε', h4, s', x2', rfl, _⟩ := for_gen (b := bName 3) (body := L_law_is_told_4) (fun k ε => ∃ s' : Rl, ∃ x2 : Option O, ε = evk s' t x2 none none none ∧ (0 < k → x2 = none)) (ds := rng 0 3) 0
    (fun i hi ε hε => by
      obtain ⟨s', x2, rfl, _⟩ := hε
      obtain ⟨s2, e⟩ := told4_ex h hm0 (by omega) hn0 (by omega) s' x2 (some (.fz (rng 0 3)[i]))
      exact ⟨_, _, rfl, .inl e, s2, none, rfl, fun _ => rfl⟩) _ ⟨s, some (.fz (partsD (marks t m n) m n vs)), rfl, by omega⟩
  generalize hP : partsD (marks t m n) m n vs = Pd at *
  generalize hT : trn t n = Tt at *
  generalize hW : (openW t m n).map wayD = Wd at *
  have v : O.vals ((openW t m n).map fun w => O.fz (wayD w)) = Wd := by rw [← hW]; exact vals_ints _ _
  have wr : room (openW t m n).length = true := room_of (by omega)
  have e1 : sSet 2 (vUn pTuple (vCall F_law_open [(vP (gN 1))])) (evk s t none none none none) = some (.nx, evk s t (some (.fz (.tup Wd))) none none none) := by
    simp only [waysO] at lo
    simp [lo, v, wr]
  have e2 : sIf (tOr' (tNo (tVal (vCall (F_law_same 4) [(vCall F_ways [(vP (gN 1))]), (vP (gN 2))]))) (tNo (tVal (vCall (F_law_same 4) [(vCallD F_ways [0] [(vP (gN 1))]), (vP (gN 2))])))) (sRet (vC (.bl false))) sNx (evk s t (some (.fz (.tup Wd))) none none none) = some (.nx, evk s t (some (.fz (.tup Wd))) none none none) := by
    simp [wy, sw]
  have e4 : sIf (tOr' (tNo (tVal (vCall (F_law_same 4) [(vCall F_turned [(vP (gN 1))]), (vP (gN 2))]))) (tOr' (tNo (tVal (vCall (F_law_same 4) [(vCallD F_turned [0] [(vP (gN 1))]), (vP (gN 2))]))) (tNo (tVal (vCall (F_law_same 4) [(vCall F_turned [(vP (gN 2))]), (vP (gN 1))]))))) (sRet (vC (.bl false))) sNx (evk s t (some (.fz (tabD Tt))) none none none) =
      some (.nx, evk s t (some (.fz (tabD Tt))) none none none) := by
    simp [tt, tt2, st1, st2]
  have e5 : sSet 2 (vCall F_law_parts [(vP (gN 1))]) (evk s t (some (.fz (tabD Tt))) none none none) = some (.nx, evk s t (some (.fz Pd)) none none none) := by
    simp [lp]
  have e6 : sIf (tOr' (tNo (tVal (vCall (F_law_same 4) [(vCall F_parts [(vP (gN 1))]), (vP (gN 2))]))) (tNo (tVal (vCall (F_law_same 4) [(vCallD F_parts [0] [(vP (gN 1))]), (vP (gN 2))])))) (sRet (vC (.bl false))) sNx (evk s t (some (.fz Pd)) none none none) = some (.nx, evk s t (some (.fz Pd)) none none none) := by
    simp [pp, sp]
  have e7 : sFor (itR1 (vC (.int 3))) (bName 3) L_law_is_told_4 (evk s t (some (.fz Pd)) none none none) = some (.nx, evk s' t x2' none none none) := by
    have s3 : small (3 : Int) = true := small_of (by omega) (by omega)
    simp [s3]
    exact h4
  refine ⟨s', mk_rt (n := 2) (N := 9) (P := [0]) (body := B_law_is_told) (os := [s.o, .fz (tabD t)]) (ε := evk s' t x2' none none none) rfl ?_⟩
  unfold B_law_is_told
  exact seq_nx e1 (seq_nx e2 (seq_nx d2 (seq_nx e4 (seq_nx e5 (seq_nx e6 (seq_nx e7 (by simp)))))))
end
end K02


set_option Elab.async false
set_option linter.all false
set_option maxRecDepth 100000
set_option maxHeartbeats 1000000
namespace K02
noncomputable section
open PySem PySem.Spec PyProof.Rows L2 VS
abbrev evw (scr : Option O) (s : Rl) (x2 x3 x4 x5 x6 x7 x8 : Option O) : Env' := [scr, some s.o, x2, x3, x4, x5, x6, x7, x8]
theorem shut_row {t : List (List (Option Int))} {m n : Nat} (h : Tab m n t) (hn : n ≤ 100) {i : Nat} (hi : i < m) (scr x2 : Option O) (s : Rl) : ∃ (r : List (Option Int)) (s' : Rl), r.length = n ∧
    E_law_1 (evw scr s x2 (some (.fz (tabD t))) none (some (.fz (.int m))) (some (.fz (.int n))) (some (.fz (.int (i : Nat)))) none) = some (.o (.fz (.tup (r.map cellD))), evw scr s' x2 (some (.fz (tabD t))) none (some (.fz (.int m))) (some (.fz (.int n))) (some (.fz (.int (i : Nat)))) none) := by
  have hi' : i < t.length := by rw [h.len]; exact hi
  have hl := h.row t[i] (List.getElem_mem hi')
  obtain ⟨cs, ε', h3, _, h4, s', rfl⟩ := lc_gen (own := [8]) (b := bName 8) (f := E_law_0) (fun c => O.fz (cellD c)) (fun _ => True) (fun ε => ∃ s' : Rl, ε = evw scr s' x2 (some (.fz (tabD t))) none (some (.fz (.int m))) (some (.fz (.int n))) (some (.fz (.int (i : Nat)))) none) (ds := t[i].map cellD)
    (fun d hd ε hε => by
      obtain ⟨s', rfl⟩ := hε
      obtain ⟨c, _, rfl⟩ := List.mem_map.1 hd
      obtain ⟨k, s2, _, e⟩ := take s' (m := 3) (by decide) (by decide)
      refine ⟨evw scr s' x2 (some (.fz (tabD t))) none (some (.fz (.int m))) (some (.fz (.int n))) (some (.fz (.int (i : Nat)))) (some (.fz (cellD c))), if k = 0 then c else none, evw scr s2 x2 (some (.fz (tabD t))) none (some (.fz (.int m))) (some (.fz (.int n))) (some (.fz (.int (i : Nat)))) (some (.fz (cellD c))), rfl, ?_, trivial, s2, rfl⟩
      by_cases hk : k = 0
      · simp [E_law_0, e, hk]
      · have hk2 : ¬ (k : Int) = 0 := by omega
        simp [E_law_0, e, hk, hk2, cellD]) _ ⟨s, rfl⟩
  have it : itP (vP (gIx (gN 3) (gN 7))) (evw scr s x2 (some (.fz (tabD t))) none (some (.fz (.int m))) (some (.fz (.int n))) (some (.fz (.int (i : Nat)))) none) = some (t[i].map cellD, evw scr s x2 (some (.fz (tabD t))) none (some (.fz (.int m))) (some (.fz (.int n))) (some (.fz (.int (i : Nat)))) none) := by
    simp [tabD, atI_ofNat, hi']
  rw [List.length_map, hl] at h3
  have v : O.vals (cs.map fun c => O.fz (cellD c)) = cs.map cellD := vals_ints _ _
  have rn : room n = true := room_of (by omega)
  refine ⟨cs, s', h3, ?_⟩
  simp [-itP, E_law_1, it, h4, hl, rn, v]
theorem shut_ex {t : List (List (Option Int))} {m n : Nat} (h : Tab m n t) (hm : m ≤ 100) (hn : n ≤ 100) (scr x2 : Option O) (s : Rl) : ∃ (t' : List (List (Option Int))) (s' : Rl), Tab m n t' ∧
    sSet 4 (vUn pTuple (vLc 9 [7] (itR1 (vP (gN 5))) (bName 7) tYes' E_law_1)) (evw scr s x2 (some (.fz (tabD t))) none (some (.fz (.int m))) (some (.fz (.int n))) none none) =
      some (.nx, evw scr s' x2 (some (.fz (tabD t))) (some (.fz (tabD t'))) (some (.fz (.int m))) (some (.fz (.int n))) none none) := by
  obtain ⟨rows, ε', h3, h5, h4, s', rfl⟩ := lc_gen (own := [7]) (b := bName 7) (f := E_law_1) (fun r => O.fz (.tup (r.map cellD))) (fun r : List (Option Int) => r.length = n) (fun ε => ∃ s' : Rl, ε = evw scr s' x2 (some (.fz (tabD t))) none (some (.fz (.int m))) (some (.fz (.int n))) none none) (ds := rng 0 m)
    (fun d hd ε hε => by
      obtain ⟨s', rfl⟩ := hε
      rw [rng0] at hd
      obtain ⟨i, hi, rfl⟩ := List.mem_map.1 hd
      obtain ⟨r, s2, e1, e2⟩ := shut_row h hn (show i < m by simpa using hi) scr x2 s'
      exact ⟨_, r, _, rfl, e2, e1, s2, rfl⟩) _ ⟨s, rfl⟩
  rw [rng_length] at h3
  have sm : small (m : Int) = true := small_of (by omega) (by omega)
  have rm : room m = true := room_of (by omega)
  have v : O.vals (rows.map fun r => O.fz (.tup (r.map cellD))) = rows.map fun r => D.tup (r.map cellD) := vals_ints (fun r : List (Option Int) => D.tup (r.map cellD)) _
  refine ⟨rows, s', ⟨h3, h5⟩, ?_⟩
  have eT : tabD rows = .tup (rows.map fun r => D.tup (r.map cellD)) := rfl
  rw [eT]
  generalize tabD t = Tt at *
  simp [sm, rm, rng_length, h4, v]
theorem turn_ex (scr x2 x5 x6 : Option O) (s : Rl) : ∃ (m n : Nat) (s' : Rl), (0 < m ∧ m ≤ 6 ∧ 0 < n ∧ n ≤ 6 ∧ m + n ≤ 10) ∧
    L_law_2 (evw scr s x2 none none x5 x6 none none) = some (.nx, evw scr s' none none none (some (.fz (.int m))) (some (.fz (.int n))) none none) := by
  obtain ⟨m, n, s1, hb, h1⟩ := shape_ex s
  obtain ⟨b1, b2, b3, b4, b5⟩ := hb
  obtain ⟨t, s2, ht, h2⟩ := table_ex s1 m n (by omega) (by omega)
  obtain ⟨s3, h3⟩ := told_ok ht b1 b3 b5 s2
  obtain ⟨t', s4, ht', h4⟩ := shut_ex ht (by omega) (by omega) scr x2 s3
  obtain ⟨s5, h5⟩ := told_ok ht' b1 b3 b5 s4
  refine ⟨m, n, s5, ⟨b1, b2, b3, b4, b5⟩, ?_⟩
  have e1 : sAsg (vCall F_law_shape [(vBw 1)]) (bTup [(bName 5), (bName 6)]) (evw scr s x2 none none x5 x6 none none) = some (.nx, evw scr s1 x2 none none (some (.fz (.int m))) (some (.fz (.int n))) none none) := by
    simp [h1]
  have e2 : sSet 3 (vCall F_law_table [(vBw 1), (vP (gN 5)), (vP (gN 6))]) (evw scr s1 x2 none none (some (.fz (.int m))) (some (.fz (.int n))) none none) = some (.nx, evw scr s2 x2 (some (.fz (tabD t))) none (some (.fz (.int m))) (some (.fz (.int n))) none none) := by
    simp [h2]
  have e3 : sIf (tNo (tVal (vCall F_law_is_told [(vBw 1), (vP (gN 3))]))) (sRet (vC (.bl false))) sNx (evw scr s2 x2 (some (.fz (tabD t))) none (some (.fz (.int m))) (some (.fz (.int n))) none none) = some (.nx, evw scr s3 x2 (some (.fz (tabD t))) none (some (.fz (.int m))) (some (.fz (.int n))) none none) := by
    simp [h3]
  have e5 : sIf (tNo (tVal (vCall F_law_is_told [(vBw 1), (vP (gN 4))]))) (sRet (vC (.bl false))) sNx (evw scr s4 x2 (some (.fz (tabD t))) (some (.fz (tabD t'))) (some (.fz (.int m))) (some (.fz (.int n))) none none) = some (.nx, evw scr s5 x2 (some (.fz (tabD t))) (some (.fz (tabD t'))) (some (.fz (.int m))) (some (.fz (.int n))) none none) := by
    simp [h5]
  unfold L_law_2
  rw [sWipe, seq_nx e1 (seq_nx e2 (seq_nx e3 (seq_nx h4 e5)))]
  rfl
theorem shutall (m n : Nat) : Tab m n (List.replicate m (List.replicate n none)) := ⟨by simp, fun r hr => by rw [(List.mem_replicate.1 hr).2]; simp⟩
theorem law_true (ns : List Int) (h : ns.length ≤ 63) (_ : ∀ z ∈ ns, Builtin.Int.intBits z ≤ 1048576) : ∃ fin, F_law [.fz (.scr ns)] = some (.fz (.bl true), fin) := by
  obtain ⟨b, hb⟩ := start_ex ns h
  obtain ⟨ε', h4, b', x5, x6, rfl, hz⟩ := for_gen (b := bName 2) (body := L_law_2) (fun k ε => ∃ (b' : Rl) (x5 x6 : Option O), ε = evw (some (.fz (.scr ns))) b' none none none x5 x6 none none ∧ (0 < k → ∃ m n : Nat, (0 < m ∧ m ≤ 6 ∧ 0 < n ∧ n ≤ 6 ∧ m + n ≤ 10) ∧ x5 = some (.fz (.int m)) ∧ x6 = some (.fz (.int n)))) (ds := rng 0 4) 0
    (fun i hi ε hε => by
      obtain ⟨b0, x5, x6, rfl, _⟩ := hε
      obtain ⟨m, n, b3, hbd, e⟩ := turn_ex (some (.fz (.scr ns))) (some (.fz (rng 0 4)[i])) x5 x6 b0
      exact ⟨_, _, rfl, .inl e, b3, _, _, rfl, fun _ => ⟨m, n, hbd, rfl, rfl⟩⟩) _ ⟨b, none, none, rfl, by omega⟩
  obtain ⟨m, n, ⟨b1, b2, b3, b4, b5⟩, rfl, rfl⟩ := hz (by show 0 < 0 + 4; omega)
  obtain ⟨b6, h6⟩ := told_ok (shutall m n) b1 b3 b5 b'
  refine ⟨_, mk_rt (n := 1) (N := 9) (P := []) (body := B_law) (os := [.fz (.scr ns)]) (ε := evw (some (.fz (.scr ns))) b6 none none none (some (.fz (.int m))) (some (.fz (.int n))) none none) rfl ?_⟩
  have s4 : small (4 : Int) = true := small_of (by omega) (by omega)
  refine seq_nx (ε1 := evw (some (.fz (.scr ns))) b none none none none none none none) (by simp [hb]) (seq_nx (ε1 := evw (some (.fz (.scr ns))) b' none none none (some (.fz (.int m))) (some (.fz (.int n))) none none) ?_ ?_)
  · simp [s4]; exact h4
  · have c1 : (1 : Int) ≤ (n : Int) := by omega
    have c2 : (n : Int) ≤ 1000 := by omega
    have c3 : (1 : Int) ≤ (m : Int) := by omega
    have c4 : (m : Int) ≤ 1000 := by omega
    have e1 : repD [.non] (n : Int) = List.replicate n .non := by simp [repD]
    have e2 : ∀ d : D, repD [d] (m : Int) = List.replicate m d := fun d => by simp [repD]
    have e3 : tabD (List.replicate m (List.replicate n none)) = .tup (List.replicate m (.tup (List.replicate n .non))) := by
      simp [tabD, cellD]
    rw [e3] at h6
    simp [c1, c2, c3, c4, e1, e2, h6]
end
end K02


set_option Elab.async false
set_option linter.all false
set_option maxRecDepth 100000
set_option maxHeartbeats 4000000
namespace K02
noncomputable section
open PySem PySem.Spec PyProof.Rows L2 VS
def dfs : List He.DefD := [dfOf "_law_mixed" s_law_mixed, dfOf "_law_start" s_law_start, dfOf "_law_open" s_law_open, dfOf "_law_parts" s_law_parts, dfOf "_law_same" s_law_same, dfOf "ways" s_ways, dfOf "turned" s_turned, dfOf "part_marks" s_part_marks, dfOf "parts" s_parts, dfOf "_law_take" s_law_take, dfOf "_law_shuffled" s_law_shuffled, dfOf "part_table" s_part_table, dfOf "_law_is_told" s_law_is_told, dfOf "_law_pick" s_law_pick, dfOf "_law_shape" s_law_shape, dfOf "_law_table" s_law_table, dfOf "law" s_law]
def fas : List He.Fa := [.glo "_law_mixed", .glo "_law_start", .glo "_law_open", .glo "_law_parts", .glo "_law_same", .glo "ways", .glo "turned", .glo "part_marks", .glo "parts", .glo "_law_take", .glo "_law_shuffled", .glo "part_table", .glo "_law_is_told", .glo "_law_pick", .glo "_law_shape", .glo "_law_table", .glo "law", .free "abs", .free "bool", .free "int", .free "isinstance", .free "len", .free "list", .free "range", .free "set", .free "sorted", .free "str", .free "tuple"]
def tfs : List He.Defn := [("ways", none), ("turned", none), ("parts", none), ("part_table", none)]
abbrev RR : PySem.W.OpenRow := PySem.W.OpenLaw.row PySem.Challenge.rw_anyamount_k02_ways_parts_and_turned_tabl
abbrev hkk : PySem.W.Hook := He.hookX 4 fas dfs [] tfs fun _ => true
def obb (s : PySem.W.SharedT) : He.AlX := He.obsX 4 fas dfs [] tfs (fun _ => true) (HandSHeadRun.getT s)
theorem obb_eq (s : PySem.W.SharedT) : obb s = hkk.obs s.abs := He.obsX_eq (HandSHeadRun.getT_eq s)
def loo0 : List Str := ["ways", "turned", "part_table", "part_marks", "parts", "_law_mixed", "_law_start", "_law_take", "_law_pick", "_law_shuffled", "_law_same", "_law_shape", "_law_table", "_law_open", "_law_parts", "_law_is_told"]
def loos : List Str := loo0
set_option maxHeartbeats 0 in
theorem runn (w : World) : HandSHeadRun.RunEq RR (PySem.W.view RR.prog [18]) hkk obb 1540 loos w := by
  intro os
  kernel_rfl
theorem law_fn {w : World} {K : PySem.W.Frag} {h : Heap} {mg : Str → Option Value} {fa : Addr} (KX : K.In h) (G : h.Ns mainGlobals mg) (hfa : mg ("law" : Str) = some (.ref fa)) (c : He.SaysX fas dfs [] tfs (fun _ => true) w h K) : LamX.LawAtS PySem.Challenge.rw_anyamount_k02_ways_parts_and_turned_tabl w K CX0 17 63 "script" mg fa h := by
  obtain ⟨fd7, G7⟩ := c.t.d.def_ 0 (d := dfOf "_law_mixed" s_law_mixed) rfl
  have G7 : FunD K "_law_mixed" "_law_mixed" (defArgs s_law_mixed) (defBody s_law_mixed) (defScope s_law_mixed) [] [] (He.fAd K ("_law_mixed", none)) fd7 := G7
  have F7 : Fun K "_law_mixed" "_law_mixed" s_law_mixed (He.fAd K ("_law_mixed", none)) fd7 := fun_of G7
  obtain ⟨fd8, G8⟩ := c.t.d.def_ 1 (d := dfOf "_law_start" s_law_start) rfl
  have G8 : FunD K "_law_start" "_law_start" (defArgs s_law_start) (defBody s_law_start) (defScope s_law_start) [] [] (He.fAd K ("_law_start", none)) fd8 := G8
  have F8 : Fun K "_law_start" "_law_start" s_law_start (He.fAd K ("_law_start", none)) fd8 := fun_of G8
  obtain ⟨fd15, G15⟩ := c.t.d.def_ 2 (d := dfOf "_law_open" s_law_open) rfl
  have G15 : FunD K "_law_open" "_law_open" (defArgs s_law_open) (defBody s_law_open) (defScope s_law_open) [] [] (He.fAd K ("_law_open", none)) fd15 := G15
  have F15 : Fun K "_law_open" "_law_open" s_law_open (He.fAd K ("_law_open", none)) fd15 := fun_of G15
  obtain ⟨fd16, G16⟩ := c.t.d.def_ 3 (d := dfOf "_law_parts" s_law_parts) rfl
  have G16 : FunD K "_law_parts" "_law_parts" (defArgs s_law_parts) (defBody s_law_parts) (defScope s_law_parts) [] [] (He.fAd K ("_law_parts", none)) fd16 := G16
  have F16 : Fun K "_law_parts" "_law_parts" s_law_parts (He.fAd K ("_law_parts", none)) fd16 := fun_of G16
  obtain ⟨fd12, G12⟩ := c.t.d.def_ 4 (d := dfOf "_law_same" s_law_same) rfl
  have G12 : FunD K "_law_same" "_law_same" (defArgs s_law_same) (defBody s_law_same) (defScope s_law_same) [] [] (He.fAd K ("_law_same", none)) fd12 := G12
  have F12 : Fun K "_law_same" "_law_same" s_law_same (He.fAd K ("_law_same", none)) fd12 := fun_of G12
  obtain ⟨fd1, G1⟩ := c.t.d.def_ 5 (d := dfOf "ways" s_ways) rfl
  have G1 : FunD K "ways" "ways" (defArgs s_ways) (defBody s_ways) (defScope s_ways) [] [] (He.fAd K ("ways", none)) fd1 := G1
  have F1 : Fun K "ways" "ways" s_ways (He.fAd K ("ways", none)) fd1 := fun_of G1
  obtain ⟨fd2, G2⟩ := c.t.d.def_ 6 (d := dfOf "turned" s_turned) rfl
  have G2 : FunD K "turned" "turned" (defArgs s_turned) (defBody s_turned) (defScope s_turned) [] [] (He.fAd K ("turned", none)) fd2 := G2
  have F2 : Fun K "turned" "turned" s_turned (He.fAd K ("turned", none)) fd2 := fun_of G2
  obtain ⟨fd4, G4⟩ := c.t.d.def_ 7 (d := dfOf "part_marks" s_part_marks) rfl
  have G4 : FunD K "part_marks" "part_marks" (defArgs s_part_marks) (defBody s_part_marks) (defScope s_part_marks) [] [] (He.fAd K ("part_marks", none)) fd4 := G4
  have F4 : Fun K "part_marks" "part_marks" s_part_marks (He.fAd K ("part_marks", none)) fd4 := fun_of G4
  obtain ⟨fd5, G5⟩ := c.t.d.def_ 8 (d := dfOf "parts" s_parts) rfl
  have G5 : FunD K "parts" "parts" (defArgs s_parts) (defBody s_parts) (defScope s_parts) [] [] (He.fAd K ("parts", none)) fd5 := G5
  have F5 : Fun K "parts" "parts" s_parts (He.fAd K ("parts", none)) fd5 := fun_of G5
  obtain ⟨fd9, G9⟩ := c.t.d.def_ 9 (d := dfOf "_law_take" s_law_take) rfl
  have G9 : FunD K "_law_take" "_law_take" (defArgs s_law_take) (defBody s_law_take) (defScope s_law_take) [] [] (He.fAd K ("_law_take", none)) fd9 := G9
  have F9 : Fun K "_law_take" "_law_take" s_law_take (He.fAd K ("_law_take", none)) fd9 := fun_of G9
  obtain ⟨fd11, G11⟩ := c.t.d.def_ 10 (d := dfOf "_law_shuffled" s_law_shuffled) rfl
  have G11 : FunD K "_law_shuffled" "_law_shuffled" (defArgs s_law_shuffled) (defBody s_law_shuffled) (defScope s_law_shuffled) [] [] (He.fAd K ("_law_shuffled", none)) fd11 := G11
  have F11 : Fun K "_law_shuffled" "_law_shuffled" s_law_shuffled (He.fAd K ("_law_shuffled", none)) fd11 := fun_of G11
  obtain ⟨fd3, G3⟩ := c.t.d.def_ 11 (d := dfOf "part_table" s_part_table) rfl
  have G3 : FunD K "part_table" "part_table" (defArgs s_part_table) (defBody s_part_table) (defScope s_part_table) [] [] (He.fAd K ("part_table", none)) fd3 := G3
  have F3 : Fun K "part_table" "part_table" s_part_table (He.fAd K ("part_table", none)) fd3 := fun_of G3
  obtain ⟨fd17, G17⟩ := c.t.d.def_ 12 (d := dfOf "_law_is_told" s_law_is_told) rfl
  have G17 : FunD K "_law_is_told" "_law_is_told" (defArgs s_law_is_told) (defBody s_law_is_told) (defScope s_law_is_told) [] [] (He.fAd K ("_law_is_told", none)) fd17 := G17
  have F17 : Fun K "_law_is_told" "_law_is_told" s_law_is_told (He.fAd K ("_law_is_told", none)) fd17 := fun_of G17
  obtain ⟨fd10, G10⟩ := c.t.d.def_ 13 (d := dfOf "_law_pick" s_law_pick) rfl
  have G10 : FunD K "_law_pick" "_law_pick" (defArgs s_law_pick) (defBody s_law_pick) (defScope s_law_pick) [] [] (He.fAd K ("_law_pick", none)) fd10 := G10
  have F10 : Fun K "_law_pick" "_law_pick" s_law_pick (He.fAd K ("_law_pick", none)) fd10 := fun_of G10
  obtain ⟨fd13, G13⟩ := c.t.d.def_ 14 (d := dfOf "_law_shape" s_law_shape) rfl
  have G13 : FunD K "_law_shape" "_law_shape" (defArgs s_law_shape) (defBody s_law_shape) (defScope s_law_shape) [] [] (He.fAd K ("_law_shape", none)) fd13 := G13
  have F13 : Fun K "_law_shape" "_law_shape" s_law_shape (He.fAd K ("_law_shape", none)) fd13 := fun_of G13
  obtain ⟨fd14, G14⟩ := c.t.d.def_ 15 (d := dfOf "_law_table" s_law_table) rfl
  have G14 : FunD K "_law_table" "_law_table" (defArgs s_law_table) (defBody s_law_table) (defScope s_law_table) [] [] (He.fAd K ("_law_table", none)) fd14 := G14
  have F14 : Fun K "_law_table" "_law_table" s_law_table (He.fAd K ("_law_table", none)) fd14 := fun_of G14
  obtain ⟨fd18, G18⟩ := c.t.d.def_ 16 (d := dfOf "law" s_law) rfl
  have G18 : FunD K "law" "law" (defArgs s_law) (defBody s_law) (defScope s_law) [] [] (He.fAd K ("law", none)) fd18 := G18
  have F18 : Fun K "law" "law" s_law (He.fAd K ("law", none)) fd18 := fun_of G18
  have e := hfa.symm.trans (He.glo_ok KX G (c.t.d.fact 16 (f := .glo "law") rfl))
  cases e
  refine law_at (fd := fd18) (F := F_law) KX c (fun s u => (FunD.bindsA (ps := ["script"]) G18 fun _ _ _ _ _ _ us hl => match us, hl with | [_], _ => rfl) s [u] rfl) law_true fun base KB GB tb => ?_
  have Z : TX K mg (tkOf K tfs) base (fun i => ([0, He.fAd K ("ways", none), He.fAd K ("turned", none), He.fAd K ("part_table", none), He.fAd K ("part_marks", none), He.fAd K ("parts", none), 0, He.fAd K ("_law_mixed", none), He.fAd K ("_law_start", none), He.fAd K ("_law_take", none), He.fAd K ("_law_pick", none), He.fAd K ("_law_shuffled", none), He.fAd K ("_law_same", none), He.fAd K ("_law_shape", none), He.fAd K ("_law_table", none), He.fAd K ("_law_open", none), He.fAd K ("_law_parts", none), He.fAd K ("_law_is_told", none), He.fAd K ("law", none)] : List Addr).getD i 0) (fun i => ([fd18, fd1, fd2, fd3, fd4, fd5, fd18, fd7, fd8, fd9, fd10, fd11, fd12, fd13, fd14, fd15, fd16, fd17, fd18] : List FuncData).getD i fd18) :=
    { F_law_mixed := F7
      b_law_mixed := F7.binds (ps := p_law_mixed) fun _ _ _ _ _ _ us hl => match us, hl with | [_, _], _ => rfl
      g_law_mixed := He.glo_ok KX G (c.t.d.fact 0 (f := .glo "_law_mixed") rfl)
      F_law_start := F8
      b_law_start := F8.binds (ps := p_law_start) fun _ _ _ _ _ _ us hl => match us, hl with | [_], _ => rfl
      g_law_start := He.glo_ok KX G (c.t.d.fact 1 (f := .glo "_law_start") rfl)
      F_law_open := F15
      b_law_open := F15.binds (ps := p_law_open) fun _ _ _ _ _ _ us hl => match us, hl with | [_], _ => rfl
      g_law_open := He.glo_ok KX G (c.t.d.fact 2 (f := .glo "_law_open") rfl)
      F_law_parts := F16
      b_law_parts := F16.binds (ps := p_law_parts) fun _ _ _ _ _ _ us hl => match us, hl with | [_], _ => rfl
      g_law_parts := He.glo_ok KX G (c.t.d.fact 3 (f := .glo "_law_parts") rfl)
      F_law_same := F12
      b_law_same := F12.binds (ps := p_law_same) fun _ _ _ _ _ _ us hl => match us, hl with | [_, _], _ => rfl
      g_law_same := He.glo_ok KX G (c.t.d.fact 4 (f := .glo "_law_same") rfl)
      F_ways := F1
      b_ways := F1.binds (ps := p_ways) fun _ _ _ _ _ _ us hl => match us, hl with | [_], _ => rfl
      g_ways := He.glo_ok KX G (c.t.d.fact 5 (f := .glo "ways") rfl)
      kt_ways := kt_of (x := "ways") F1 (by decide +kernel) tb
      F_turned := F2
      b_turned := F2.binds (ps := p_turned) fun _ _ _ _ _ _ us hl => match us, hl with | [_], _ => rfl
      g_turned := He.glo_ok KX G (c.t.d.fact 6 (f := .glo "turned") rfl)
      kt_turned := kt_of (x := "turned") F2 (by decide +kernel) tb
      F_part_marks := F4
      b_part_marks := F4.binds (ps := p_part_marks) fun _ _ _ _ _ _ us hl => match us, hl with | [_], _ => rfl
      g_part_marks := He.glo_ok KX G (c.t.d.fact 7 (f := .glo "part_marks") rfl)
      F_parts := F5
      b_parts := F5.binds (ps := p_parts) fun _ _ _ _ _ _ us hl => match us, hl with | [_], _ => rfl
      g_parts := He.glo_ok KX G (c.t.d.fact 8 (f := .glo "parts") rfl)
      kt_parts := kt_of (x := "parts") F5 (by decide +kernel) tb
      F_law_take := F9
      b_law_take := F9.binds (ps := p_law_take) fun _ _ _ _ _ _ us hl => match us, hl with | [_, _], _ => rfl
      g_law_take := He.glo_ok KX G (c.t.d.fact 9 (f := .glo "_law_take") rfl)
      F_law_shuffled := F11
      b_law_shuffled := F11.binds (ps := p_law_shuffled) fun _ _ _ _ _ _ us hl => match us, hl with | [_, _], _ => rfl
      g_law_shuffled := He.glo_ok KX G (c.t.d.fact 10 (f := .glo "_law_shuffled") rfl)
      F_part_table := F3
      b_part_table := F3.binds (ps := p_part_table) fun _ _ _ _ _ _ us hl => match us, hl with | [_, _, _], _ => rfl
      g_part_table := He.glo_ok KX G (c.t.d.fact 11 (f := .glo "part_table") rfl)
      kt_part_table := kt_of (x := "part_table") F3 (by decide +kernel) tb
      F_law_is_told := F17
      b_law_is_told := F17.binds (ps := p_law_is_told) fun _ _ _ _ _ _ us hl => match us, hl with | [_, _], _ => rfl
      g_law_is_told := He.glo_ok KX G (c.t.d.fact 12 (f := .glo "_law_is_told") rfl)
      F_law_pick := F10
      b_law_pick := F10.binds (ps := p_law_pick) fun _ _ _ _ _ _ us hl => match us, hl with | [_, _], _ => rfl
      g_law_pick := He.glo_ok KX G (c.t.d.fact 13 (f := .glo "_law_pick") rfl)
      F_law_shape := F13
      b_law_shape := F13.binds (ps := p_law_shape) fun _ _ _ _ _ _ us hl => match us, hl with | [_], _ => rfl
      g_law_shape := He.glo_ok KX G (c.t.d.fact 14 (f := .glo "_law_shape") rfl)
      F_law_table := F14
      b_law_table := F14.binds (ps := p_law_table) fun _ _ _ _ _ _ us hl => match us, hl with | [_, _, _], _ => rfl
      g_law_table := He.glo_ok KX G (c.t.d.fact 15 (f := .glo "_law_table") rfl)
      F_law := F18
      b_law := F18.binds (ps := p_law) fun _ _ _ _ _ _ us hl => match us, hl with | [_], _ => rfl
      g_law := He.glo_ok KX G (c.t.d.fact 16 (f := .glo "law") rfl)
      bm := bm_of (tf := tfs) (by decide +kernel) tb
      k_ways_table := by
        obtain ⟨oc, od, kV, doc, pm, an, cdv, ct, osl, e, lk, hc⟩ := F1.ex
        subst e
        exact ⟨fun s us ws _ h1 h2 => match us, ws, h1, h2 with | [], [_], _, _ => .of_eq rfl, fun r rz => vals_perm (Vals.append r rz) [0]⟩
      k_turned_table := by
        obtain ⟨oc, od, kV, doc, pm, an, cdv, ct, osl, e, lk, hc⟩ := F2.ex
        subst e
        exact ⟨fun s us ws _ h1 h2 => match us, ws, h1, h2 with | [], [_], _, _ => .of_eq rfl, fun r rz => vals_perm (Vals.append r rz) [0]⟩
      k_parts_table := by
        obtain ⟨oc, od, kV, doc, pm, an, cdv, ct, osl, e, lk, hc⟩ := F5.ex
        subst e
        exact ⟨fun s us ws _ h1 h2 => match us, ws, h1, h2 with | [], [_], _, _ => .of_eq rfl, fun r rz => vals_perm (Vals.append r rz) [0]⟩
      k_part_table_shops_stores_table := by
        obtain ⟨oc, od, kV, doc, pm, an, cdv, ct, osl, e, lk, hc⟩ := F3.ex
        subst e
        exact ⟨fun s us ws _ h1 h2 => match us, ws, h1, h2 with | [], [_, _, _], _, _ => .of_eq rfl, fun r rz => vals_perm (Vals.append r rz) [2, 1, 0]⟩
      z_abs := He.free_ok KX G (c.t.d.fact 17 (f := .free "abs") rfl)
      z_bool := He.free_ok KX G (c.t.d.fact 18 (f := .free "bool") rfl)
      z_int := He.free_ok KX G (c.t.d.fact 19 (f := .free "int") rfl)
      z_isinstance := He.free_ok KX G (c.t.d.fact 20 (f := .free "isinstance") rfl)
      z_len := He.free_ok KX G (c.t.d.fact 21 (f := .free "len") rfl)
      z_list := He.free_ok KX G (c.t.d.fact 22 (f := .free "list") rfl)
      z_range := He.free_ok KX G (c.t.d.fact 23 (f := .free "range") rfl)
      z_set := He.free_ok KX G (c.t.d.fact 24 (f := .free "set") rfl)
      z_sorted := He.free_ok KX G (c.t.d.fact 25 (f := .free "sorted") rfl)
      z_str := He.free_ok KX G (c.t.d.fact 26 (f := .free "str") rfl)
      z_tuple := He.free_ok KX G (c.t.d.fact 27 (f := .free "tuple") rfl) }
  exact ok_law Z
end
end K02
open PySem PySem.W PySem.Calls PyProof.Rows
set_option maxHeartbeats 0 in
theorem PySem.Challenge.cw_anyamount_k02_ways_parts_and_turned_tabl_holds : PySem.Challenge.rw_anyamount_k02_ways_parts_and_turned_tabl.Holds := by
  w_on; o_law
  refine HandSHeadRun.head_any (r := K02.RR) (q := view K02.RR.prog [18]) (H := K02.hkk) (ob := K02.obb) (M := 1540) (loose := K02.loos) (d := HandSHeadRun.topDef K02.RR.prog 18) (kwd := []) K02.obb_eq
    (by kernel_rfl) (fun s => by kernel_rfl) K02.runn (by kernel_rfl) (by kernel_rfl) (by kernel_rfl) (by rfl) (by first | assumption | decide +kernel) (by decide +kernel) ⟨rfl, rfl, rfl, rfl, rfl, by decide +kernel⟩ ?hw ?hc
  case hw => w_witness2
  case hc =>
    refine LamX.walk_ofTsE (l := PySem.Challenge.rw_anyamount_k02_ways_parts_and_turned_tabl) (n := 63) (k := 17) (x := "script") (CX := fun _ => L2.CX0) rfl (by decide) (by kernel_rfl) ⟨rfl, by decide, by decide⟩ ?F (fun _ _ _ _ _ z => z)
    intro w mg fa h Y G hmg0
    obtain ⟨K, KX, c⟩ := Y
    have hmg : mg ("law" : PySem.Str) = some (.ref fa) := by
      have e : (HandSHeadRun.topDef K02.RR.prog 18).name = ("law" : PySem.Str) := by kernel_rfl
      rw [← e]
      exact hmg0
    exact ⟨K, KX, K02.law_fn KX G hmg c⟩

