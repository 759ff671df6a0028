import PyProof.Rows.All
import Wide.All
import OpenK.AllK
import Wide.FinOn
import HandS.ForMost
import HandS.Wide
import HandS.IsInst
import HandS.SortInts
import HandS.Style
import HandS.Defaults
import HandS.MakeKw
import HandS.Zip
import HandS.Flow
import HandS.SortKw
import HandS.SetFor
import HandS.Strs
import HandS.Conv
import HandS.Codes
import HandS.MakeKwOnly
import HandS.WideBits
import KE.DataMinMax
import KE.SortData
import KE.KSortedM
import HandS.OwnEq
import PySem.Challenge.RW_snapdigits_k01_levels_parents_and_chains
set_option Elab.async false
set_option linter.all false
set_option maxRecDepth 100000
set_option maxHeartbeats 1000000
/-! ### range over ints of any size -/
namespace L2
open PySem PySem.Spec PyProof.Rows
theorem turn_long {P : Program} {w : World} {K : PySem.W.Frag} {tg : Expr} (it : Addr) (lo : Int) (n : Nat) : Turn P w K tg (Itr lo n) [it] it (fun i h => IsLongIter h it (lo + (i : Nat) * 1) ((n : Int) - (i : Nat)) 1) where
  mem := by simp
  obj := fun i h st b hb => by
    have e : b = it := by simpa using hb
    subst e
    exact ⟨_, st, fun v z => by
      have z' : Data.fields _ = Data.cell v := z
      cases z'⟩
  keep := fun i h h' st k => k it (by simp) _ st
  item := by
    intro X hP hw hK hc i pins s σ H E I hf st hg
    subst hP hw hK
    obtain ⟨f0, f1, f2, f3, f4, f5⟩ := hf it (by simp)
    have W := Walks.longrange (prog := X.prog) (w := X.w) (I.ok.hd hc) it lo 1 n
    refine W.item i s _ _ hg st fun v h' tk hv st' kk => ?_
    obtain ⟨t, rfl⟩ := hv
    have I1 : Inv X pins σ H { s with heap := h', toks := tk } := I.turned (fun b o hb e => kk b o (by simpa using hb) e) f0 f1 f3 f4 f5
    refine ⟨_, rfl, go_of (s := { s with heap := h', toks := tk }) (n := "longrange_iterator") st' rfl rfl (by decide) ⟨.int (lo + i), H, I1, ⟨t, ?_⟩, ⟨rfl, rfl⟩, st', fun b hb => (hf b hb).1⟩⟩
    rw [Int.mul_one]
  done := by
    intro X hP hw hK hc i pins s σ H E I hf st hg
    subst hP hw hK
    obtain ⟨f0, f1, f2, f3, f4, f5⟩ := hf it (by simp)
    exact wpAny_pyNext_long_end (I.ok.hd hc) st (by have : n ≤ i := hg; omega) fun h' eb => ⟨rfl, I.turned (t' := s.toks) (fun b o hb e => eb b o hb e) f0 f1 f3 f4 f5⟩
  self := fun _ _ _ _ _ st h => wpAny_pyIter_longiter st h
section
variable {X : Cx} {tg : Expr}
theorem range_itW {pins : List (Addr × Obj)} {σ : St} {H : Hp} {s : Shared} {R : It → Hp → Prop} {E : Value → Shared → Prop} {lo hi : Int} {t u v : Tok} {tk : Nat} (I : Inv X pins σ H s)
    (q : R (Itr lo (hi - lo).toNat) H) : wpAny (model X.prog X.w) X.A (pyIter (.ref s.heap.objs.size)) (PIE X pins σ tg R) E { s with heap := s.heap.push { cls := .type "range", data := .fields #[.int lo t, .int hi u, .int 1 v] }, toks := tk } := by
  have I1 : Inv X pins σ H { s with heap := s.heap.push { cls := .type "range", data := .fields #[.int lo t, .int hi u, .int 1 v] }, toks := tk } := I.kept fun b o e => Heap.get?_push_of_some _ e
  have e1 : lo + ((0 : Nat) : Int) * 1 = lo := by simp
  have e2 : (((hi - lo).toNat : Nat) : Int) - ((0 : Nat) : Int) = Builtin.Range.rangeSize lo hi 1 := by rw [rangeSize_one]; split <;> omega
  cases hsm : Builtin.Range.small lo hi 1 with
  | true =>
    refine wpAny_pyIter_range (IsRange.new ..) hsm ?_
    refine ⟨(s.heap.push { cls := .type "range", data := .fields #[.int lo t, .int hi u, .int 1 v] }).objs.size, [(s.heap.push { cls := .type "range", data := .fields #[.int lo t, .int hi u, .int 1 v] }).objs.size], _, _, H, rfl,
      I1.kept (t' := tk) fun b o e => Heap.get?_push_of_some _ e, turn_range _ lo (hi - lo).toNat, ?_, fun b hb => ?_, q⟩
    · show IsRangeIter _ _ (lo + ((0 : Nat) : Int) * 1) ((((hi - lo).toNat : Nat) : Int) - ((0 : Nat) : Int)) 1
      rw [e1, e2]
      exact Heap.get?_push_size _ rfl
    · have e : b = (s.heap.push { cls := .type "range", data := .fields #[.int lo t, .int hi u, .int 1 v] }).objs.size := by simpa using hb
      subst e
      exact I1.fpOk (Nat.le_refl _) (I1.hok.fresh (Nat.le_refl _))
  | false =>
    refine wpAny_pyIter_longrange (IsRange.new ..) hsm ?_
    refine ⟨(s.heap.push { cls := .type "range", data := .fields #[.int lo t, .int hi u, .int 1 v] }).objs.size, [(s.heap.push { cls := .type "range", data := .fields #[.int lo t, .int hi u, .int 1 v] }).objs.size], _, _, H, rfl,
      I1.kept (t' := tk) fun b o e => Heap.get?_push_of_some _ e, turn_long _ lo (hi - lo).toNat, ?_, fun b hb => ?_, q⟩
    · show IsLongIter _ _ (lo + ((0 : Nat) : Int) * 1) ((((hi - lo).toNat : Nat) : Int) - ((0 : Nat) : Int)) 1
      rw [e1, e2]
      exact Heap.get?_push_size _ rfl
    · have e : b = (s.heap.push { cls := .type "range", data := .fields #[.int lo t, .int hi u, .int 1 v] }).objs.size := by simpa using hb
      subst e
      exact I1.fpOk (Nat.le_refl _) (I1.hok.fresh (Nat.le_refl _))
def iRngW (ta : TA) : TI := fun σ H R => ta σ H fun vs H1 => ∃ i j : Int, vs = [.int i, .int j] ∧ R (Itr i (j - i).toNat) H1
theorem pi_rangeW {a b : Expr} {ta : TA} {p pos : Pos} (hg : Gl X "range") (hm : X.mg "range" = none) (ha : PA X [a, b] ta) (hs : starEach [a, b] X.env = [(false, eval a X.env), (false, eval b X.env)] := by rfl) (hs2 : starEach [b] X.env = [(false, eval b X.env)] := by rfl) :
    PI X tg (.Call (.Name "range" p) [a, b] [] pos) (iRngW ta) := by
  refine ⟨fun pins s σ H R I h => ?_⟩
  refine Call_ (ld_blt I hg hm boot_range (PyProof.Rows.callWith_type1 (thn (ha.run pos pins s σ H _ I h) fun us s1 ⟨vs, H1, I1, r1, q1⟩ => ?_) (by rw [hs, hs2]) (by rw [hs2]; rfl)))
  obtain ⟨i, j, e, q⟩ := q1
  subst e
  cases r1 with
  | cons r rr =>
    cases rr with
    | cons r' rr =>
      cases rr
      obtain ⟨t, rfl⟩ := r
      obtain ⟨t', rfl⟩ := r'
      exact call_range_2 (range_itW I1 q)
def iRngW1 (ta : TA) : TI := fun σ H R => ta σ H fun vs H1 => ∃ j : Int, vs = [.int j] ∧ R (Itr 0 j.toNat) H1
theorem pi_rangeW1 {a : Expr} {ta : TA} {p pos : Pos} (hg : Gl X "range") (hm : X.mg "range" = none) (ha : PA X [a] ta) (hs : starEach [a] X.env = [(false, eval a X.env)] := by rfl) : PI X tg (.Call (.Name "range" p) [a] [] pos) (iRngW1 ta) := by
  refine ⟨fun pins s σ H R I h => ?_⟩
  refine Call_ (ld_blt I hg hm boot_range (PyProof.Rows.callWith_type1 (thn (ha.run pos pins s σ H _ I h) fun us s1 ⟨vs, H1, I1, r1, q1⟩ => ?_) hs rfl))
  obtain ⟨j, e, q⟩ := q1
  subst e
  cases r1 with
  | cons r rr =>
    cases rr
    obtain ⟨t, rfl⟩ := r
    exact call_range_1 (range_itW I1 (by simpa using q))
end
end L2
namespace Kr
open PySem L2

/-! ### a ledger: what is known of the heap, place by place -/
inductive Ent where
  | ob (o : HO)
  | src (n : Nat)
  | well (n : Nat)
  | rows (rs : List (List V))
def Ent.Is : Ent → HO → Prop
  | .rows _, _ => False
  | .ob o, u => u = o
  | .src n, u => ∃ x y z : Int, u = .lst [.int x, .int y, .int z] ∧ 0 ≤ y ∧ y < 2147483648 ∧ 0 ≤ z ∧ z ≤ (n : Int)
  | .well n, u => ∃ x y z : Int, u = .lst [.int x, .int y, .int z] ∧ 0 ≤ z ∧ z ≤ (n : Int)
/-- by the heap: a list of tuples -/
def Ent.In : Ent → Hp → HO → Prop
  | .rows rs, H, u => ∃ as : List Addr, u = .lst (as.map V.ref) ∧ as.length = rs.length ∧ ∀ (k : Nat) (a : Addr) (r : List V), as[k]? = some a → rs[k]? = some r → H a = some (.tup r)
  | .ob o, _, u => u = o
  | .src n, _, u => (Ent.src n).Is u
  | .well n, _, u => (Ent.well n).Is u
theorem Ent.in_of {e : Ent} {H : Hp} {o : HO} (h : e.Is o) : e.In H o := by
  cases e with
  | rows rs => exact h.elim
  | ob u => exact h
  | src n => exact h
  | well n => exact h
theorem Ent.In.same {e : Ent} {H H' : Hp} {o : HO} (s : Same H H') (h : e.In H o) : e.In H' o := by
  cases e with
  | rows rs =>
    obtain ⟨as, h1, h2, h3⟩ := h
    exact ⟨as, h1, h2, fun k a r q1 q2 => s _ _ (h3 k a r q1 q2)⟩
  | ob u => exact h
  | src n => exact h
  | well n => exact h
theorem Ent.In.exc {e : Ent} {H H' : Hp} {o u : HO} {a : Addr} (ha : H a = some u) (hu : ∀ r, u ≠ .tup r) (s : ∀ c o, H c = some o → c ≠ a → H' c = some o) (h : e.In H o) : e.In H' o := by
  cases e with
  | rows rs =>
    obtain ⟨as, h1, h2, h3⟩ := h
    refine ⟨as, h1, h2, fun k b r q1 q2 => s _ _ (h3 k b r q1 q2) fun z => ?_⟩
    subst z
    have q3 := h3 k b r q1 q2
    rw [ha] at q3
    exact hu r (Option.some.inj q3)
  | ob u => exact h
  | src n => exact h
  | well n => exact h
/-- may change -/
def Ent.mov : Ent → Bool
  | .ob (.tup _) => false
  | _ => true
theorem Ent.mov_ne {e : Ent} {H : Hp} {u : HO} (m : e.mov = true) (h : e.In H u) : ∀ r, u ≠ .tup r := by
  intro r q
  subst q
  cases e with
  | rows rs =>
    obtain ⟨as, h1, _⟩ := h
    cases h1
  | ob o =>
    have h : HO.tup r = o := h
    subst h
    cases m
  | src n =>
    obtain ⟨x, y, z, h1, _⟩ := h
    cases h1
  | well n =>
    obtain ⟨x, y, z, h1, _⟩ := h
    cases h1
abbrev Led := List (Addr × Ent × Bool)
structure Gr where
  H0 : Hp
  mu : Addr → Prop
/-- two entries of one place: both tuples, or both not own -/
def NdR (x y : Addr × Ent × Bool) : Prop := x.1 = y.1 → (x.2.1.mov = false ∧ y.2.1.mov = false) ∨ (x.2.2 = false ∧ y.2.2 = false)
theorem ndR_symm {x y : Addr × Ent × Bool} (h : NdR x y) : NdR y x := fun e => (h e.symm).imp (fun z => ⟨z.2, z.1⟩) (fun z => ⟨z.2, z.1⟩)
theorem nd_at {L : Led} (h : L.Pairwise NdR) {i j : Nat} {x y : Addr × Ent × Bool} (hx : L[i]? = some x) (hy : L[j]? = some y) (hij : i ≠ j) : NdR x y := by
  obtain ⟨hi, ei⟩ := List.getElem?_eq_some_iff.mp hx
  obtain ⟨hj, ej⟩ := List.getElem?_eq_some_iff.mp hy
  rcases Nat.lt_or_gt_of_ne hij with q | q
  · have := List.pairwise_iff_getElem.mp h i j hi hj q
    rwa [ei, ej] at this
  · have := List.pairwise_iff_getElem.mp h j i hj hi q
    rw [ei, ej] at this
    exact ndR_symm this
theorem nd_ne {L : Led} (h : L.Pairwise NdR) {i j : Nat} {x y : Addr × Ent × Bool} (hx : L[i]? = some x) (hy : L[j]? = some y) (hij : i ≠ j) (m : x.2.1.mov = true ∨ y.2.1.mov = true) (o : x.2.2 = true ∨ y.2.2 = true) : x.1 ≠ y.1 := by
  intro e
  rcases nd_at h hx hy hij e with z | z
  · rcases m with m | m
    · rw [m] at z; cases z.1
    · rw [m] at z; cases z.2
  · rcases o with o | o
    · rw [o] at z; cases z.1
    · rw [o] at z; cases z.2
theorem nd_set {L : Led} (h : L.Pairwise NdR) {i : Nat} {a : Addr} {e e' : Ent} {b : Bool} (k : L[i]? = some (a, e, b)) (m : e.mov = true) : (L.set i (a, e', b)).Pairwise NdR := by
  rw [List.pairwise_iff_getElem]
  intro p q hp hq hpq ee
  have hp' : p < L.length := by simpa using hp
  have hq' : q < L.length := by simpa using hq
  by_cases h1 : i = p
  · subst h1
    rw [List.getElem_set_self, List.getElem_set_ne (by omega)] at ee ⊢
    rcases nd_at h (x := (a, e, b)) k (List.getElem?_eq_getElem hq') (by omega) ee with z | z
    · rw [m] at z
      cases z.1
    · exact .inr z
  · by_cases h2 : i = q
    · subst h2
      rw [List.getElem_set_self, List.getElem_set_ne (by omega)] at ee ⊢
      rcases nd_at h (y := (a, e, b)) (List.getElem?_eq_getElem hp') k (by omega) ee with z | z
      · rw [m] at z
        cases z.2
      · exact .inr z
    · rw [List.getElem_set_ne h1, List.getElem_set_ne h2] at ee ⊢
      exact List.pairwise_iff_getElem.mp h p q hp' hq' hpq ee
theorem nd_app {L : Led} (h : L.Pairwise NdR) {x : Addr × Ent × Bool} (hn : ∀ y ∈ L, NdR y x) : (L ++ [x]).Pairwise NdR := by
  rw [List.pairwise_append]
  refine ⟨h, List.pairwise_singleton _ _, fun y hy z hz => ?_⟩
  have e : z = x := by simpa using hz
  subst e
  exact hn y hy
structure At (g : Gr) (L : Led) (H : Hp) : Prop where
  old : ∀ b o, g.H0 b = some o → ¬ g.mu b → H b = some o
  led : ∀ p ∈ L, ∃ o, H p.1 = some o ∧ p.2.1.In H o
  own : ∀ p ∈ L, p.2.2 = true → (g.H0 p.1 = none ∨ g.mu p.1)
  nd : L.Pairwise NdR
section
variable {g : Gr} {L : Led} {H H' : Hp} {a p : Addr} {e : Ent} {o u : HO} {b : Bool} {i : Nat}
theorem At.look (h : At g L H) (k : L[i]? = some (a, e, b)) : ∃ o, H a = some o ∧ e.In H o := h.led _ (List.mem_of_getElem? k)
theorem At.get (h : At g L H) (k : L[i]? = some (a, .ob o, b)) : H a = some o := by
  obtain ⟨u, h1, h2⟩ := h.look k
  have h2 : u = o := h2
  rw [h1, h2]
/-- nothing is forgotten -/
theorem At.same (h : At g L H) (s : Same H H') : At g L H' := by
  refine ⟨fun c o e m => s _ _ (h.old c o e m), fun q hq => ?_, h.own, h.nd⟩
  obtain ⟨o, h1, h2⟩ := h.led q hq
  exact ⟨o, s _ _ h1, h2.same s⟩
/-- a new object -/
theorem At.newE (h : At g L H) (s : Same H H') (n : H p = none) (hp : H' p = some o) (he : e.In H' o) : At g (L ++ [(p, e, true)]) H' := by
  refine ⟨fun c o e m => s _ _ (h.old c o e m), fun q hq => ?_, fun q hq => ?_, ?_⟩
  · rcases List.mem_append.mp hq with hq | hq
    · obtain ⟨o, h1, h2⟩ := h.led q hq
      exact ⟨o, s _ _ h1, h2.same s⟩
    · have e : q = (p, e, true) := by simpa using hq
      subst e
      exact ⟨o, hp, he⟩
  · rcases List.mem_append.mp hq with hq | hq
    · exact h.own q hq
    · have e : q = (p, e, true) := by simpa using hq
      subst e
      intro _
      by_cases hmu : g.mu p
      · exact .inr hmu
      · refine .inl ?_
        cases z : g.H0 p with
        | none => rfl
        | some u =>
          rw [h.old p u z hmu] at n
          cases n
  · refine nd_app h.nd fun q hq e3 => ?_
    obtain ⟨o, h1, _⟩ := h.led q hq
    rw [e3, n] at h1
    cases h1
theorem At.new (h : At g L H) (s : Same H H') (n : H p = none) (hp : H' p = some o) : At g (L ++ [(p, .ob o, true)]) H' := h.newE s n hp rfl
theorem At.upd_new (h : At g L H) (n : H p = none) : At g (L ++ [(p, .ob o, true)]) (upd H p o) :=
  h.new (fun c u e => by rw [upd_ne (ne_of_none e n)]; exact e) n upd_same
/-- an own object changes -/
theorem At.chg (h : At g L H) (k : L[i]? = some (a, e, true)) {e' : Ent} (s : ∀ c o, H c = some o → c ≠ a → H' c = some o) (ho : H' a = some o) (he : e'.In H' o) (hmv : e.mov = true := by rfl) : At g (L.set i (a, e', true)) H' := by
  obtain ⟨u0, hu0, hin0⟩ := h.look k
  have hmn := Ent.mov_ne hmv hin0
  have hi : i < L.length := (List.getElem?_eq_some_iff.mp k).1
  have hk : L[i] = (a, e, true) := (List.getElem?_eq_some_iff.mp k).2
  have hown := h.own _ (List.mem_of_getElem? k) rfl
  have hmap : (L.set i (a, e', true)).map (·.1) = L.map (·.1) := by
    rw [List.map_set]
    apply List.ext_getElem?
    intro j
    by_cases hj : i = j
    · subst hj
      rw [List.getElem?_set_self (by simpa using hi), List.getElem?_map, k]
      rfl
    · rw [List.getElem?_set_ne hj]
  refine ⟨fun c o' e1 m => ?_, fun q hq => ?_, fun q hq hb => ?_, ?_⟩
  · refine s _ _ (h.old c o' e1 m) fun z => ?_
    subst z
    rcases hown with z | z
    · rw [show g.H0 c = none from z] at e1
      cases e1
    · exact m z
  · obtain ⟨j, hj, ej⟩ := List.mem_iff_getElem.mp hq
    by_cases hij : i = j
    · subst hij
      rw [List.getElem_set_self] at ej
      subst ej
      exact ⟨o, ho, he⟩
    · rw [List.getElem_set_ne hij] at ej
      have hj' : j < L.length := by simpa using hj
      obtain ⟨o', h1, h2⟩ := h.led q (ej ▸ List.getElem_mem hj')
      refine ⟨o', s _ _ h1 fun z => hij ?_, h2.exc hu0 hmn s⟩
      exact Decidable.byContradiction fun hij' => nd_ne h.nd k (List.getElem?_eq_getElem hj') hij' (.inl hmv) (.inl rfl) (by rw [ej]; exact z.symm)
  · obtain ⟨j, hj, ej⟩ := List.mem_iff_getElem.mp hq
    by_cases hij : i = j
    · subst hij
      rw [List.getElem_set_self] at ej
      subst ej
      exact hown
    · rw [List.getElem_set_ne hij] at ej
      have hj' : j < L.length := by simpa using hj
      exact h.own q (ej ▸ List.getElem_mem hj') hb
  · exact nd_set h.nd k hmv
theorem At.upd_chg (h : At g L H) (k : L[i]? = some (a, e, true)) (hmv : e.mov = true := by rfl) : At g (L.set i (a, .ob o, true)) (upd H a o) :=
  h.chg k (fun c u e z => by rw [upd_ne z]; exact e) upd_same rfl hmv
theorem At.sub {L' : Led} (h : At g L' H) (s : L.Sublist L') : At g L H :=
  ⟨h.old, fun q hq => h.led q (s.subset hq), fun q hq => h.own q (s.subset hq), h.nd.sublist s⟩
theorem At.pre {L' : Led} (h : At g L' H) (s : L <+: L') : At g L H := h.sub s.sublist
end

/-! ### readings over a ledger -/
def Wp {α : Type} (g : Gr) (L : Led) (m : Hp → (α → Hp → Prop) → Prop) (C : α → Led → Prop) : Prop :=
  ∀ H, At g L H → ∀ Q : α → Hp → Prop, (∀ v L' H', C v L' → At g L' H' → Q v H') → m H Q
structure Ks where
  nx : St → Led → Prop
  rt : V → Led → Prop
  bk : St → Led → Prop := fun _ _ => False
  ct : St → Led → Prop := fun _ _ => False
structure Eo (g : Gr) (K : Ks) (D : Ends) : Prop where
  nx : ∀ σ L H, K.nx σ L → At g L H → D.nx σ H
  rt : ∀ v L H, K.rt v L → At g L H → D.rt v H
  bk : ∀ σ L H, K.bk σ L → At g L H → D.bk σ H
  ct : ∀ σ L H, K.ct σ L → At g L H → D.ct σ H
def Ws (g : Gr) (L : Led) (t : TS) (σ : St) (K : Ks) : Prop := ∀ H, At g L H → ∀ D, Eo g K D → t D σ H

section
variable {g : Gr} {L : Led} {σ : St} {α β : Type}
theorem Wp.now {m : Hp → (α → Hp → Prop) → Prop} {C : α → Led → Prop} {v : α} (h : ∀ H Q, At g L H → Q v H → m H Q) (c : C v L) : Wp g L m C :=
  fun H a Q q => h H Q a (q v L H c a)
theorem Wp.mono {m : Hp → (α → Hp → Prop) → Prop} {C C' : α → Led → Prop} (h : Wp g L m C) (c : ∀ v L', C v L' → C' v L') : Wp g L m C' :=
  fun H a Q q => h H a Q fun v L' H' z => q v L' H' (c v L' z)
variable {C : V → Led → Prop} {v x y : V} {ta tb tc te : TE} {i j : Nat}
theorem wp_var (h : σ[i]? = some (some v)) (c : C v L) : Wp g L (tVar i σ) C := .now (fun H Q _ q => ⟨v, h, q⟩) c
theorem wp_c (c : C v L) : Wp g L (tC v σ) C := .now (fun _ _ _ q => q) c
theorem wp_op {r : R2} (h : Wp g L (ta σ) fun x L1 => Wp g L1 (tb σ) fun y L2 => Wp g L2 (r x y) C) : Wp g L (tOp r ta tb σ) C :=
  fun H a Q q => h H a _ fun x L1 H1 h1 a1 => h1 H1 a1 _ fun y L2 H2 h2 a2 => h2 H2 a2 Q q
theorem wp_un {r : V → Hp → VK → Prop} (h : Wp g L (ta σ) fun x L1 => Wp g L1 (r x) C) : Wp g L (tUn r ta σ) C :=
  fun H a Q q => h H a _ fun x L1 H1 h1 a1 => h1 H1 a1 Q q
/-- ints -/
theorem wr0 {f : Int → Int → V} {m n : Int} (c : C (f m n) L) : Wp g L (rI0 f (.int m) (.int n)) C := .now (fun _ _ _ q => ⟨m, n, rfl, rfl, q⟩) c
theorem wr1 {P : Int → Int → Prop} {f : Int → Int → V} {m n : Int} (h : P m n) (c : C (f m n) L) : Wp g L (rI P f (.int m) (.int n)) C := .now (fun _ _ _ q => ⟨m, n, rfl, rfl, h, q⟩) c
theorem wu0 {f : Int → V} {m : Int} (c : C (f m) L) : Wp g L (rU f (.int m)) C := .now (fun _ _ _ q => ⟨m, rfl, q⟩) c
theorem wr_modA {m n : Int} (h : 0 < n) (c : ∀ r : Int, 0 ≤ r → r < n → C (.int r) L) : Wp g L (rI (fun _ j => 0 < j) (fun i j => .int (i % j)) (.int m) (.int n)) C := wr1 h (c _ (Int.emod_nonneg _ (by omega)) (Int.emod_lt_of_pos _ h))
theorem wr_powc {m n r : Int} (h : CPow m n) (e : m ^ n.toNat = r) (c : C (.int r) L) : Wp g L (rI CPow (fun i j => .int (i ^ j.toNat)) (.int m) (.int n)) C := wr1 h (by rw [e]; exact c)
theorem wr_eq (h : scal x y = true) (c : C (.bl (decide (x = y))) L) : Wp g L (rEq x y) C := .now (fun _ _ _ q => ⟨h, q⟩) c
theorem wr_ne (h : scal x y = true) (c : C (.bl (!decide (x = y))) L) : Wp g L (rNe x y) C := .now (fun _ _ _ q => ⟨h, q⟩) c
theorem wr_eqI {m n : Int} (c : C (.bl (decide (m = n))) L) : Wp g L (rEq (.int m) (.int n)) C :=
  wr_eq rfl (by rw [show decide (V.int m = V.int n) = decide (m = n) from by simp]; exact c)
theorem wr_neI {m n : Int} (c : C (.bl (!decide (m = n))) L) : Wp g L (rNe (.int m) (.int n)) C :=
  wr_ne rfl (by rw [show decide (V.int m = V.int n) = decide (m = n) from by simp]; exact c)
theorem wr_eqB {m n : Bool} (c : C (.bl (decide (m = n))) L) : Wp g L (rEq (.bl m) (.bl n)) C :=
  wr_eq rfl (by rw [show decide (V.bl m = V.bl n) = decide (m = n) from by simp]; exact c)
theorem wr_neB {m n : Bool} (c : C (.bl (!decide (m = n))) L) : Wp g L (rNe (.bl m) (.bl n)) C :=
  wr_ne rfl (by rw [show decide (V.bl m = V.bl n) = decide (m = n) from by simp]; exact c)
def rIsN' : R2 := fun x y H Q => y = .non ∧ Q (.bl (decide (x = .non))) H
def rNotN' : R2 := fun x y H Q => y = .non ∧ Q (.bl (!decide (x = .non))) H
theorem op_isN' {X : Cx} : OpR X (compareOp .Is) rIsN' := op_isN
theorem op_notN' {X : Cx} : OpR X (compareOp .IsNot) rNotN' := op_notN
theorem wr_isN (c : C (.bl (decide (x = .non))) L) : Wp g L (rIsN' x .non) C := .now (fun _ _ _ q => ⟨rfl, q⟩) c
theorem wr_notN (c : C (.bl (!decide (x = .non))) L) : Wp g L (rNotN' x .non) C := .now (fun _ _ _ q => ⟨rfl, q⟩) c
-- tests
variable {B : Bool → Led → Prop} {t u : TT} {b : Bool}
theorem wt_test (h : Wp g L (te σ) fun v L1 => ∃ b, v = .bl b ∧ B b L1) : Wp g L (tTest te σ) B :=
  fun H a Q q => h H a _ fun v L1 H1 ⟨b, e, k⟩ a1 => ⟨b, e, q b L1 H1 k a1⟩
theorem wt_B (h : Wp g L (te σ) fun v L1 => ∃ b, v = .bl b ∧ B b L1) : Wp g L (tB te σ) B :=
  fun H a Q q => h H a _ fun v L1 H1 ⟨b, e, k⟩ a1 => ⟨b, e, q b L1 H1 k a1⟩
theorem wt_and (h : Wp g L (t σ) fun b L1 => if b = true then Wp g L1 (u σ) B else B false L1) : Wp g L (tAnd t u σ) B :=
  fun H a Q q => h H a _ fun b L1 H1 k a1 => by
    cases b with
    | true => exact (show Wp g L1 (u σ) B from k) H1 a1 Q q
    | false => exact q false L1 H1 k a1
theorem wt_or (h : Wp g L (t σ) fun b L1 => if b = true then B true L1 else Wp g L1 (u σ) B) : Wp g L (tOr t u σ) B :=
  fun H a Q q => h H a _ fun b L1 H1 k a1 => by
    cases b with
    | true => exact q true L1 H1 k a1
    | false => exact (show Wp g L1 (u σ) B from k) H1 a1 Q q
theorem wt_not (h : Wp g L (t σ) fun b L1 => B (!b) L1) : Wp g L (tNot t σ) B := fun H a Q q => h H a _ fun b L1 H1 k a1 => q _ L1 H1 k a1
theorem wt_yes (h : B true L) : Wp g L (tYes σ) B := .now (fun _ _ _ q => q) h
theorem wp_andV (h : Wp g L (ta σ) fun x L1 => ∃ b, x = .bl b ∧ if b = true then Wp g L1 (tb σ) C else C (.bl false) L1) : Wp g L (tAndV ta tb σ) C :=
  fun H a Q q => h H a _ fun x L1 H1 ⟨b, e, k⟩ a1 => ⟨b, e, by
    cases b with
    | true => exact (show Wp g L1 (tb σ) C from k) H1 a1 Q q
    | false => exact q _ L1 H1 k a1⟩
theorem wp_orV (h : Wp g L (ta σ) fun x L1 => ∃ b, x = .bl b ∧ if b = true then C (.bl true) L1 else Wp g L1 (tb σ) C) : Wp g L (tOrV ta tb σ) C :=
  fun H a Q q => h H a _ fun x L1 H1 ⟨b, e, k⟩ a1 => ⟨b, e, by
    cases b with
    | true => exact q _ L1 H1 k a1
    | false => exact (show Wp g L1 (tb σ) C from k) H1 a1 Q q⟩
theorem wp_notV (h : Wp g L (ta σ) fun x L1 => ∃ b, x = .bl b ∧ C (.bl (!b)) L1) : Wp g L (tNotV ta σ) C :=
  fun H a Q q => h H a _ fun x L1 H1 ⟨b, e, k⟩ a1 => ⟨b, e, q _ L1 H1 k a1⟩
theorem wp_if (h : Wp g L (t σ) fun b L1 => if b = true then Wp g L1 (ta σ) C else Wp g L1 (tb σ) C) : Wp g L (tIf t ta tb σ) C :=
  fun H a Q q => h H a _ fun b L1 H1 k a1 => by
    cases b with
    | true => exact (show Wp g L1 (ta σ) C from k) H1 a1 Q q
    | false => exact (show Wp g L1 (tb σ) C from k) H1 a1 Q q
theorem wp_chain {r r' : R2} (h : Wp g L (ta σ) fun x L1 => Wp g L1 (tb σ) fun y L2 => Wp g L2 (r x y) fun z L3 => ∃ b, z = .bl b ∧ if b = true then Wp g L3 (tc σ) fun w L4 => Wp g L4 (r' y w) C else C (.bl false) L3) : Wp g L (tChain r r' ta tb tc σ) C :=
  fun H a Q q => h H a _ fun x L1 H1 h1 a1 => h1 H1 a1 _ fun y L2 H2 h2 a2 => h2 H2 a2 _ fun z L3 H3 ⟨b, e, k⟩ a3 => ⟨b, e, by
    cases b with
    | true => exact (show Wp g L3 (tc σ) _ from k) H3 a3 _ fun w L4 H4 h4 a4 => h4 H4 a4 Q q
    | false => exact q _ L3 H3 k a3⟩
-- arguments
variable {A : List V → Led → Prop} {tr : TA}
theorem wa_nil (h : A [] L) : Wp g L (tNil σ) A := .now (fun _ _ _ q => q) h
theorem wa_cons (h : Wp g L (ta σ) fun x L1 => Wp g L1 (tr σ) fun xs L2 => A (x :: xs) L2) : Wp g L (tCons ta tr σ) A :=
  fun H a Q q => h H a _ fun x L1 H1 h1 a1 => h1 H1 a1 _ fun xs L2 H2 h2 a2 => q _ L2 H2 h2 a2
/-- new things -/
theorem wp_tup (h : Wp g L (tr σ) fun xs L1 => xs.length ≤ 1000 ∧ ∀ p, C (.ref p) (L1 ++ [(p, .ob (.tup xs), true)])) : Wp g L (tTup tr σ) C :=
  fun H a Q q => h H a _ fun xs L1 H1 h1 a1 => ⟨Nat.le_trans h1.1 (by decide), fun p hp => q _ _ _ (h1.2 p) (a1.upd_new hp)⟩
theorem wp_lst (h : Wp g L (tr σ) fun xs L1 => xs.length ≤ 1000 ∧ ∀ p, C (.ref p) (L1 ++ [(p, .ob (.lst xs), true)])) : Wp g L (tLst tr σ) C :=
  fun H a Q q => h H a _ fun xs L1 H1 h1 a1 => ⟨Nat.le_trans h1.1 (by decide), fun p hp => q _ _ _ (h1.2 p) (a1.upd_new hp)⟩
/-- fields -/
theorem wp_fld {K : PySem.W.Frag} {C' : Addr} {f : Str} (i : Nat) (hc : Cls K C') (hn : NoAttr K C' f) (h : Wp g L (ta σ) fun x L1 => ∃ (a dx : Addr) (fs : List (Str × V)) (bo : Bool) (v : V), x = .ref a ∧ L1[i]? = some (a, .ob (.ins C' dx fs), bo) ∧ fs.lookup f = some v ∧ C v L1) : Wp g L (tFld K ta f σ) C :=
  fun H a' Q q => h H a' _ fun x L1 H1 ⟨a, dx, fs, bo, v, e, h1, h2, h3⟩ a1 => ⟨a, C', dx, fs, v, e, a1.get h1, hc, hn, h2, q _ L1 H1 h3 a1⟩
/-- calls -/
theorem wp_call {sp : Sp} {dvs : List V} {E : XK} (h : Wp g L (tr σ) fun vs L1 => Wp g L1 (fun H Q => sp (vs ++ dvs) H Q E) C) : Wp g L (tCall sp dvs E tr σ) C :=
  fun H a Q q => h H a _ fun vs L1 H1 h1 a1 => h1 H1 a1 Q q
theorem wp_callK {sp : Sp} {gV : List V → List V → List V} {E : XK} {tk : TA} (h : Wp g L (tr σ) fun vs L1 => Wp g L1 (tk σ) fun zs L2 => Wp g L2 (fun H Q => sp (gV vs zs) H Q E) C) : Wp g L (tCallK sp gV E tr tk σ) C :=
  fun H a Q q => h H a _ fun vs L1 H1 h1 a1 => h1 H1 a1 _ fun zs L2 H2 h2 a2 => h2 H2 a2 Q q
theorem wp_meth {sp : Sp} {dvs : List V} {E : XK} {C' : Addr} {m : Str} (i : Nat)
    (h : Wp g L (ta σ) fun x L1 => ∃ (a dx : Addr) (fs : List (Str × V)) (bo : Bool), x = .ref a ∧ L1[i]? = some (a, .ob (.ins C' dx fs), bo) ∧ fs.lookup m = none ∧ Wp g L1 (tr σ) fun vs L2 => Wp g L2 (fun H Q => sp (.ref a :: (vs ++ dvs)) H Q E) C) : Wp g L (tMeth C' m sp dvs E ta tr σ) C :=
  fun H a' Q q => h H a' _ fun x L1 H1 ⟨a, dx, fs, bo, e, h1, h2, h3⟩ a1 => by
    subst e
    exact ⟨a, dx, fs, rfl, a1.get h1, h2, h3 H1 a1 _ fun vs L2 H2 k2 a2 => k2 H2 a2 Q q⟩
theorem wp_cb {r : List V → Hp → VK → Prop} (h : Wp g L (tr σ) fun vs L1 => Wp g L1 (r vs) C) : Wp g L (tCB r tr σ) C :=
  fun H a Q q => h H a _ fun vs L1 H1 h1 a1 => h1 H1 a1 Q q
def rMax2 : List V → Hp → VK → Prop := fun xs H Q => ∃ i j, xs = [.int i, .int j] ∧ Q (.int (if j > i then j else i)) H
def rMin2 : List V → Hp → VK → Prop := fun xs H Q => ∃ i j, xs = [.int i, .int j] ∧ Q (.int (if j < i then j else i)) H
def rInt1 : List V → Hp → VK → Prop := fun xs H Q => (∃ i, xs = [.int i] ∧ Q (.int i) H) ∨ ∃ k, xs = [.bl k] ∧ Q (.int (if k then 1 else 0)) H
def rLen (K : PySem.W.Frag) : List V → Hp → VK → Prop := fun xs H Q => ∃ p ys, xs = [.ref p] ∧ (SqL K H p ys ∨ SqT K H p ys) ∧ Q (.int ys.length) H
def rListOf (K : PySem.W.Frag) : List V → Hp → VK → Prop := fun xs H Q => ∃ p ys, xs = [.ref p] ∧ (SqL K H p ys ∨ SqT K H p ys) ∧ ∀ l, H l = none → Q (.ref l) (upd H l (.lst ys))
theorem c_max2 {X : Cx} (hc : X.calm = true) : CallR X (.builtin "max") rMax2 := call_max2 hc
theorem c_min2 {X : Cx} (hc : X.calm = true) : CallR X (.builtin "min") rMin2 := call_min2 hc
theorem c_int1 {X : Cx} : CallR X (.type "int") rInt1 := call_int1
theorem c_len {X : Cx} : CallR X (.builtin "len") (rLen X.K) := call_len_seq
theorem c_list {X : Cx} : CallR X (.type "list") (rListOf X.K) := call_list_of
theorem wc_max2 {m n : Int} (c : C (.int (max m n)) L) : Wp g L (rMax2 [.int m, .int n]) C :=
  .now (fun _ _ _ q => ⟨m, n, rfl, q⟩) (by rw [show (if n > m then n else m) = max m n from by rw [Int.max_def]; split <;> split <;> omega]; exact c)
theorem wc_min2 {m n : Int} (c : C (.int (min m n)) L) : Wp g L (rMin2 [.int m, .int n]) C :=
  .now (fun _ _ _ q => ⟨m, n, rfl, q⟩) (by rw [show (if n < m then n else m) = min m n from by rw [Int.min_def]; split <;> split <;> omega]; exact c)
theorem wc_intB {b : Bool} (c : C (.int (if b then 1 else 0)) L) : Wp g L (rInt1 [.bl b]) C := .now (fun _ _ _ q => .inr ⟨b, rfl, q⟩) c
theorem wr_is_True {m : Bool} (c : C (.bl m) L) : Wp g L (rIsB (.bl m) (.bl true)) C := .now (fun _ _ _ q => ⟨m, true, rfl, rfl, by cases m <;> exact q⟩) c
theorem wr_is_False {m : Bool} (c : C (.bl (!m)) L) : Wp g L (rIsB (.bl m) (.bl false)) C := .now (fun _ _ _ q => ⟨m, false, rfl, rfl, by cases m <;> exact q⟩) c
theorem wr_isnot_True {m : Bool} (c : C (.bl (!m)) L) : Wp g L (rNotB (.bl m) (.bl true)) C := .now (fun _ _ _ q => ⟨m, true, rfl, rfl, by cases m <;> exact q⟩) c
theorem wr_isnot_False {m : Bool} (c : C (.bl m) L) : Wp g L (rNotB (.bl m) (.bl false)) C := .now (fun _ _ _ q => ⟨m, false, rfl, rfl, by cases m <;> exact q⟩) c
/-- a list or tuple that is known to be there -/
structure Seen (K : PySem.W.Frag) (g : Gr) (L : Led) (a : Addr) (xs : List V) : Prop where
  at_ : ∀ H, At g L H → SqL K H a xs
structure SeenT (K : PySem.W.Frag) (g : Gr) (L : Led) (a : Addr) (xs : List V) : Prop where
  at_ : ∀ H, At g L H → SqT K H a xs
theorem seen {K : PySem.W.Frag} {a : Addr} {xs : List V} {bo : Bool} (i : Nat) (h : L[i]? = some (a, .ob (.lst xs), bo)) : Seen K g L a xs := ⟨fun H z => SqL.of (z.get h)⟩
theorem seenT {K : PySem.W.Frag} {a : Addr} {xs : List V} {bo : Bool} (i : Nat) (h : L[i]? = some (a, .ob (.tup xs), bo)) : SeenT K g L a xs := ⟨fun H z => SqT.of (z.get h)⟩
/-- what stood at the entry and is not changed -/
theorem seen0 {K : PySem.W.Frag} {a : Addr} {xs : List V} (h : SqL K g.H0 a xs) (hm : ¬ g.mu a) : Seen K g L a xs := ⟨fun H z => by
  rcases h with (h | ⟨o, h⟩) | h
  · exact .inl (.inl (z.old _ _ h hm))
  · exact .inl (.inr ⟨o, z.old _ _ h hm⟩)
  · exact .inr h⟩
section
variable {K : PySem.W.Frag} {a : Addr} {xs : List V}
theorem wc_len (s : Seen K g L a xs) (c : C (.int (xs.length : Int)) L) : Wp g L (rLen K [.ref a]) C := .now (fun H _ z q => ⟨a, xs, rfl, .inl (s.at_ H z), q⟩) c
theorem wc_lenT (s : SeenT K g L a xs) (c : C (.int (xs.length : Int)) L) : Wp g L (rLen K [.ref a]) C := .now (fun H _ z q => ⟨a, xs, rfl, .inr (s.at_ H z), q⟩) c
theorem wc_list (s : Seen K g L a xs) (c : ∀ p, C (.ref p) (L ++ [(p, .ob (.lst xs), true)])) : Wp g L (rListOf K [.ref a]) C :=
  fun H z Q q => ⟨a, xs, rfl, .inl (s.at_ H z), fun p hp => q _ _ _ (c p) (z.upd_new hp)⟩
theorem wr_ixL {k : Int} (s : Seen K g L a xs) (h : atI xs k = some v) (c : C v L) : Wp g L (rIxL K (.ref a) (.int k)) C := .now (fun H _ z q => ⟨a, xs, k, v, rfl, rfl, s.at_ H z, h, q⟩) c
theorem wr_ixT {k : Int} (s : SeenT K g L a xs) (h : atI xs k = some v) (c : C v L) : Wp g L (rIxT K (.ref a) (.int k)) C := .now (fun H _ z q => ⟨a, xs, k, v, rfl, rfl, s.at_ H z, h, q⟩) c
theorem wr_in {neg : Bool} (s : Seen K g L a xs) (hx : flatV x = true) (hf : xs.all flatV = true) (c : C (.bl (if neg then !inV x xs else inV x xs)) L) : Wp g L (rIn K neg x (.ref a)) C :=
  .now (fun H _ z q => ⟨a, xs, rfl, .inl (s.at_ H z), hx, hf, q⟩) c
theorem inV_ints {m : Int} : ∀ {xs : List Int}, inV (.int m) (xs.map V.int) = decide (m ∈ xs)
  | [] => by simp [inV]
  | x :: r => by
    have ih := inV_ints (m := m) (xs := r)
    unfold inV at *
    rw [List.map_cons, List.any_cons, ih]
    by_cases e : m = x
    · subst e
      simp [eqV]
    · have : (x == m) = false := by simp; omega
      simp [eqV, e]
      omega
theorem flat_ints {xs : List Int} : (xs.map V.int).all flatV = true := by
  rw [List.all_eq_true]
  intro v hv
  obtain ⟨n, _, rfl⟩ := List.mem_map.mp hv
  rfl
theorem wr_inI {m : Int} {ns : List Int} (s : Seen K g L a (ns.map V.int)) (c : C (.bl (decide (m ∈ ns))) L) : Wp g L (rIn K false (.int m) (.ref a)) C :=
  wr_in s rfl flat_ints (by rw [inV_ints]; exact c)
theorem wr_notinI {m : Int} {ns : List Int} (s : Seen K g L a (ns.map V.int)) (c : C (.bl (!decide (m ∈ ns))) L) : Wp g L (rIn K true (.int m) (.ref a)) C :=
  wr_in s rfl flat_ints (by rw [inV_ints]; exact c)
theorem wr_cat {a2 : Addr} {ys : List V} {b1 b2 : Bool} (i j : Nat) (h1 : L[i]? = some (a, .ob (.lst xs), b1)) (h2 : L[j]? = some (a2, .ob (.lst ys), b2)) (hl : xs.length + ys.length ≤ 100000)
    (c : ∀ p, C (.ref p) (L ++ [(p, .ob (.lst (xs ++ ys)), true)])) : Wp g L (rCat (.ref a) (.ref a2)) C :=
  fun H z Q q => ⟨a, a2, xs, ys, rfl, rfl, z.get h1, z.get h2, Nat.le_trans hl (by decide), fun p hp => q _ _ _ (c p) (z.upd_new hp)⟩
-- slices
variable {O : Option Int → Led → Prop} {tl th : TO}
theorem wo_none (h : O none L) : Wp g L (tNoPart σ) O := .now (fun _ _ _ q => q) h
theorem wo_some (h : Wp g L (te σ) fun v L1 => ∃ k, v = .int k ∧ O (some k) L1) : Wp g L (tPart te σ) O := fun H z Q q => h H z _ fun v L1 H1 ⟨k, e, c⟩ z1 => ⟨k, e, q _ L1 H1 c z1⟩
theorem wp_sl {r : V → Option Int → Option Int → Hp → VK → Prop} (h : Wp g L (te σ) fun x L1 => Wp g L1 (tl σ) fun l L2 => Wp g L2 (th σ) fun u L3 => Wp g L3 (r x l u) C) : Wp g L (tSl r te tl th σ) C :=
  fun H z Q q => h H z _ fun x L1 H1 h1 z1 => h1 H1 z1 _ fun l L2 H2 h2 z2 => h2 H2 z2 _ fun u L3 H3 h3 z3 => h3 H3 z3 Q q
theorem wr_slL {lo hi : Option Int} (s : Seen K g L a xs) (c : ∀ p, C (.ref p) (L ++ [(p, .ob (.lst (cutV xs lo hi)), true)])) : Wp g L (rSlL K (.ref a) lo hi) C :=
  fun H z Q q => ⟨a, xs, rfl, s.at_ H z, fun p hp => q _ _ _ (c p) (z.upd_new hp)⟩
/-- a built-in type's method -/
theorem wp_bm {T : String} {r : V → List V → Hp → VK → Prop} (h : Wp g L (te σ) fun x L1 => (∀ H, At g L1 H → tyV K T x H) ∧ Wp g L1 (tr σ) fun vs L2 => Wp g L2 (r x vs) C) : Wp g L (tBM K T r te tr σ) C :=
  fun H z Q q => h H z _ fun x L1 H1 ⟨k, h1⟩ z1 => ⟨k H1 z1, h1 H1 z1 _ fun vs L2 H2 h2 z2 => h2 H2 z2 Q q⟩
theorem ty_list {bo : Bool} (i : Nat) (h : L[i]? = some (a, .ob (.lst xs), bo)) : ∀ H, At g L H → tyV K "list" (.ref a) H := fun H z => .inl ⟨rfl, _, SqL.of (z.get h)⟩
theorem wr_app {e : Ent} (i : Nat) (h : L[i]? = some (a, .ob (.lst xs), true)) (hl : xs.length < 100000) (c : C .non (L.set i (a, .ob (.lst (xs ++ [x])), true))) : Wp g L (rAppend (.ref a) [x]) C :=
  fun H z Q q => ⟨a, xs, x, rfl, rfl, z.get h, Nat.lt_of_lt_of_le hl (by decide), q _ _ _ c (z.upd_chg h)⟩
end

/-! ### statements -/
variable {K : Ks} {t1 t2 : TS} {cT : TT}
theorem ws_seq (h : Ws g L t1 σ { K with nx := fun σ' L' => Ws g L' t2 σ' K }) : Ws g L (tSeq t1 t2) σ K :=
  fun H z D e => h H z { D with nx := t2 D } ⟨fun σ' L' H' k z' => k H' z' D e, e.rt, e.bk, e.ct⟩
theorem ws_eq {σ' : St} (e : σ = σ') (h : Ws g L t1 σ' K) : Ws g L t1 σ K := e ▸ h
theorem ws_nf {σ' : St} {L' : Led} (e : σ = σ') (e2 : L = L') (h : Ws g L' t1 σ' K) : Ws g L t1 σ K := e ▸ e2 ▸ h
theorem ws_next (h : K.nx σ L) : Ws g L tNext σ K := fun H z D e => e.nx _ _ _ h z
theorem ws_brk (h : K.bk σ L) : Ws g L tBreak σ K := fun H z D e => e.bk _ _ _ h z
theorem ws_cont (h : K.ct σ L) : Ws g L tCont σ K := fun H z D e => e.ct _ _ _ h z
theorem ws_drop (h : Wp g L (te σ) fun _ L1 => K.nx σ L1) : Ws g L (tDrop te) σ K := fun H z D e => h H z _ fun _ L1 H1 k z1 => e.nx _ _ _ k z1
theorem ws_ret (h : Wp g L (te σ) fun v L1 => K.rt v L1) : Ws g L (tRet te) σ K := fun H z D e => h H z _ fun v L1 H1 k z1 => e.rt _ _ _ k z1
theorem ws_retN (h : K.rt .non L) : Ws g L tRetN σ K := fun H z D e => e.rt _ _ _ h z
theorem ws_if (h : Wp g L (cT σ) fun b L1 => if b = true then Ws g L1 t1 σ K else Ws g L1 t2 σ K) : Ws g L (tIfS cT t1 t2) σ K :=
  fun H z D e => h H z _ fun b L1 H1 k z1 => by
    cases b with
    | true => exact (show Ws g L1 t1 σ K from k) H1 z1 D e
    | false => exact (show Ws g L1 t2 σ K from k) H1 z1 D e
theorem ws_never (h : False) : Ws g L tNever σ K := h.elim
/-- targets -/
def Wg (g : Gr) (L : Led) (t : TG) (v : V) (σ : St) (N : St → Led → Prop) : Prop := ∀ H, At g L H → ∀ Q : St → Hp → Prop, (∀ σ' L' H', N σ' L' → At g L' H' → Q σ' H') → t v σ H Q
def Wgs (g : Gr) (L : Led) (t : TGs) (vs : List V) (σ : St) (N : St → Led → Prop) : Prop := ∀ H, At g L H → ∀ Q : St → Hp → Prop, (∀ σ' L' H', N σ' L' → At g L' H' → Q σ' H') → t vs σ H Q
variable {N : St → Led → Prop}
theorem wg_name (h : N (σ.set i (some v)) L) : Wg g L (gName i) v σ N := fun H z Q q => q _ _ _ h z
theorem wgs_nil (h : N σ L) : Wgs g L gNil [] σ N := fun H z Q q => ⟨rfl, q _ _ _ h z⟩
theorem wgs_cons {tg : TG} {u : TGs} {vs : List V} (h : Wg g L tg v σ fun σ1 L1 => Wgs g L1 u vs σ1 N) : Wgs g L (gCons tg u) (v :: vs) σ N := fun H z Q q => ⟨v, vs, rfl, h H z _ fun σ1 L1 H1 k z1 => k H1 z1 Q q⟩
theorem wg_tup {Kf : PySem.W.Frag} {n : Nat} {u : TGs} {a : Addr} {xs : List V} (s : SeenT Kf g L a xs) (hn : xs.length = n) (h : Wgs g L u xs σ N) : Wg g L (gTup Kf n u) (.ref a) σ N := fun H z Q q => ⟨a, xs, rfl, s.at_ H z, hn, h H z Q q⟩
theorem ws_asg {tg : TG} (h : Wp g L (te σ) fun v L1 => Wg g L1 tg v σ K.nx) : Ws g L (tAsg te tg) σ K := fun H z D e => h H z _ fun v L1 H1 k z1 => k H1 z1 _ e.nx
theorem ws_set (h : Wp g L (te σ) fun v L1 => K.nx (σ.set i (some v)) L1) : Ws g L (tAsg te (gName i)) σ K := ws_asg (h.mono fun _ _ k => wg_name k)
theorem ws_par (h : Wp g L (tr σ) fun vs L1 => ∃ v w, vs = [v, w] ∧ K.nx ((σ.set i (some v)).set j (some w)) L1) : Ws g L (tPar i j tr) σ K :=
  fun H z D e => h H z _ fun vs L1 H1 ⟨v, w, e1, k⟩ z1 => ⟨v, w, e1, e.nx _ _ _ k z1⟩
theorem wg_sub {to ti : TE} {r : TSet} (h : Wp g L (to σ) fun o L1 => Wp g L1 (ti σ) fun k L2 => Wp g L2 (fun H (Q : Unit → Hp → Prop) => r o k v H (Q ())) fun _ L3 => N σ L3) : Wg g L (gSub to ti r) v σ N :=
  fun H z Q q => h H z _ fun o L1 H1 h1 z1 => h1 H1 z1 _ fun k L2 H2 h2 z2 => h2 H2 z2 (fun _ H3 => Q σ H3) fun _ L3 H3 n z3 => q _ _ _ n z3
theorem wr_setL {a : Addr} {xs : List V} {k : Int} {jj : Nat} {U : Unit → Led → Prop} (i : Nat) (h : L[i]? = some (a, .ob (.lst xs), true)) (hj : ixN xs.length k = some jj) (c : U () (L.set i (a, .ob (.lst (xs.set jj v)), true))) :
    Wp g L (fun H (Q : Unit → Hp → Prop) => rSetL (.ref a) (.int k) v H (Q ())) U := fun H z Q q => ⟨a, xs, k, jj, rfl, rfl, z.get h, hj, q () _ _ c (z.upd_chg h)⟩
/-- field stores -/
theorem ws_fld {Kf : PySem.W.Frag} {tv : TE} {C' : Addr} {f : Str} (i : Nat) (hc : Cls Kf C') (hn : NoAttr Kf C' f)
    (h : Wp g L (tv σ) fun y L1 => Wp g L1 (ta σ) fun x L2 => ∃ (a dx : Addr) (fs : List (Str × V)), x = .ref a ∧ L2[i]? = some (a, .ob (.ins C' dx fs), true) ∧ fs.length < 1000 ∧ K.nx σ (L2.set i (a, .ob (.ins C' dx (putF f y fs)), true))) : Ws g L (sFld Kf ta tv f) σ K :=
  fun H z D e => h H z _ fun y L1 H1 h1 z1 => h1 H1 z1 _ fun x L2 H2 ⟨a, dx, fs, e1, k, hl, n⟩ z2 => ⟨a, C', dx, fs, e1, z2.get k, hc, hn, hl, e.nx _ _ _ n (z2.upd_chg k)⟩
/-- while: a word I, a measure μ -/
theorem ws_while (I : St → Led → Prop) (μ : St → Nat) (h0 : I σ L)
    (hs : ∀ σ L, I σ L → Wp g L (cT σ) fun b L1 => if b = true then Ws g L1 t1 σ { K with nx := fun σ' L' => μ σ' < μ σ ∧ ∃ L2, L2 <+: L' ∧ I σ' L2, ct := fun σ' L' => μ σ' < μ σ ∧ ∃ L2, L2 <+: L' ∧ I σ' L2, bk := K.nx } else K.nx σ L1) :
    Ws g L (tWhile cT t1) σ K := fun H z D e => by
  refine ⟨fun m σ H => m = μ σ ∧ ∃ L, I σ L ∧ At g L H, ⟨_, rfl, L, h0, z⟩, ?_⟩
  rintro m σ H ⟨rfl, L, hI, z⟩
  refine hs σ L hI H z _ fun b L1 H1 k z1 => ?_
  cases b with
  | true =>
    have k : Ws g L1 t1 σ _ := k
    have kk : ∀ σ' L' H', (μ σ' < μ σ ∧ ∃ L2, L2 <+: L' ∧ I σ' L2) → At g L' H' → μ σ' < μ σ ∧ ∃ L, I σ' L ∧ At g L H' := fun σ' L' H' ⟨hm, L2, hp, hi⟩ z' => ⟨hm, L2, hi, z'.pre hp⟩
    exact ⟨fun σ' H' => μ σ' < μ σ ∧ ∃ L, I σ' L ∧ At g L H', fun σ' H' ⟨hm, q⟩ => ⟨_, hm, rfl, q⟩, k H1 z1 { D with nx := fun σ' H' => μ σ' < μ σ ∧ ∃ L, I σ' L ∧ At g L H', ct := fun σ' H' => μ σ' < μ σ ∧ ∃ L, I σ' L ∧ At g L H', bk := D.nx } ⟨kk, e.rt, e.nx, kk⟩⟩
  | false => exact e.nx _ _ _ k z1
/-- while: a word with its measure -/
theorem ws_whileN (I : Nat → St → Led → Prop) (h0 : ∃ m, I m σ L)
    (hs : ∀ m σ L, I m σ L → Wp g L (cT σ) fun b L1 => if b = true then Ws g L1 t1 σ { K with nx := fun σ' L' => ∃ m' L2, m' < m ∧ I m' σ' L2 ∧ L2 <+: L', ct := fun σ' L' => ∃ m' L2, m' < m ∧ I m' σ' L2 ∧ L2 <+: L', bk := K.nx } else K.nx σ L1) :
    Ws g L (tWhile cT t1) σ K := fun H z D e => by
  obtain ⟨m, h0⟩ := h0
  refine ⟨fun m σ H => ∃ L, I m σ L ∧ At g L H, ⟨m, L, h0, z⟩, ?_⟩
  rintro m σ H ⟨L, hI, z⟩
  refine hs m σ L hI H z _ fun b L1 H1 k z1 => ?_
  cases b with
  | true =>
    have k : Ws g L1 t1 σ _ := k
    have kk : ∀ σ' L' H', (∃ m' L2, m' < m ∧ I m' σ' L2 ∧ L2 <+: L') → At g L' H' → ∃ m', m' < m ∧ ∃ L, I m' σ' L ∧ At g L H' := fun σ' L' H' ⟨m', L2, hm, hi, hp⟩ z' => ⟨m', hm, L2, hi, z'.pre hp⟩
    exact ⟨fun σ' H' => ∃ m', m' < m ∧ ∃ L, I m' σ' L ∧ At g L H', fun σ' H' q => q, k H1 z1 { D with nx := fun σ' H' => ∃ m', m' < m ∧ ∃ L, I m' σ' L ∧ At g L H', ct := fun σ' H' => ∃ m', m' < m ∧ ∃ L, I m' σ' L ∧ At g L H', bk := D.nx } ⟨kk, e.rt, e.nx, kk⟩⟩
  | false => exact e.nx _ _ _ k z1
/-- for over range(n), range(lo, hi) -/
def WFor (g : Gr) (L : Led) (J : It) (tg : TG) (tb : TS) (σ : St) (K : Ks) : Prop := ∀ H, At g L H → ∀ D, Eo g K D → ∃ W : Nat → Nat → St → Hp → Prop, (∃ m, W 0 m σ H) ∧ ∀ i m σ H, W i m σ H →
  (J.stop i H ∧ D.nx σ H) ∨ (J.go i H ∧ ∃ N : St → Hp → Prop, (∀ σ' H', N σ' H' → ∃ m', m' < m ∧ W (i + 1) m' σ' H') ∧ ∀ x H', J.yld i H x H' → tg x σ H' fun σ2 H2 => tb { D with nx := N, ct := N, bk := D.nx } σ2 H2)
theorem ws_for {wi : TI} {tg : TG} {tb : TS} (h : Wp g L (wi σ) fun J L1 => WFor g L1 J tg tb σ K) : Ws g L (tFor wi tg tb) σ K := fun H z D e => h H z _ fun J L1 H1 k z1 => k H1 z1 D e
variable {T : It → Led → Prop}
theorem wi_list {Kf : PySem.W.Frag} {tl : TE} (h : Wp g L (tl σ) fun x L1 => ∃ (a : Addr) (xs : List V), x = .ref a ∧ Seen Kf g L1 a xs ∧ T (Itl Kf a) L1) : Wp g L (iList Kf tl σ) T :=
  fun H z Q q => h H z _ fun x L1 H1 ⟨a, xs, e, s, k⟩ z1 => ⟨a, e, ⟨xs, s.at_ H1 z1⟩, q _ _ _ k z1⟩
theorem wi_rng1 (h : Wp g L (tr σ) fun vs L1 => ∃ n : Int, vs = [.int n] ∧ -1000000 ≤ n ∧ n ≤ 1000000 ∧ T (Itr 0 n.toNat) L1) : Wp g L (iRng1 tr σ) T :=
  fun H z Q q => h H z _ fun vs L1 H1 ⟨n, e, h0, h1, k⟩ z1 => ⟨n, e, by omega, by omega, q _ _ _ k z1⟩
theorem wi_rngW1 (h : Wp g L (tr σ) fun vs L1 => ∃ n : Int, vs = [.int n] ∧ T (Itr 0 n.toNat) L1) : Wp g L (iRngW1 tr σ) T :=
  fun H z Q q => h H z _ fun vs L1 H1 ⟨n, e, k⟩ z1 => ⟨n, e, q _ _ _ k z1⟩
theorem wi_rngW2 (h : Wp g L (tr σ) fun vs L1 => ∃ m n : Int, vs = [.int m, .int n] ∧ T (Itr m (n - m).toNat) L1) : Wp g L (iRngW tr σ) T :=
  fun H z Q q => h H z _ fun vs L1 H1 ⟨m, n, e, k⟩ z1 => ⟨m, n, e, q _ _ _ k z1⟩
theorem wi_rng2 (h : Wp g L (tr σ) fun vs L1 => ∃ m n : Int, vs = [.int m, .int n] ∧ (-(2 ^ 62) ≤ m ∧ m < 2 ^ 62 ∧ -(2 ^ 62) ≤ n ∧ n < 2 ^ 62) ∧ T (Itr m (n - m).toNat) L1) : Wp g L (iRng2 tr σ) T :=
  fun H z Q q => h H z _ fun vs L1 H1 ⟨m, n, e, hb, k⟩ z1 => ⟨m, n, e, hb, q _ _ _ k z1⟩
/-- the turns of a for over a list that stands still -/
theorem wf_list {Kf : PySem.W.Frag} {a : Addr} {xs : List V} {tg : TG} {tb : TS} (s0 : Seen Kf g L a xs) (I : Nat → St → Led → Prop) (h0 : I 0 σ L) (hl : ∀ i σ L, i ≤ xs.length → I i σ L → Seen Kf g L a xs)
    (hs : ∀ i x σ L, xs[i]? = some x → I i σ L → Wg g L tg x σ fun σ2 L2 => Ws g L2 tb σ2 { K with nx := fun σ' L' => ∃ L3, I (i + 1) σ' L3 ∧ L3 <+: L', ct := fun σ' L' => ∃ L3, I (i + 1) σ' L3 ∧ L3 <+: L', bk := K.nx })
    (hd : ∀ σ L, I xs.length σ L → K.nx σ L) : WFor g L (Itl Kf a) tg tb σ K := fun H z D e => by
  refine for_list (K := Kf) (a := a) (xs := xs) (fun i σ H => ∃ L, I i σ L ∧ At g L H) ⟨L, h0, z⟩ (fun i σ H hi ⟨L, k, z⟩ => (hl i σ L hi k).at_ H z) ?_ fun σ H ⟨L, k, z⟩ => e.nx _ _ _ (hd σ L k) z
  rintro i x σ H hx ⟨L, k, z⟩
  refine hs i x σ L hx k H z _ fun σ2 L2 H2 k2 z2 => ?_
  have kk : ∀ σ' L' H', (∃ L3, I (i + 1) σ' L3 ∧ L3 <+: L') → At g L' H' → ∃ L, I (i + 1) σ' L ∧ At g L H' := fun σ' L' H' ⟨L3, hi, hp⟩ z' => ⟨L3, hi, z'.pre hp⟩
  exact k2 H2 z2 _ ⟨kk, e.rt, e.nx, kk⟩
theorem wf_rng {lo : Int} {n : Nat} {tg : TG} {tb : TS} (I : Nat → St → Led → Prop) (h0 : I 0 σ L)
    (hs : ∀ i σ L, i < n → I i σ L → Wg g L tg (.int (lo + i)) σ fun σ2 L2 => Ws g L2 tb σ2 { K with nx := fun σ' L' => ∃ L3, I (i + 1) σ' L3 ∧ L3 <+: L', ct := fun σ' L' => ∃ L3, I (i + 1) σ' L3 ∧ L3 <+: L', bk := K.nx })
    (hd : ∀ σ L, I n σ L → K.nx σ L) : WFor g L (Itr lo n) tg tb σ K := fun H z D e => by
  refine for_range (lo := lo) (n := n) (fun i σ H => ∃ L, I i σ L ∧ At g L H) ⟨L, h0, z⟩ ?_ fun σ H ⟨L, k, z⟩ => e.nx _ _ _ (hd σ L k) z
  rintro i σ H hx ⟨L, k, z⟩
  refine hs i σ L hx k H z _ fun σ2 L2 H2 k2 z2 => ?_
  have kk : ∀ σ' L' H', (∃ L3, I (i + 1) σ' L3 ∧ L3 <+: L') → At g L' H' → ∃ L, I (i + 1) σ' L ∧ At g L H' := fun σ' L' H' ⟨L3, hi, hp⟩ z' => ⟨L3, hi, z'.pre hp⟩
  exact k2 H2 z2 _ ⟨kk, e.rt, e.nx, kk⟩
end

/-! ### loops by the slots that they store; the ledger as at the start, a source's draws counted -/
def putA : St → List (Option (Option V)) → St
  | s :: σ, none :: ms => s :: putA σ ms
  | _ :: σ, some v :: ms => v :: putA σ ms
  | σ, _ => σ
section
variable {g : Gr} {L : Led} {σ : St} {K : Ks} {t1 : TS} {cT : TT} {tg : TG} {tb : TS}
theorem wf_rngS {lo : Int} {n : Nat} (I : Nat → List (Option (Option V)) → Prop) (h0 : ∃ vs, σ = putA σ vs ∧ I 0 vs)
    (hs : ∀ (i : Nat) (x : Int) vs, i < n → x = lo + i → I i vs → Wg g L tg (.int x) (putA σ vs) fun σ2 L2 => Ws g L2 tb σ2 { K with nx := fun σ' L' => ∃ vs', (σ' = putA σ vs' ∧ I (i + 1) vs') ∧ L <+: L', ct := fun σ' L' => ∃ vs', (σ' = putA σ vs' ∧ I (i + 1) vs') ∧ L <+: L', bk := K.nx })
    (hd : ∀ vs, I n vs → K.nx (putA σ vs) L) : WFor g L (Itr lo n) tg tb σ K := by
  refine wf_rng (fun i σ' L' => ∃ vs, (σ' = putA σ vs ∧ I i vs) ∧ L' = L) (by obtain ⟨vs, h1, h2⟩ := h0; exact ⟨vs, ⟨h1, h2⟩, rfl⟩) ?_ ?_
  · rintro i σ' L' hi ⟨vs, ⟨rfl, k⟩, rfl⟩
    intro H z Q q
    refine hs i _ vs hi rfl k H z Q fun σ2 L2 H2 k2 z2 => q σ2 L2 H2 ?_ z2
    intro H3 z3 D e
    have kk : ∀ σ' L'' H', (∃ vs', (σ' = putA σ vs' ∧ I (i + 1) vs') ∧ L' <+: L'') → At g L'' H' → D.nx σ' H' := fun σ' L'' H' ⟨vs', h1, h2⟩ z' => e.nx σ' L'' H' ⟨L', ⟨vs', h1, rfl⟩, h2⟩ z'
    have kc : ∀ σ' L'' H', (∃ vs', (σ' = putA σ vs' ∧ I (i + 1) vs') ∧ L' <+: L'') → At g L'' H' → D.ct σ' H' := fun σ' L'' H' ⟨vs', h1, h2⟩ z' => e.ct σ' L'' H' ⟨L', ⟨vs', h1, rfl⟩, h2⟩ z'
    exact k2 H3 z3 D ⟨kk, e.rt, e.bk, kc⟩
  · rintro σ' L' ⟨vs, ⟨rfl, k⟩, rfl⟩
    exact hd vs k
theorem wf_listS {Kf : PySem.W.Frag} {a : Addr} {xs : List V} (s0 : Seen Kf g L a xs) (I : Nat → List (Option (Option V)) → Prop) (h0 : ∃ vs, σ = putA σ vs ∧ I 0 vs)
    (hs : ∀ i x vs, xs[i]? = some x → I i vs → Wg g L tg x (putA σ vs) fun σ2 L2 => Ws g L2 tb σ2 { K with nx := fun σ' L' => ∃ vs', (σ' = putA σ vs' ∧ I (i + 1) vs') ∧ L <+: L', ct := fun σ' L' => ∃ vs', (σ' = putA σ vs' ∧ I (i + 1) vs') ∧ L <+: L', bk := K.nx })
    (hd : ∀ vs, I xs.length vs → K.nx (putA σ vs) L) : WFor g L (Itl Kf a) tg tb σ K := by
  refine wf_list s0 (fun i σ' L' => ∃ vs, (σ' = putA σ vs ∧ I i vs) ∧ L' = L) (by obtain ⟨vs, h1, h2⟩ := h0; exact ⟨vs, ⟨h1, h2⟩, rfl⟩) (fun i σ' L' _ ⟨vs, _, e⟩ => e ▸ s0) ?_ ?_
  · rintro i x σ' L' hi ⟨vs, ⟨rfl, k⟩, rfl⟩
    intro H z Q q
    refine hs i x vs hi k H z Q fun σ2 L2 H2 k2 z2 => q σ2 L2 H2 ?_ z2
    intro H3 z3 D e
    have kk : ∀ σ' L'' H', (∃ vs', (σ' = putA σ vs' ∧ I (i + 1) vs') ∧ L' <+: L'') → At g L'' H' → D.nx σ' H' := fun σ' L'' H' ⟨vs', h1, h2⟩ z' => e.nx σ' L'' H' ⟨L', ⟨vs', h1, rfl⟩, h2⟩ z'
    have kc : ∀ σ' L'' H', (∃ vs', (σ' = putA σ vs' ∧ I (i + 1) vs') ∧ L' <+: L'') → At g L'' H' → D.ct σ' H' := fun σ' L'' H' ⟨vs', h1, h2⟩ z' => e.ct σ' L'' H' ⟨L', ⟨vs', h1, rfl⟩, h2⟩ z'
    exact k2 H3 z3 D ⟨kk, e.rt, e.bk, kc⟩
  · rintro σ' L' ⟨vs, ⟨rfl, k⟩, rfl⟩
    exact hd vs k
theorem ws_whileS (I : Nat → List (Option (Option V)) → Prop) (h0 : ∃ m vs, σ = putA σ vs ∧ I m vs)
    (hs : ∀ m vs, I m vs → Wp g L (cT (putA σ vs)) fun b L1 => if b = true then Ws g L1 t1 (putA σ vs) { K with nx := fun σ' L' => ∃ m' vs', m' < m ∧ (σ' = putA σ vs' ∧ I m' vs') ∧ L <+: L', ct := fun σ' L' => ∃ m' vs', m' < m ∧ (σ' = putA σ vs' ∧ I m' vs') ∧ L <+: L', bk := K.nx } else K.nx (putA σ vs) L1) :
    Ws g L (tWhile cT t1) σ K := by
  obtain ⟨m0, vs0, h1, h2⟩ := h0
  refine ws_whileN (fun m σ' L' => ∃ vs, (σ' = putA σ vs ∧ I m vs) ∧ L' = L) ⟨m0, vs0, ⟨h1, h2⟩, rfl⟩ ?_
  rintro m σ' L' ⟨vs, ⟨rfl, k⟩, rfl⟩
  refine (hs m vs k).mono fun b L1 q => ?_
  cases b with
  | true =>
    have q : Ws g L1 t1 _ _ := q
    show Ws g L1 t1 _ _
    intro H3 z3 D e
    have kk : ∀ σ' L'' H', (∃ m' vs', m' < m ∧ (σ' = putA σ vs' ∧ I m' vs') ∧ L' <+: L'') → At g L'' H' → D.nx σ' H' := fun σ' L'' H' ⟨m', vs', h0, h1, h2⟩ z' => e.nx σ' L'' H' ⟨m', L', h0, ⟨vs', h1, rfl⟩, h2⟩ z'
    have kc : ∀ σ' L'' H', (∃ m' vs', m' < m ∧ (σ' = putA σ vs' ∧ I m' vs') ∧ L' <+: L'') → At g L'' H' → D.ct σ' H' := fun σ' L'' H' ⟨m', vs', h0, h1, h2⟩ z' => e.ct σ' L'' H' ⟨m', L', h0, ⟨vs', h1, rfl⟩, h2⟩ z'
    exact q H3 z3 D ⟨kk, e.rt, e.bk, kc⟩
  | false => exact q
end
/-! ### small words for tests -/
theorem ifB {b : Bool} {A B : Prop} (h1 : b = true → A) (h2 : b = false → B) : if b = true then A else B := by
  cases b with
  | true => exact h1 rfl
  | false => exact (show B from h2 rfl)
theorem ifD {c : Prop} [Decidable c] {A B : Prop} (h1 : c → A) (h2 : ¬ c → B) : if decide c = true then A else B := by
  by_cases h : c
  · rw [decide_eq_true h]
    exact h1 h
  · rw [decide_eq_false h]
    exact (show B from h2 h)
theorem ifN {c : Prop} [Decidable c] {A B : Prop} (h1 : ¬ c → A) (h2 : c → B) : if (!decide c) = true then A else B := by
  by_cases h : c
  · rw [decide_eq_true h]
    exact (show B from h2 h)
  · rw [decide_eq_false h]
    exact (show A from h1 h)
theorem ifT {b : Bool} {A B : Prop} (e : b = true) (h : A) : if b = true then A else B := by
  rw [if_pos e]
  exact h
theorem ifF {b : Bool} {A B : Prop} (e : b = false) (h : B) : if b = true then A else B := by
  rw [e]
  exact (show B from h)
section
variable {g : Gr} {L : Led} {σ : St} {B : Bool → Led → Prop} {t u : TT} {C : V → Led → Prop} {ta tb : TE} 
theorem andK {P Q : Bool → Prop} {b2 : Bool} (h1 : P b2) (h2 : Q b2) : ∃ b2, P b2 ∧ Q b2 := ⟨b2, h1, h2⟩
/-- and, or whose second part is known -/
theorem wt_andP (h : Wp g L (t σ) fun b L1 => ∃ b2, (b = true → Wp g L1 (u σ) fun c L2 => c = b2 ∧ L2 = L1) ∧ B (b && b2) L1) : Wp g L (tAnd t u σ) B := wt_and (h.mono fun b L1 ⟨b2, k⟩ => by
  cases b with
  | true =>
    refine (k.1 rfl).mono fun c L2 z => ?_
    rw [z.1, z.2]
    exact k.2
  | false => exact k.2)
theorem wt_orP (h : Wp g L (t σ) fun b L1 => ∃ b2, (b = false → Wp g L1 (u σ) fun c L2 => c = b2 ∧ L2 = L1) ∧ B (b || b2) L1) : Wp g L (tOr t u σ) B := wt_or (h.mono fun b L1 ⟨b2, k⟩ => by
  cases b with
  | true => exact k.2
  | false =>
    refine (k.1 rfl).mono fun c L2 z => ?_
    rw [z.1, z.2]
    exact k.2)
theorem wp_andVP (h : Wp g L (ta σ) fun x L1 => ∃ b, x = .bl b ∧ ∃ b2, (b = true → Wp g L1 (tb σ) fun c L2 => c = .bl b2 ∧ L2 = L1) ∧ C (.bl (b && b2)) L1) : Wp g L (tAndV ta tb σ) C := wp_andV (h.mono fun x L1 ⟨b, e, b2, k⟩ => ⟨b, e, by
  cases b with
  | true =>
    refine (k.1 rfl).mono fun c L2 z => ?_
    rw [z.1, z.2]
    exact k.2
  | false => exact k.2⟩)
theorem wp_orVP (h : Wp g L (ta σ) fun x L1 => ∃ b, x = .bl b ∧ ∃ b2, (b = false → Wp g L1 (tb σ) fun c L2 => c = .bl b2 ∧ L2 = L1) ∧ C (.bl (b || b2)) L1) : Wp g L (tOrV ta tb σ) C := wp_orV (h.mono fun x L1 ⟨b, e, b2, k⟩ => ⟨b, e, by
  cases b with
  | true => exact k.2
  | false =>
    refine (k.1 rfl).mono fun c L2 z => ?_
    rw [z.1, z.2]
    exact k.2⟩)
theorem wp_chainP {r r' : R2} {tc : TE} (h : Wp g L (ta σ) fun x L1 => Wp g L1 (tb σ) fun y L2 => Wp g L2 (r x y) fun z L3 => ∃ b, z = .bl b ∧ ∃ b2, (b = true → Wp g L3 (tc σ) fun w L4 => Wp g L4 (r' y w) fun c L5 => c = .bl b2 ∧ L5 = L3) ∧ C (.bl (b && b2)) L3) : Wp g L (tChain r r' ta tb tc σ) C :=
  wp_chain (h.mono fun x L1 k1 => k1.mono fun y L2 k2 => k2.mono fun z L3 ⟨b, e, b2, k⟩ => ⟨b, e, by
    cases b with
    | true =>
      refine (k.1 rfl).mono fun w L4 k4 => k4.mono fun c L5 z => ?_
      rw [z.1, z.2]
      exact k.2
    | false => exact k.2⟩)
end

/-! ### defs of the top, methods, classes -/
structure TopFn (K : PySem.W.Frag) (mg : Str → Option Value) (x : Str) (st : Stmt) : Prop where
  ex : ∃ f fd, mg x = some (.ref f) ∧ Fun K x x st f fd
structure MethFn (K : PySem.W.Frag) (C : Addr) (m qual : Str) (st : Stmt) : Prop where
  ex : ∃ f fd, Meth K C m f ∧ Fun K m qual st f fd
structure InitFn (K : PySem.W.Frag) (mg : Str → Option Value) (x : Str) (C : Addr) (qual : Str) (st : Stmt) : Prop where
  mg : mg x = some (.ref C)
  ex : ∃ f fd, Mk K C f ∧ Fun K "__init__" qual st f fd
structure Ok (P : Program) (w : World) (K : PySem.W.Frag) (mg : Str → Option Value) (base : Heap) (k : Nat) (x : Str) (st : Stmt) (ps : List Str) (sp : Sp) : Prop where
  ex : ∃ f fd, mg x = some (.ref f) ∧ Fun K x x st f fd ∧ Binds K fd ps [] ∧ FnOk P w K mg base CX0 k f fd ps sp
structure OkM (P : Program) (w : World) (K : PySem.W.Frag) (mg : Str → Option Value) (base : Heap) (C : Addr) (k : Nat) (m qual : Str) (st : Stmt) (ps : List Str) (sp : Sp) : Prop where
  ex : ∃ f fd, Meth K C m f ∧ Fun K m qual st f fd ∧ Binds K fd ps [] ∧ FnOk P w K mg base CX0 k f fd ps sp
structure OkC (P : Program) (w : World) (K : PySem.W.Frag) (mg : Str → Option Value) (base : Heap) (x : Str) (C : Addr) (k : Nat) (qual : Str) (st : Stmt) (ps : List Str) (sp : Sp) : Prop where
  ex : ∃ f fd, mg x = some (.ref C) ∧ Mk K C f ∧ Fun K "__init__" qual st f fd ∧ Binds K fd ps [] ∧ FnOk P w K mg base CX0 k f fd ps sp
section
variable {P : Program} {w : World} {K : PySem.W.Frag} {mg : Str → Option Value} {base : Heap}
abbrev BodyOk (P : Program) (w : World) (K : PySem.W.Frag) (mg : Str → Option Value) (base : Heap) (qual : Str) (st : Stmt) (N : List Str) (k : Nat) (sp : Sp) : Prop :=
  ∀ (f : Addr) (cdv : Value) (A : Around) (outer : List Env) (s : Shared) (H : Hp) (vs : List V) (Q : VK) (E : XK), Room k (A.deeper (PyProof.Rows.envOfC qual (defScope st) s.heap.objs.size f cdv)) → sp vs H Q E →
      ∃ t, PSs (cxOf CX0 P w K mg base N qual (defScope st) f cdv A outer s H E).nox (defBody st) t ∧ t { nx := fun _ H' => Q .non H', rt := Q } (start N vs) H
theorem Ok.of {x : Str} {st : Stmt} {N ps : List Str} {k : Nat} {sp : Sp} (T : TopFn K mg x st) (S : FnScope N ps (defScope st))
    (hb : ∀ (kV doc pm : Value) (an : Option Addr) (cdv ct : Value) (us : List Value), us.length = ps.length → bindArgs (PySem.W.fnOf x x (defArgs st) (defBody st) (defScope st) .none kV doc pm an cdv ct) ⟨us, []⟩ = pure (ps.zip us))
    (len : ∀ vs H Q E, sp vs H Q E → vs.length = ps.length) (body : BodyOk P w K mg base x st N k sp) : Ok P w K mg base (k + 1) x st ps sp := by
  obtain ⟨f, fd, h1, F⟩ := T.ex
  exact ⟨f, fd, h1, F, F.binds hb, F.ok S len (body f)⟩
theorem OkM.of {C : Addr} {m qual : Str} {st : Stmt} {N ps : List Str} {k : Nat} {sp : Sp} (T : MethFn K C m qual st) (S : FnScope N ps (defScope st))
    (hb : ∀ (kV doc pm : Value) (an : Option Addr) (cdv ct : Value) (us : List Value), us.length = ps.length → bindArgs (PySem.W.fnOf m qual (defArgs st) (defBody st) (defScope st) .none kV doc pm an cdv ct) ⟨us, []⟩ = pure (ps.zip us))
    (len : ∀ vs H Q E, sp vs H Q E → vs.length = ps.length) (body : BodyOk P w K mg base qual st N k sp) : OkM P w K mg base C (k + 1) m qual st ps sp := by
  obtain ⟨f, fd, h1, F⟩ := T.ex
  exact ⟨f, fd, h1, F, F.binds hb, F.ok S len (body f)⟩
theorem OkC.of {C : Addr} {x qual : Str} {st : Stmt} {N ps : List Str} {k : Nat} {sp : Sp} (T : InitFn K mg x C qual st) (S : FnScope N ps (defScope st))
    (hb : ∀ (kV doc pm : Value) (an : Option Addr) (cdv ct : Value) (us : List Value), us.length = ps.length → bindArgs (PySem.W.fnOf "__init__" qual (defArgs st) (defBody st) (defScope st) .none kV doc pm an cdv ct) ⟨us, []⟩ = pure (ps.zip us))
    (len : ∀ vs H Q E, sp vs H Q E → vs.length = ps.length) (body : BodyOk P w K mg base qual st N k sp) : OkC P w K mg base x C (k + 1) qual st ps sp := by
  obtain ⟨f, fd, h1, F⟩ := T.ex
  exact ⟨f, fd, T.mg, h1, F, F.binds hb, F.ok S len (body f)⟩
/-- what the top has written -/
theorem topFn_mk {h : Heap} {x : Str} {st : Stmt} {f : Addr} {oc : Value} {od an : Option Addr} {osl : Array (Option Value)} {kV doc pm cdv ct : Value} (X : K.In h) (G : h.Ns mainGlobals mg) (a : PySem.W.nsIn K mainGlobals x = some (some (.ref f)))
    (l : K.lookup f = some ⟨oc, od, .func (PySem.W.fnOf x x (defArgs st) (defBody st) (defScope st) .none kV doc pm an cdv ct), osl⟩) (c : PySem.W.codeIn K cdv x = true) (k : PySem.W.keepIn K (.ref f) = true) : TopFn K mg x st :=
  ⟨f, _, PySem.W.mg_of X G a, fun_mk l c k⟩
theorem methFn_mk {C : Addr} {m qual : Str} {st : Stmt} {f : Addr} {oc : Value} {od an : Option Addr} {osl : Array (Option Value)} {kV doc pm cdv ct : Value} (a : PySem.W.findIn K (.ref C) m = some (some (.ref f))) (i : PySem.W.isFn K (.ref f) = true)
    (l : K.lookup f = some ⟨oc, od, .func (PySem.W.fnOf m qual (defArgs st) (defBody st) (defScope st) .none kV doc pm an cdv ct), osl⟩) (c : PySem.W.codeIn K cdv qual = true) (k : PySem.W.keepIn K (.ref f) = true) : MethFn K C m qual st :=
  ⟨f, _, ⟨a, i, k⟩, fun_mk l c k⟩
theorem initFn_mk {x : Str} {C : Addr} {qual : Str} {st : Stmt} {f : Addr} {oc : Value} {od an : Option Addr} {osl : Array (Option Value)} {kV doc pm cdv ct : Value} (hm : mg x = some (.ref C)) (mk : PySem.W.makesIn K C = true) (kc : PySem.W.keepIn K (.ref C) = true)
    (a : PySem.W.findIn K (.ref C) "__init__" = some (some (.ref f))) (i : PySem.W.isFn K (.ref f) = true)
    (l : K.lookup f = some ⟨oc, od, .func (PySem.W.fnOf "__init__" qual (defArgs st) (defBody st) (defScope st) .none kV doc pm an cdv ct), osl⟩) (c : PySem.W.codeIn K cdv qual = true) (k : PySem.W.keepIn K (.ref f) = true) : InitFn K mg x C qual st :=
  ⟨hm, f, _, ⟨mk, a, i, kc⟩, fun_mk l c k⟩
end
-- the rules of a derivation
section
variable {X : Cx} {k : Nat} {x m : Str} {ps : List Str} {sp : Sp} {p pos apos : Pos} {e o : Expr} {es : List Expr} {t : TA} {ta : TE} {C : Addr} {st : Stmt} {qual : Str}
theorem pe_own (O : Ok X.prog X.w X.K X.mg X.base k x st ps sp) (hr : Room k X.A) (hg : Gl X x) (ha : PA X (e :: es) t) (hdb : (x == ("__debug__" : Str)) = false := by decide) (he : starEach (e :: es) X.env = (false, eval e X.env) :: starEach es X.env := by rfl) (hpl : (backTo pos (starEach es X.env)).any (·.1) = false := by rfl) :
    PE X (.Call (.Name x p) (e :: es) [] pos) (tCall sp [] E0 t) := by
  obtain ⟨f, fd, h1, h2, h3, F⟩ := O.ex
  exact pe_call F hr hg h1 h2.kp h3 .nil pass0 ha hdb he hpl
theorem pe_own0 (O : Ok X.prog X.w X.K X.mg X.base k x st ps sp) (hr : Room k X.A) (hg : Gl X x) (hdb : (x == ("__debug__" : Str)) = false := by decide) : PE X (.Call (.Name x p) [] [] pos) (tCall sp [] E0 tNil) := by
  obtain ⟨f, fd, h1, h2, h3, F⟩ := O.ex
  exact pe_call0 F hr hg h1 h2.kp h3 .nil pass0 hdb
theorem pe_om {pl : Sem Bool} (c : Cls X.K C) (O : OkM X.prog X.w X.K X.mg X.base C k m qual st ps sp) (hr : Room k X.A) (ho : PE X o ta) (ha : PA X (e :: es) t)
    (hst : starEach (e :: es) X.env = (false, eval e X.env) :: starEach es X.env := by rfl) (hpl : (backTo pos (starEach es X.env)).any (·.1) = false := by rfl)
    (ht : eval (.Call (.Attribute o m apos) (e :: es) [] pos) X.env = (do
      let ov ← eval o X.env
      standAt apos.atName
      let (f, first) ← holding [ov] (getMethod ov m pl)
      callWith pos f first (backTo pos (starEach (e :: es) X.env)) (backToKw pos (keywordEach [] X.env))) := by rfl) :
    PE X (.Call (.Attribute o m apos) (e :: es) [] pos) (tMeth C m sp [] E0 ta t) := by
  obtain ⟨f, fd, h1, _, h3, F⟩ := O.ex
  exact pe_meth ho c h1 F hr h3 .nil pass0 ha hst hpl ht
theorem pe_om0 {pl : Sem Bool} (c : Cls X.K C) (O : OkM X.prog X.w X.K X.mg X.base C k m qual st ps sp) (hr : Room k X.A) (ho : PE X o ta)
    (ht : eval (.Call (.Attribute o m apos) [] [] pos) X.env = (do
      let ov ← eval o X.env
      standAt apos.atName
      let (f, first) ← holding [ov] (getMethod ov m pl)
      callWith pos f first (backTo pos (starEach [] X.env)) (backToKw pos (keywordEach [] X.env))) := by rfl) :
    PE X (.Call (.Attribute o m apos) [] [] pos) (tMeth C m sp [] E0 ta tNil) := by
  obtain ⟨f, fd, h1, _, h3, F⟩ := O.ex
  exact pe_meth0 ho c h1 F hr h3 .nil pass0 ht
theorem pe_oc (O : OkC X.prog X.w X.K X.mg X.base x C k qual st ps sp) (hr : Room (k + 1) X.A) (hg : Gl X x) (ha : PA X (e :: es) t) (hdb : (x == ("__debug__" : Str)) = false := by decide) (he : starEach (e :: es) X.env = (false, eval e X.env) :: starEach es X.env := by rfl) (hpl : (backTo pos (starEach es X.env)).any (·.1) = false := by rfl) :
    PE X (.Call (.Name x p) (e :: es) [] pos) (tMake C sp [] E0 t) := by
  obtain ⟨f, fd, h1, h2, _, h3, F⟩ := O.ex
  exact pe_make h2 F hr hg h1 h3 .nil pass0 ha hdb he hpl
/-! calls by keywords alone: perm tells for each parameter the place of its keyword -/
def pick {α : Type} (perm : List Nat) (ws : List α) : List α := perm.filterMap fun i => ws[i]?
theorem pick_vals {zs : List V} {ws : List Value} (r : Vals zs ws) : ∀ perm : List Nat, Vals (pick perm zs) (pick perm ws)
  | [] => .nil
  | i :: q => by
    have ih := pick_vals r q
    unfold pick at *
    rw [List.filterMap_cons, List.filterMap_cons]
    cases h : zs[i]? with
    | none =>
      rw [r.none_of h]
      exact ih
    | some x =>
      obtain ⟨u, h1, h2⟩ := r.get h
      rw [h1]
      exact .cons h2 ih
def tKw (sp : Sp) (perm : List Nat) (m : Nat) (E : XK) (tk : TA) : TE := fun σ H Q => tk σ H fun zs H1 => zs.length = m ∧ sp (pick perm zs) H1 Q E
def tKwM (C : Addr) (m : Str) (sp : Sp) (perm : List Nat) (n : Nat) (E : XK) (ta : TE) (tk : TA) : TE := fun σ H Q => ta σ H fun x H1 => ∃ a dx fs, x = .ref a ∧ H1 a = some (.ins C dx fs) ∧ fs.lookup m = none ∧ tk σ H1 fun zs H2 => zs.length = n ∧ sp (.ref a :: pick perm zs) H2 Q E
def tKwC (C : Addr) (sp : Sp) (perm : List Nat) (n : Nat) (E : XK) (tk : TA) : TE := fun σ H Q => tk σ H fun zs H1 => zs.length = n ∧ ∀ x dx, H1 x = none → H1 dx = none → dx ≠ x →
  sp (.ref x :: pick perm zs) (upd (upd H1 dx (.own x)) x (.ins C dx [])) (fun v H2 => v = .non ∧ Q (.ref x) H2) E
variable {kws : List Keyword} {tk : TA} {ks : List Str}
theorem pe_kw (perm : List Nat) (O : Ok X.prog X.w X.K X.mg X.base k x st ps sp) (hr : Room k X.A) (hg : Gl X x) (hkw : PK X kws tk)
    (hb : ∀ (kV doc pm : Value) (an : Option Addr) (cdv ct : Value) (ws : List Value), ws.length = ks.length → bindArgs (PySem.W.fnOf x x (defArgs st) (defBody st) (defScope st) .none kV doc pm an cdv ct) ⟨[], ks.zip ws⟩ = pure (ps.zip (pick perm ws)))
    (hall : (backToKw pos (keywordEach kws X.env)).all (·.1.isSome) = true := by rfl) (hks : (backToKw pos (keywordEach kws X.env)).filterMap (·.1) = ks := by rfl) (hdb : (x == ("__debug__" : Str)) = false := by decide)
    (hpl : ((backTo pos (starEach [] X.env)).any (·.1) || (backToKw pos (keywordEach kws X.env)).any (·.1.isNone)) = false := by rfl) : PE X (.Call (.Name x p) [] kws pos) (tKw sp perm ks.length E0 tk) := by
  obtain ⟨f, fd, h1, h2, h3, F⟩ := O.ex
  have kb : KBn X.K fd ps 0 ks (fun us ws => us ++ pick perm ws) (fun vs zs => vs ++ pick perm zs) := by
    obtain ⟨oc, od, kV, doc, pm, an, cdv, ct, osl, rfl, lk, hcd⟩ := h2.ex
    refine ⟨fun s us ws _ l1 l2 => ?_, fun r1 r2 => Vals.append r1 (pick_vals r2 perm)⟩
    have e : us = [] := List.length_eq_zero_iff.mp l1
    subst e
    exact .of_eq (hb kV doc pm an cdv ct ws l2)
  refine ⟨fun pins s σ H Q I h => ?_⟩
  refine wpAny_Call_Name_kw (ld_glob I hg h1 ?_ hdb)
  refine PySem.W.callWith_KW0 (h₀ := X.base) I.ok.mod.kin h2.kp hall (thn (hkw.run pos pins s σ H _ I h) fun ws s2 ⟨zs, H2, I2, rz, l2, q2⟩ => ⟨I2.kIn, ?_⟩) hpl
  rw [hks]
  exact run_fnN (us := []) (vs := []) F hr kb pass0 I2 .nil rz rfl l2 q2
theorem pe_kwM {pl : Sem Bool} (perm : List Nat) (c : Cls X.K C) (O : OkM X.prog X.w X.K X.mg X.base C k m qual st ps sp) (hr : Room k X.A) (ho : PE X o ta) (hkw : PK X kws tk)
    (hb : ∀ (kV doc pm : Value) (an : Option Addr) (cdv ct : Value) (u : Value) (ws : List Value), ws.length = ks.length → bindArgs (PySem.W.fnOf m qual (defArgs st) (defBody st) (defScope st) .none kV doc pm an cdv ct) ⟨[u], ks.zip ws⟩ = pure (ps.zip (u :: pick perm ws)))
    (hall : (backToKw pos (keywordEach kws X.env)).all (·.1.isSome) = true := by rfl) (hks : (backToKw pos (keywordEach kws X.env)).filterMap (·.1) = ks := by rfl)
    (hpl : ((backTo pos (starEach [] X.env)).any (·.1) || (backToKw pos (keywordEach kws X.env)).any (·.1.isNone)) = false := by rfl)
    (ht : eval (.Call (.Attribute o m apos) [] kws pos) X.env = (do
      let ov ← eval o X.env
      standAt apos.atName
      let (f, first) ← holding [ov] (getMethod ov m pl)
      callWith pos f first (backTo pos (starEach [] X.env)) (backToKw pos (keywordEach kws X.env))) := by rfl) : PE X (.Call (.Attribute o m apos) [] kws pos) (tKwM C m sp perm ks.length E0 ta tk) := by
  obtain ⟨f, fd, h1, h2, h3, F⟩ := O.ex
  have kb : KBn X.K fd ps 1 ks (fun us ws => us ++ pick perm ws) (fun vs zs => vs ++ pick perm zs) := by
    obtain ⟨oc, od, kV, doc, pm, an, cdv, ct, osl, rfl, lk, hcd⟩ := h2.ex
    refine ⟨fun s us ws _ l1 l2 => ?_, fun r1 r2 => Vals.append r1 (pick_vals r2 perm)⟩
    match us, l1 with
    | [u], _ => exact .of_eq (hb kV doc pm an cdv ct u ws l2)
  refine ⟨fun pins s σ H Q I h => ?_⟩
  refine PySem.W.methodCall_KW (pl := pl) (thn (ho.run pins s σ H _ I h) fun u s1 ⟨y, H1, I1, rx, a, dx, fs, ex, ea, l, q⟩ => ?_) ht
  subst ex
  obtain rfl : u = Value.ref a := rx
  refine getmeth_ok I1 ea c h1 l ?_
  refine PySem.W.callWith_KW0 (first := [.ref a]) (h₀ := X.base) I.ok.mod.kin h1.kp hall (thn (hkw.run pos pins s1 σ H1 _ I1 q) fun ws s2 ⟨zs, H2, I2, rz, l2, q2⟩ => ⟨I2.kIn, ?_⟩) hpl
  rw [hks]
  exact run_fnN (us := [.ref a]) (vs := [.ref a]) F hr kb pass0 I2 (.cons rfl .nil) rz rfl l2 q2
theorem pe_kwC (perm : List Nat) (O : OkC X.prog X.w X.K X.mg X.base x C k qual st ps sp) (hr : Room (k + 1) X.A) (hg : Gl X x) (hkw : PK X kws tk)
    (hb : ∀ (kV doc pm : Value) (an : Option Addr) (cdv ct : Value) (u : Value) (ws : List Value), ws.length = ks.length → bindArgs (PySem.W.fnOf "__init__" qual (defArgs st) (defBody st) (defScope st) .none kV doc pm an cdv ct) ⟨[u], ks.zip ws⟩ = pure (ps.zip (u :: pick perm ws)))
    (hall : (backToKw pos (keywordEach kws X.env)).all (·.1.isSome) = true := by rfl) (hks : (backToKw pos (keywordEach kws X.env)).filterMap (·.1) = ks := by rfl) (hdb : (x == ("__debug__" : Str)) = false := by decide)
    (hpl : ((backTo pos (starEach [] X.env)).any (·.1) || (backToKw pos (keywordEach kws X.env)).any (·.1.isNone)) = false := by rfl) : PE X (.Call (.Name x p) [] kws pos) (tKwC C sp perm ks.length E0 tk) := by
  obtain ⟨f, fd, h1, M, h2, h3, F⟩ := O.ex
  have kb : KBn X.K fd ps (0 + 1) ks (fun us ws => us ++ pick perm ws) (fun vs zs => vs ++ pick perm zs) := by
    obtain ⟨oc, od, kV, doc, pm, an, cdv, ct, osl, rfl, lk, hcd⟩ := h2.ex
    refine ⟨fun s us ws _ l1 l2 => ?_, fun r1 r2 => Vals.append r1 (pick_vals r2 perm)⟩
    match us, l1 with
    | [u], _ => exact .of_eq (hb kV doc pm an cdv ct u ws l2)
  refine ⟨fun pins s σ H Q I h => ?_⟩
  refine wpAny_Call_Name_kw (ld_glob I hg h1 ?_ hdb)
  refine PySem.W.callWith_KW0 (h₀ := X.base) I.ok.mod.kin M.kp hall (thn (hkw.run pos pins s σ H _ I h) fun ws s2 ⟨zs, H2, I2, rz, l2, q2⟩ => ⟨I2.kIn, ?_⟩) hpl
  rw [hks]
  exact run_makeN (us := []) (vs := []) M F hr kb pass0 I2 .nil rz rfl l2 q2
theorem wp_kw {g : Gr} {L : Led} {σ : St} {D : V → Led → Prop} {perm : List Nat} {n : Nat} {E : XK} (h : Wp g L (tk σ) fun zs L1 => zs.length = n ∧ Wp g L1 (fun H Q => sp (pick perm zs) H Q E) D) : Wp g L (tKw sp perm n E tk σ) D :=
  fun H z Q q => h H z _ fun zs L1 H1 ⟨e, k⟩ z1 => ⟨e, k H1 z1 Q q⟩
theorem wp_kwM {g : Gr} {L : Led} {σ : St} {D : V → Led → Prop} {perm : List Nat} {n : Nat} {E : XK} (i : Nat)
    (h : Wp g L (ta σ) fun x L1 => ∃ (a dx : Addr) (fs : List (Str × V)) (bo : Bool), x = .ref a ∧ L1[i]? = some (a, .ob (.ins C dx fs), bo) ∧ fs.lookup m = none ∧ Wp g L1 (tk σ) fun zs L2 => zs.length = n ∧ Wp g L2 (fun H Q => sp (.ref a :: pick perm zs) H Q E) D) : Wp g L (tKwM C m sp perm n E ta tk σ) D :=
  fun H a' Q q => h H a' _ fun x L1 H1 ⟨a, dx, fs, bo, e, h1, h2, h3⟩ a1 => by
    subst e
    exact ⟨a, dx, fs, rfl, a1.get h1, h2, h3 H1 a1 _ fun zs L2 H2 ⟨e, k2⟩ a2 => ⟨e, k2 H2 a2 Q q⟩⟩
theorem pe_const {n : Int} (hg : Gl X x) (hm : ∃ t, X.mg x = some (.int n t)) (hd : (x == ("__debug__" : Str)) = false := by decide) : PE X (.Name x pos) (tC (.int n)) := by
  obtain ⟨t, h⟩ := hm
  exact pe_glob hg h ⟨t, rfl⟩ hd
theorem pe_tyint (hg : Gl X "int") (hm : X.mg "int" = none) : PE X (.Name "int" pos) (tC (.ty "int")) := pe_bltn hg hm (by decide +kernel) rfl
theorem pe_tybool (hg : Gl X "bool") (hm : X.mg "bool" = none) : PE X (.Name "bool" pos) (tC (.ty "bool")) := pe_bltn hg hm (by decide +kernel) rfl
end
/-! ### from a ledger to a promise -/
section
variable {g : Gr} {L : Led} {H : Hp} {a : Addr} {e : Ent} {o : HO} {b : Bool} {t : TS} {σ : St} {K : Ks} {D : Ends}
theorem run_ws (h : Ws g L t σ K) (z : At g L H) (e : Eo g K D) : t D σ H := h H z D e
theorem at_nil {mu : Addr → Prop} : At ⟨H, mu⟩ [] H := ⟨fun _ _ h _ => h, (fun _ h => nomatch h), (fun _ h => nomatch h), .nil⟩
theorem at_cons (z : At g L H) (h : H a = some o) (he : e.In H o) (hn : a ∉ L.map (·.1)) (ho : b = true → (g.H0 a = none ∨ g.mu a)) : At g ((a, e, b) :: L) H := by
  refine ⟨z.old, fun q hq => ?_, fun q hq hb => ?_, ?_⟩
  · rcases List.mem_cons.mp hq with r | r
    · subst r
      exact ⟨o, h, he⟩
    · exact z.led q r
  · rcases List.mem_cons.mp hq with r | r
    · subst r
      exact ho hb
    · exact z.own q r hb
  · rw [List.pairwise_cons]
    exact ⟨fun q hq ee => absurd (List.mem_map.mpr ⟨q, hq, ee.symm⟩) hn, z.nd⟩
theorem at_one {mu : Addr → Prop} (h : H a = some o) : At ⟨H, mu⟩ [(a, .ob o, false)] H := at_cons at_nil h rfl (by simp) (by simp)
/-- one that is only read, before others that are only read -/
theorem at_consF (z : At g L H) (h : H a = some o) (he : e.In H o) (hn : ∀ q ∈ L, q.2.2 = false) : At g ((a, e, false) :: L) H := by
  refine ⟨z.old, fun q hq => ?_, fun q hq hb => ?_, ?_⟩
  · rcases List.mem_cons.mp hq with r | r
    · subst r
      exact ⟨o, h, he⟩
    · exact z.led q r
  · rcases List.mem_cons.mp hq with r | r
    · subst r
      cases hb
    · exact z.own q r hb
  · rw [List.pairwise_cons]
    exact ⟨fun q hq _ => .inr ⟨rfl, hn q hq⟩, z.nd⟩
theorem at_two {mu : Addr → Prop} {a2 : Addr} {o2 : HO} (h : H a = some o) (h2 : H a2 = some o2) (n : a ≠ a2) : At ⟨H, mu⟩ [(a, .ob o, false), (a2, .ob o2, false)] H := at_cons (at_one h2) h rfl (by simpa using n) (by simp)
theorem At.since {H0 : Hp} (z : At ⟨H0, fun _ => False⟩ L H) : Same H0 H := fun b o h => z.old b o h (fun q => q)
/-- a value that is told -/
def kV (R : V → Prop) : Ks := { nx := fun _ _ => R .non, rt := fun v _ => R v }
theorem eo_V {H0 : Hp} {R : V → Prop} {Q : VK} (h : ∀ v H', R v → Same H0 H' → Q v H') : Eo ⟨H0, fun _ => False⟩ (kV R) { nx := fun _ H' => Q .non H', rt := Q } :=
  ⟨fun σ L H k z => h _ _ k z.since, fun v L H k z => h _ _ k z.since, fun _ _ _ k _ => k.elim, fun _ _ _ k _ => k.elim⟩
/-- None, or a number that is told -/
def kO (A : Prop) (R : Int → Prop) : Ks := { nx := fun _ _ => A, rt := fun v _ => (v = .non ∧ A) ∨ ∃ n, v = .int n ∧ R n }
theorem eo_O {H0 : Hp} {A : Prop} {R : Int → Prop} {Q : VK} (h1 : A → ∀ H', Same H0 H' → Q .non H') (h2 : ∀ n, R n → ∀ H', Same H0 H' → Q (.int n) H') : Eo ⟨H0, fun _ => False⟩ (kO A R) { nx := fun _ H' => Q .non H', rt := Q } :=
  ⟨fun σ L H k z => h1 k _ z.since, fun v L H k z => by
    rcases k with ⟨e, k⟩ | ⟨n, e, k⟩
    · subst e
      exact h1 k _ z.since
    · subst e
      exact h2 n k _ z.since, fun _ _ _ k _ => k.elim, fun _ _ _ k _ => k.elim⟩
/-- a new object, told by a relation -/
def kR (R : HO → Prop) : Ks := { nx := fun _ _ => False, rt := fun v L => ∃ (p : Addr) (i : Nat) (o : HO), v = .ref p ∧ L[i]? = some (p, Ent.ob o, true) ∧ R o }
theorem eo_R {H0 : Hp} {R : HO → Prop} {Q : VK} (h : ∀ p H' o, R o → H0 p = none → Same H0 H' → H' p = some o → Q (.ref p) H') : Eo ⟨H0, fun _ => False⟩ (kR R) { nx := fun _ H' => Q .non H', rt := Q } :=
  ⟨fun _ _ _ k _ => k.elim, fun v L H ⟨p, i, o, e, k, r⟩ z => by
    subst e
    refine h p H o r ?_ z.since (z.get k)
    rcases z.own _ (List.mem_of_getElem? k) rfl with q | q
    · exact q
    · exact q.elim, fun _ _ _ k _ => k.elim, fun _ _ _ k _ => k.elim⟩
/-- what is at a place, by an entry -/
def EntAt (e : Ent) (H : Hp) (a : Addr) : Prop := ∃ o, H a = some o ∧ e.In H o
/-- all but one place -/
def Exc (a : Addr) (H H' : Hp) : Prop := ∀ c o, H c = some o → c ≠ a → H' c = some o
theorem At.draw {i : Nat} {e' : Ent} {H' : Hp} (z : At g L H) (k : L[i]? = some (a, e, true)) (s : Exc a H H') (h : EntAt e' H' a) (hmv : e.mov = true := by rfl) : At g (L.set i (a, e', true)) H' := by
  obtain ⟨o, h1, h2⟩ := h
  exact z.chg k s h1 h2 hmv
/-- a value, one place changed -/
def kM (a : Addr) (e : Ent) (i : Nat) (R : V → Prop) : Ks := { nx := fun _ _ => False, rt := fun v L => R v ∧ L[i]? = some (a, e, true) }
theorem eo_M {H0 : Hp} {a : Addr} {e : Ent} {i : Nat} {R : V → Prop} {Q : VK} (h : ∀ v H', R v → EntAt e H' a → Exc a H0 H' → Q v H') : Eo ⟨H0, fun c => c = a⟩ (kM a e i R) { nx := fun _ H' => Q .non H', rt := Q } :=
  ⟨fun _ _ _ k _ => k.elim, fun v L H ⟨r, k⟩ z => h v H r (z.look k) fun c o h hn => z.old c o h hn, fun _ _ _ k _ => k.elim, fun _ _ _ k _ => k.elim⟩
/-- a value; a place whose object is written out is told by an entry -/
def kS (a : Addr) (e : Ent) (R : V → Prop) : Ks := { nx := fun _ _ => False, rt := fun v L => R v ∧ ∃ (i : Nat) (o : HO), L[i]? = some (a, Ent.ob o, true) ∧ e.Is o }
theorem eo_S {H0 : Hp} {a : Addr} {e : Ent} {R : V → Prop} {Q : VK} (h : ∀ v H', R v → EntAt e H' a → Exc a H0 H' → Q v H') : Eo ⟨H0, fun c => c = a⟩ (kS a e R) { nx := fun _ H' => Q .non H', rt := Q } :=
  ⟨fun _ _ _ k _ => k.elim, fun v L H ⟨r, i, o, k, he⟩ z => h v H r ⟨o, z.get k, Ent.in_of he⟩ fun c o h hn => z.old c o h hn, fun _ _ _ k _ => k.elim, fun _ _ _ k _ => k.elim⟩
theorem At.ne {i j : Nat} {a2 : Addr} {e2 : Ent} {b2 : Bool} (z : At g L H) (h1 : L[i]? = some (a, e, b)) (h2 : L[j]? = some (a2, e2, b2)) (hij : i ≠ j) (m : e.mov = true ∨ e2.mov = true := by first | exact .inl rfl | exact .inr rfl) (o : b = true ∨ b2 = true := by first | exact .inl rfl | exact .inr rfl) : a ≠ a2 := nd_ne z.nd h1 h2 hij m o
/-- a tuple that stands there -/
theorem At.addT {r : List V} (z : At g L H) (h : H a = some (.tup r)) : At g (L ++ [(a, .ob (.tup r), false)]) H := by
  refine ⟨z.old, fun q hq => ?_, fun q hq hb => ?_, nd_app z.nd fun q hq e => ?_⟩
  · rcases List.mem_append.mp hq with hq | hq
    · exact z.led q hq
    · have e : q = (a, Ent.ob (.tup r), false) := by simpa using hq
      subst e
      exact ⟨_, h, rfl⟩
  · rcases List.mem_append.mp hq with hq | hq
    · exact z.own q hq hb
    · have e : q = (a, Ent.ob (.tup r), false) := by simpa using hq
      subst e
      cases hb
  · refine .inl ⟨?_, rfl⟩
    obtain ⟨o, h1, h2⟩ := z.led q hq
    rw [show q.1 = a from e, h] at h1
    have h1 := Option.some.inj h1
    subst h1
    cases hm : q.2.1.mov with
    | false => rfl
    | true => exact absurd rfl (Ent.mov_ne hm h2 r)
/-- an entry weakened -/
theorem At.weak {i : Nat} {e' : Ent} (z : At g L H) (k : L[i]? = some (a, e, b)) (h : ∀ H o, e.In H o → e'.In H o) (hmv : e.mov = true := by rfl) : At g (L.set i (a, e', b)) H := by
  refine ⟨z.old, fun q hq => ?_, fun q hq hb => ?_, nd_set z.nd k hmv⟩
  · rcases List.mem_or_eq_of_mem_set hq with r | r
    · exact z.led q r
    · subst r
      obtain ⟨o, h1, h2⟩ := z.look k
      exact ⟨o, h1, h H o h2⟩
  · rcases List.mem_or_eq_of_mem_set hq with r | r
    · exact z.own q r hb
    · subst r
      exact z.own (a, e, b) (List.mem_of_getElem? k) hb
theorem ws_weak {i : Nat} {e' : Ent} (k : L[i]? = some (a, e, b)) (h : ∀ H o, e.In H o → e'.In H o) (c : Ws g (L.set i (a, e', b)) t σ K) (hmv : e.mov = true := by rfl) : Ws g L t σ K := fun H z D eo => c H (z.weak k h hmv) D eo
/-- an entry opened -/
theorem ws_src {i n : Nat} (k : L[i]? = some (a, .src n, b)) (c : ∀ x y z : Int, 0 ≤ y → y < 2147483648 → 0 ≤ z → z ≤ (n : Int) → Ws g (L.set i (a, .ob (.lst [.int x, .int y, .int z]), b)) t σ K) : Ws g L t σ K := fun H z D eo => by
  obtain ⟨o, h1, x, y, zz, e, h2, h3, h4, h5⟩ := z.look k
  subst e
  refine c x y zz h2 h3 h4 h5 H ?_ D eo
  refine ⟨z.old, fun q hq => ?_, fun q hq hb => ?_, nd_set z.nd k rfl⟩
  · rcases List.mem_or_eq_of_mem_set hq with r | r
    · exact z.led q r
    · subst r
      exact ⟨_, h1, rfl⟩
  · rcases List.mem_or_eq_of_mem_set hq with r | r
    · exact z.own q r hb
    · subst r
      exact z.own (a, Ent.src n, b) (List.mem_of_getElem? k) hb
/-- a new object -/
def kN (o : HO) : Ks := { nx := fun _ _ => False, rt := fun v L => ∃ (p : Addr) (i : Nat), v = .ref p ∧ L[i]? = some (p, Ent.ob o, true) }
theorem eo_N {H0 : Hp} {o : HO} {Q : VK} (h : ∀ p H', H0 p = none → Same H0 H' → H' p = some o → Q (.ref p) H') : Eo ⟨H0, fun _ => False⟩ (kN o) { nx := fun _ H' => Q .non H', rt := Q } :=
  ⟨fun _ _ _ k _ => k.elim, fun v L H ⟨p, i, e, k⟩ z => by
    subst e
    refine h p H ?_ z.since (z.get k)
    rcases z.own _ (List.mem_of_getElem? k) rfl with q | q
    · exact q
    · exact q.elim, fun _ _ _ k _ => k.elim, fun _ _ _ k _ => k.elim⟩
/-- an int that a slot holds -/
def slotI (σ : St) (i : Nat) : Int := match σ[i]? with
  | some (some (.int n)) => n
  | _ => 0
end
section
variable {g : Gr} {L : Led} {σ : St} {K : Ks} {t1 : TS} {cT : TT} {tg : TG} {tb : TS}
/-- .. where each turn makes c draws from the source in place j -/
theorem src_le {n m : Nat} {H : Hp} {o : HO} (h : n ≤ m) (x : (Ent.src n).In H o) : (Ent.src m).In H o := by
  obtain ⟨x, y, zz, e1, e2, e3, e4, e5⟩ := x
  exact ⟨x, y, zz, e1, e2, e3, e4, by omega⟩
theorem well_le {n m : Nat} {H : Hp} {o : HO} (h : n ≤ m) (x : (Ent.well n).In H o) : (Ent.well m).In H o := by
  obtain ⟨x, y, zz, e1, e2, e3⟩ := x
  exact ⟨x, y, zz, e1, e2, by omega⟩
theorem wf_rngD (E : Nat → Ent) (hE : ∀ {n m : Nat} {H : Hp} {o : HO}, n ≤ m → (E n).In H o → (E m).In H o) {lo : Int} {n : Nat} (j c : Nat) {a : Addr} {n0 : Nat} (I : Nat → List (Option (Option V)) → Prop) (hj : L[j]? = some (a, E n0, true)) (h0 : ∃ vs, σ = putA σ vs ∧ I 0 vs)
    (hs : ∀ (i : Nat) (x : Int) vs, i < n → x = lo + i → I i vs → Wg g (L.set j (a, E (n0 + c * i), true)) tg (.int x) (putA σ vs) fun σ2 L2 => Ws g L2 tb σ2 { K with nx := fun σ' L' => ∃ vs', (σ' = putA σ vs' ∧ I (i + 1) vs') ∧ ∃ k, k ≤ c ∧ L.set j (a, E (n0 + c * i + k), true) <+: L', ct := fun σ' L' => ∃ vs', (σ' = putA σ vs' ∧ I (i + 1) vs') ∧ ∃ k, k ≤ c ∧ L.set j (a, E (n0 + c * i + k), true) <+: L', bk := K.nx })
    (hd : ∀ vs, I n vs → K.nx (putA σ vs) (L.set j (a, E (n0 + c * n), true))) (hEm : ∀ n, (E n).mov = true := by intro _; rfl) : WFor g L (Itr lo n) tg tb σ K := by
  have hjl : j < L.length := (List.getElem?_eq_some_iff.mp hj).1
  have hse : L.set j (a, E (n0 + c * 0), true) = L := by
    rw [Nat.mul_zero, Nat.add_zero]
    apply List.ext_getElem?
    intro q
    by_cases e : j = q
    · subst e
      rw [List.getElem?_set_self hjl, hj]
    · rw [List.getElem?_set_ne e]
  intro H z D e
  refine for_range (lo := lo) (n := n) (fun i σ' H' => ∃ vs, (σ' = putA σ vs ∧ I i vs) ∧ At g (L.set j (a, E (n0 + c * i), true)) H') (by obtain ⟨vs, h1, h2⟩ := h0; exact ⟨vs, ⟨h1, h2⟩, hse.symm ▸ z⟩) ?_ ?_
  · rintro i σ' H' hi ⟨vs, ⟨rfl, k⟩, z⟩
    refine hs i _ vs hi rfl k H' z _ fun σ2 L2 H2 k2 z2 => ?_
    have kk : ∀ σ' L'' H', (∃ vs', (σ' = putA σ vs' ∧ I (i + 1) vs') ∧ ∃ k, k ≤ c ∧ L.set j (a, E (n0 + c * i + k), true) <+: L'') → At g L'' H' → ∃ vs, (σ' = putA σ vs ∧ I (i + 1) vs) ∧ At g (L.set j (a, E (n0 + c * (i + 1)), true)) H' := fun σ' L'' H' ⟨vs', h1, kd, hk, h2⟩ z' => by
      refine ⟨vs', h1, ?_⟩
      have z3 := z'.pre h2
      have z4 := z3.weak (i := j) (e' := E (n0 + c * (i + 1))) (List.getElem?_set_self hjl) (fun _ o ho => hE (by have : c * (i + 1) = c * i + c := Nat.mul_succ c i; omega) ho) (hEm _)
      rw [List.set_set] at z4
      exact z4
    exact k2 H2 z2 _ ⟨kk, e.rt, e.nx, kk⟩
  · rintro σ' H' ⟨vs, ⟨rfl, k⟩, z⟩
    exact e.nx _ _ _ (hd vs k) z
end
/-! ### == and != of data -/
section
variable {K : PySem.W.Frag} {g : Gr} {L : Led} {C : V → Led → Prop} {x y : V} {d e : PyData} {a : Addr}
def DpA (K : PySem.W.Frag) (g : Gr) (L : Led) (x : V) (d : PyData) : Prop := ∀ H, At g L H → Dp K H x d
def DpS (K : PySem.W.Frag) (g : Gr) (L : Led) (xs : List V) (ds : List PyData) : Prop := ∀ H, At g L H → DpAll K H xs ds
theorem dp_non : DpA K g L .non .none := fun _ _ => .non
theorem dp_bl {b : Bool} : DpA K g L (.bl b) (.bool b) := fun _ _ => .bl b
theorem dp_int {n : Int} : DpA K g L (.int n) (.int n) := fun _ _ => .int n
theorem dp_str {z : Str} : DpA K g L (.str z) (.str z) := fun _ _ => .str z
theorem dps_nil : DpS K g L [] [] := fun _ _ => .nil
theorem dps_cons {xs : List V} {ds : List PyData} (h : DpA K g L x d) (t : DpS K g L xs ds) : DpS K g L (x :: xs) (d :: ds) := fun H z => .cons (h H z) (t H z)
theorem dp_tup {xs : List V} {ds : List PyData} (s : SeenT K g L a xs) (t : DpS K g L xs ds) : DpA K g L (.ref a) (.tuple ds) := fun H z => .tup (s.at_ H z) (t H z)
theorem dp_lst {xs : List V} {ds : List PyData} (s : Seen K g L a xs) (t : DpS K g L xs ds) : DpA K g L (.ref a) (.list ds) := fun H z => .lst (s.at_ H z) (t H z)
theorem dps_ints {ns : List Int} : DpS K g L (ns.map V.int) (ns.map PyData.int) := by
  induction ns with
  | nil => exact dps_nil
  | cons n r ih => exact dps_cons dp_int ih
theorem dp_ints {ns : List Int} (s : Seen K g L a (ns.map V.int)) : DpA K g L (.ref a) (.list (ns.map PyData.int)) := dp_lst s dps_ints
theorem eqvAll_ints : ∀ ms ns : List Int, PyData.eqvAll (ms.map PyData.int) (ns.map PyData.int) = decide (ms = ns)
  | [], [] => by simp [PyData.eqvAll]
  | [], _ :: _ => by simp [PyData.eqvAll]
  | _ :: _, [] => by simp [PyData.eqvAll]
  | m :: ms, n :: ns => by
    rw [List.map_cons, List.map_cons]
    unfold PyData.eqvAll
    rw [eqvAll_ints ms ns]
    unfold PyData.eqv
    rw [Bool.eq_iff_iff]
    simp
theorem eqv_ints (ms ns : List Int) : PyData.eqv (.list (ms.map PyData.int)) (.list (ns.map PyData.int)) = decide (ms = ns) := by
  unfold PyData.eqv
  exact eqvAll_ints ms ns
theorem wr_eqD (h1 : DpA K g L x d) (h2 : DpA K g L y e) (s1 : SeqAt.shaped d = true) (s2 : SeqAt.shaped e = true) (c : C (.bl (PyData.eqv d e)) L) : Wp g L (rEqD K x y) C := .now (fun H _ z q => ⟨d, e, h1 H z, h2 H z, s1, s2, q⟩) c
theorem wr_neD (h1 : DpA K g L x d) (h2 : DpA K g L y e) (s1 : SeqAt.shaped d = true) (s2 : SeqAt.shaped e = true) (c : C (.bl (!PyData.eqv d e)) L) : Wp g L (rNeD K x y) C := .now (fun H _ z q => ⟨d, e, h1 H z, h2 H z, s1, s2, q⟩) c
theorem wr_eqLI {a2 : Addr} {ms ns : List Int} (s1 : Seen K g L a (ms.map V.int)) (s2 : Seen K g L a2 (ns.map V.int)) (c : C (.bl (decide (ms = ns))) L) : Wp g L (rEqD K (.ref a) (.ref a2)) C :=
  wr_eqD (dp_ints s1) (dp_ints s2) (PySem.W.shaped_ints _) (PySem.W.shaped_ints _) (by rw [eqv_ints]; exact c)
theorem wr_neLI {a2 : Addr} {ms ns : List Int} (s1 : Seen K g L a (ms.map V.int)) (s2 : Seen K g L a2 (ns.map V.int)) (c : C (.bl (!decide (ms = ns))) L) : Wp g L (rNeD K (.ref a) (.ref a2)) C :=
  wr_neD (dp_ints s1) (dp_ints s2) (PySem.W.shaped_ints _) (PySem.W.shaped_ints _) (by rw [eqv_ints]; exact c)
/-- all, any of a list of bools; sorted, max, min, sum of ints -/
theorem wc_all {bs : List Bool} (s : Seen K g L a (bs.map V.bl)) (c : C (.bl (bs.all id)) L) : Wp g L (rAll K [.ref a]) C := .now (fun H _ z q => ⟨a, bs, rfl, s.at_ H z, q⟩) c
theorem wc_any {bs : List Bool} (s : Seen K g L a (bs.map V.bl)) (c : C (.bl (bs.any id)) L) : Wp g L (rAny K [.ref a]) C := .now (fun H _ z q => ⟨a, bs, rfl, s.at_ H z, q⟩) c
theorem wc_sum {ns : List Int} (s : Seen K g L a (ns.map V.int)) (c : C (.int ns.sum) L) : Wp g L (rSum K [.ref a]) C := .now (fun H _ z q => ⟨a, ns, rfl, s.at_ H z, q⟩) c
theorem wc_sorted {ns : List Int} (s : Seen K g L a (ns.map V.int)) (c : ∀ (ns' : List Int) (p : Addr), ns'.Perm ns → ns'.Pairwise (· ≤ ·) → C (.ref p) (L ++ [(p, .ob (.lst (ns'.map V.int)), true)])) : Wp g L (rSortedI K [.ref a]) C :=
  fun H z Q q => ⟨a, ns, rfl, s.at_ H z, fun ns' p h1 h2 hp => q _ _ _ (c ns' p h1 h2) (z.upd_new hp)⟩
theorem wc_maxL {ns : List Int} (s : Seen K g L a (ns.map V.int)) (h0 : 0 < ns.length) (c : ∀ m : Int, m ∈ ns → (∀ k ∈ ns, k ≤ m) → C (.int m) L) : Wp g L (rMax K [.ref a]) C :=
  fun H z Q q => ⟨a, ns, rfl, s.at_ H z, h0, fun m h1 h2 => q _ _ _ (c m h1 h2) z⟩
end
/-! ### comprehensions over ints whose element and test are functions of the item -/
section
variable {g : Gr} {L : Led} {σ : St} {C : V → Led → Prop} {tt : TT} {te : TE} {i : Nat}
def WLc (g : Gr) (L : Led) (J : It) (tg : TG) (tt : TT) (te : TE) (vs : List Nat) (σ : St) (C : V → Led → Prop) : Prop := ∀ H, At g L H → ∀ Q : VK, (∀ v L' H', C v L' → At g L' H' → Q v H') → ∀ D, H D = none → ∃ W : Nat → Nat → Hp → Prop, (∃ m, W 0 m (upd H D (.lst []))) ∧ ∀ i m H, W i m H →
  (J.stop i H ∧ Q (.ref D) H) ∨ (J.go i H ∧ ∃ Nx : Hp → Prop, (∀ H', Nx H' → ∃ m', m' < m ∧ W (i + 1) m' H') ∧ ∀ x H', J.yld i H x H' → tg x (wipe σ vs) H' fun σ2 H2 => wipe σ2 vs = wipe σ vs ∧ tt σ2 H2 fun b H3 =>
    if b = true then te σ2 H3 fun y H4 => ∃ acc, H4 D = some (.lst acc) ∧ acc.length < sizeLine ∧ Nx (upd H4 D (.lst (acc ++ [y]))) else Nx H3)
theorem wp_lc {wi : TI} {tg : TG} {vs : List Nat} (h : Wp g L (wi σ) fun J L1 => WLc g L1 J tg tt te vs σ C) : Wp g L (tLc wi tg tt te vs σ) C := fun H z Q q => h H z _ fun J L1 H1 k z1 => fun D hD => k H1 z1 Q q D hD
theorem wipe1 (σ : St) (i : Nat) (v : Option V) : wipe ((wipe σ [i]).set i v) [i] = wipe σ [i] := by
  show (((σ.set i none).set i v).set i none) = σ.set i none
  rw [List.set_set, List.set_set]
theorem filter_take_succ {α β : Type} (p : α → Bool) (f : α → β) {xs : List α} {k : Nat} {x : α} (h : xs[k]? = some x) : ((xs.take (k + 1)).filter p).map f = ((xs.take k).filter p).map f ++ (if p x = true then [f x] else []) := by
  rw [List.take_add_one, h]
  simp only [Option.toList, List.filter_append, List.map_append]
  congr 1
  rw [List.filter_cons]
  split <;> simp
/-- the ints lo, lo + 1, .. -/
def rngI (lo : Int) (n : Nat) : List Int := (List.range n).map fun (k : Nat) => lo + (k : Int)
theorem rngI_get {lo : Int} {n k : Nat} (h : k < n) : (rngI lo n)[k]? = some (lo + (k : Int)) := by
  unfold rngI
  rw [List.getElem?_map, List.getElem?_range h]
  rfl
theorem mem_rngI {lo x : Int} {n : Nat} : x ∈ rngI lo n ↔ lo ≤ x ∧ x < lo + (n : Int) := by
  unfold rngI
  rw [List.mem_map]
  constructor
  · rintro ⟨k, hk, rfl⟩
    have := List.mem_range.mp hk
    omega
  · rintro ⟨h1, h2⟩
    exact ⟨(x - lo).toNat, List.mem_range.mpr (by omega), by omega⟩
theorem rngI_len {lo : Int} {n : Nat} : (rngI lo n).length = n := by simp [rngI]
/-- one turn -/
abbrev LcTurn (g : Gr) (L : Led) (i : Nat) (tt : TT) (te : TE) (σ : St) (p : Int → Bool) (f : Int → V) (n : Int) : Prop := ∀ (D : Addr) (acc : List V), Wp g (L ++ [(D, .ob (.lst acc), true)]) (tt ((wipe σ [i]).set i (some (.int n)))) fun b L2 => b = p n ∧
  if b = true then Wp g L2 (te ((wipe σ [i]).set i (some (.int n)))) fun y L3 => y = f n ∧ (L ++ [(D, .ob (.lst acc), true)]) <+: L3 else (L ++ [(D, .ob (.lst acc), true)]) <+: L2
theorem lc_turn {p : Int → Bool} {f : Int → V} {n : Int} {D : Addr} {acc acc' : List V} {H : Hp} {Nx : Hp → Prop} (h : LcTurn g L i tt te σ p f n) (z : At g (L ++ [(D, .ob (.lst acc), true)]) H) (hl : acc.length < 100000)
    (e : acc' = acc ++ (if p n = true then [f n] else [])) (hN : ∀ H', At g (L ++ [(D, .ob (.lst acc'), true)]) H' → Nx H') :
    tt ((wipe σ [i]).set i (some (.int n))) H fun b H3 => if b = true then te ((wipe σ [i]).set i (some (.int n))) H3 fun y H4 => ∃ acc, H4 D = some (.lst acc) ∧ acc.length < sizeLine ∧ Nx (upd H4 D (.lst (acc ++ [y]))) else Nx H3 := by
  have hi : ∀ o : HO, (L ++ [(D, Ent.ob o, true)])[L.length]? = some (D, Ent.ob o, true) := fun o => by simp
  refine h D acc H z _ fun b L2 H2 ⟨eb, k⟩ z2 => ?_
  subst eb
  cases hp : p n with
  | true =>
    rw [hp] at k e
    have k : Wp g L2 _ _ := k
    refine k H2 z2 _ fun y L3 H3 ⟨ey, hpre⟩ z3 => ?_
    have z4 := z3.pre hpre
    refine ⟨acc, z4.get (hi _), Nat.lt_of_lt_of_le hl (by decide), hN _ ?_⟩
    have z5 := z4.upd_chg (o := .lst (acc ++ [y])) (hi _)
    rw [List.set_append_right _ _ (Nat.le_refl _), Nat.sub_self] at z5
    subst ey
    rw [e]
    exact z5
  | false =>
    rw [hp] at k e
    have k : _ <+: L2 := k
    have e2 : acc' = acc := by rw [e]; simp
    rw [e2] at hN
    exact hN _ (z2.pre k)
theorem lc_I {Kf : PySem.W.Frag} {a : Addr} {ns : List Int} (p : Int → Bool) (f : Int → V) (s : Seen Kf g L a (ns.map V.int)) (hl : ns.length ≤ 99999) (hs : ∀ n, n ∈ ns → LcTurn g L i tt te σ p f n)
    (c : ∀ D, C (.ref D) (L ++ [(D, .ob (.lst ((ns.filter p).map f)), true)])) : WLc g L (Itl Kf a) (gName i) tt te [i] σ C := fun H z Q q D hD => by
  have sub : ∀ {D o} {H : Hp}, At g (L ++ [(D, Ent.ob o, true)]) H → At g L H := fun z => z.pre ⟨_, rfl⟩
  refine lc_list (K := Kf) (a := a) (xs := ns.map V.int) (fun k H => At g (L ++ [(D, .ob (.lst (((ns.take k).filter p).map f)), true)]) H) (by simpa using z.upd_new hD) (fun k H _ z => s.at_ H (sub z)) (fun k x H hx z => ?_) fun H z => q _ _ _ (c D) ?_
  · rw [List.getElem?_map] at hx
    cases hn : ns[k]? with
    | none => rw [hn] at hx; cases hx
    | some n =>
      rw [hn] at hx
      have hx : V.int n = x := Option.some.inj hx
      subst hx
      refine ⟨wipe1 σ i _, ?_⟩
      refine lc_turn (hs n (List.mem_of_getElem? hn)) z ?_ (filter_take_succ p f hn) fun H' z' => z'
      have := List.length_filter_le p (ns.take k)
      have := List.length_take_le k ns
      rw [List.length_map]
      have h3 : (ns.take k).length ≤ ns.length := by simp; omega
      omega
  · rw [List.length_map, List.take_length] at z
    exact z
theorem lc_R {lo : Int} {n : Nat} (p : Int → Bool) (f : Int → V) (hl : n ≤ 99999) (hs : ∀ x, lo ≤ x → x < lo + (n : Int) → LcTurn g L i tt te σ p f x)
    (c : ∀ D, C (.ref D) (L ++ [(D, .ob (.lst (((rngI lo n).filter p).map f)), true)])) : WLc g L (Itr lo n) (gName i) tt te [i] σ C := fun H z Q q D hD => by
  refine lc_range (lo := lo) (n := n) (fun k H => At g (L ++ [(D, .ob (.lst ((((rngI lo n).take k).filter p).map f)), true)]) H) (by simpa using z.upd_new hD) (fun k H hk z => ?_) fun H z => q _ _ _ (c D) ?_
  · refine ⟨wipe1 σ i _, ?_⟩
    refine lc_turn (hs _ (by omega) (by omega)) z ?_ (filter_take_succ p f (rngI_get hk)) fun H' z' => z'
    have := List.length_filter_le p ((rngI lo n).take k)
    have h3 : ((rngI lo n).take k).length ≤ n := by simp [rngI]; omega
    rw [List.length_map]
    omega
  · rw [List.take_of_length_le (by rw [rngI_len]; exact Nat.le_refl _)] at z
    exact z
theorem lc_If {Kf : PySem.W.Frag} {a : Addr} {ns : List Int} (p : Int → Bool) (s : Seen Kf g L a (ns.map V.int)) (hl : ns.length ≤ 99999) (hs : ∀ n, n ∈ ns → LcTurn g L i tt te σ p V.int n)
    (c : ∀ D, C (.ref D) (L ++ [(D, .ob (.lst ((ns.filter p).map V.int)), true)])) : WLc g L (Itl Kf a) (gName i) tt te [i] σ C := lc_I p V.int s hl hs c
theorem lc_Rf {lo : Int} {n : Nat} (p : Int → Bool) (hl : n ≤ 99999) (hs : ∀ x, lo ≤ x → x < lo + (n : Int) → LcTurn g L i tt te σ p V.int x)
    (c : ∀ D, C (.ref D) (L ++ [(D, .ob (.lst (((rngI lo n).filter p).map V.int)), true)])) : WLc g L (Itr lo n) (gName i) tt te [i] σ C := lc_R p V.int hl hs c
theorem lc_It {α : Type} (T : α → V) {Kf : PySem.W.Frag} {a : Addr} {ns : List Int} (p : Int → Bool) (h : Int → α) (s : Seen Kf g L a (ns.map V.int)) (hl : ns.length ≤ 99999) (hs : ∀ n, n ∈ ns → LcTurn g L i tt te σ p (fun n => T (h n)) n)
    (c : ∀ D, C (.ref D) (L ++ [(D, .ob (.lst (((ns.filter p).map h).map T)), true)])) : WLc g L (Itl Kf a) (gName i) tt te [i] σ C := lc_I p (fun n => T (h n)) s hl hs fun D => by
  have e : (ns.filter p).map (fun n => T (h n)) = ((ns.filter p).map h).map T := by rw [List.map_map]; rfl
  rw [e]
  exact c D
theorem lc_Rt {α : Type} (T : α → V) {lo : Int} {n : Nat} (p : Int → Bool) (h : Int → α) (hl : n ≤ 99999) (hs : ∀ x, lo ≤ x → x < lo + (n : Int) → LcTurn g L i tt te σ p (fun n => T (h n)) x)
    (c : ∀ D, C (.ref D) (L ++ [(D, .ob (.lst ((((rngI lo n).filter p).map h).map T)), true)])) : WLc g L (Itr lo n) (gName i) tt te [i] σ C := lc_R p (fun n => T (h n)) hl hs fun D => by
  have e : ((rngI lo n).filter p).map (fun n => T (h n)) = (((rngI lo n).filter p).map h).map T := by rw [List.map_map]; rfl
  rw [e]
  exact c D
theorem lc_Im {α : Type} (T : α → V) {Kf : PySem.W.Frag} {a : Addr} {ns : List Int} (h : Int → α) (s : Seen Kf g L a (ns.map V.int)) (hl : ns.length ≤ 99999) (hs : ∀ n, n ∈ ns → LcTurn g L i tt te σ (fun _ => true) (fun n => T (h n)) n)
    (c : ∀ D, C (.ref D) (L ++ [(D, .ob (.lst ((ns.map h).map T)), true)])) : WLc g L (Itl Kf a) (gName i) tt te [i] σ C := lc_It T (fun _ => true) h s hl hs fun D => by
  rw [List.filter_eq_self.mpr (fun _ _ => rfl)]
  exact c D
theorem lc_Rm {α : Type} (T : α → V) {lo : Int} {n : Nat} (h : Int → α) (hl : n ≤ 99999) (hs : ∀ x, lo ≤ x → x < lo + (n : Int) → LcTurn g L i tt te σ (fun _ => true) (fun n => T (h n)) x)
    (c : ∀ D, C (.ref D) (L ++ [(D, .ob (.lst (((rngI lo n).map h).map T)), true)])) : WLc g L (Itr lo n) (gName i) tt te [i] σ C := lc_Rt T (fun _ => true) h hl hs fun D => by
  rw [List.filter_eq_self.mpr (fun _ _ => rfl)]
  exact c D
theorem ws_setLc {y : Nat} {wi : TI} {tg : TG} {vs : List Nat} {K : Ks} (h : Wp g L (wi σ) fun J L1 => WLc g L1 J tg tt te vs σ fun v L2 => K.nx (σ.set y (some v)) L2) : Ws g L (tAsg (tLc wi tg tt te vs) (gName y)) σ K := ws_set (wp_lc h)
end
/-! ### defs that draw from a source -/
section
variable {g : Gr} {L : Led} {H H' : Hp} {a p : Addr} {e : Ent} {o : HO} {b : Bool} {i : Nat}
theorem At.draw_new {e' : Ent} (z : At g L H) (k : L[i]? = some (a, e, true)) (s : Exc a H H') (h : EntAt e' H' a) (n : H p = none) (hp : H' p = some o) (hmv : e.mov = true := by rfl) : At g (L.set i (a, e', true) ++ [(p, .ob o, true)]) H' := by
  have z2 := z.draw k s h hmv
  refine ⟨z2.old, fun q hq => ?_, fun q hq => ?_, ?_⟩
  · rcases List.mem_append.mp hq with hq | hq
    · exact z2.led q hq
    · have e : q = (p, Ent.ob o, true) := by simpa using hq
      subst e
      exact ⟨o, hp, rfl⟩
  · rcases List.mem_append.mp hq with hq | hq
    · exact z2.own q hq
    · have e : q = (p, Ent.ob o, true) := by simpa using hq
      subst e
      intro _
      by_cases hmu : g.mu p
      · exact .inr hmu
      · refine .inl ?_
        cases q2 : g.H0 p with
        | none => rfl
        | some u =>
          rw [z.old p u q2 hmu] at n
          cases n
  · refine nd_app z2.nd fun q hq e3 => ?_
    rcases List.mem_or_eq_of_mem_set hq with r | r
    · obtain ⟨u, h1, _⟩ := z.led q r
      rw [e3, n] at h1
      cases h1
    · subst r
      obtain ⟨u, h1, _⟩ := z.look k
      rw [show a = p from e3, n] at h1
      cases h1
theorem src_mono {m k c : Nat} (h : k ≤ c) {H : Hp} {a : Addr} (x : EntAt (.src (m + k)) H a) : EntAt (.src (m + c)) H a := by
  obtain ⟨o, h1, x, y, z, e1, e2, e3, e4, e5⟩ := x
  exact ⟨o, h1, x, y, z, e1, e2, e3, e4, by omega⟩
theorem well_mono {m k c : Nat} (h : k ≤ c) {H : Hp} {a : Addr} (x : EntAt (.well (m + k)) H a) : EntAt (.well (m + c)) H a := by
  obtain ⟨o, h1, x, y, z, e1, e2, e3⟩ := x
  exact ⟨o, h1, x, y, z, e1, e2, by omega⟩
/-- a value, at most c draws -/
def kD (E : Nat → Ent) (a : Addr) (m c : Nat) (R : V → Prop) : Ks := { nx := fun _ _ => False, rt := fun v L => R v ∧ ∃ k, k ≤ c ∧ L[0]? = some (a, E (m + k), true) }
theorem eo_D {E : Nat → Ent} {H0 : Hp} {a : Addr} {m c : Nat} {R : V → Prop} {Q : VK} (mono : ∀ {k : Nat} {H : Hp}, k ≤ c → EntAt (E (m + k)) H a → EntAt (E (m + c)) H a) (h : ∀ v H', R v → EntAt (E (m + c)) H' a → Exc a H0 H' → Q v H') : Eo ⟨H0, fun c => c = a⟩ (kD E a m c R) { nx := fun _ H' => Q .non H', rt := Q } :=
  ⟨fun _ _ _ k _ => k.elim, fun v L H ⟨r, k, hk, e⟩ z => h v H r (mono hk (z.look e)) fun c o h hn => z.old c o h hn, fun _ _ _ k _ => k.elim, fun _ _ _ k _ => k.elim⟩
/-- a new object, at most c draws -/
def kDN (E : Nat → Ent) (a : Addr) (m c : Nat) (R : HO → Prop) : Ks := { nx := fun _ _ => False, rt := fun v L => ∃ (p : Addr) (i : Nat) (o : HO), v = .ref p ∧ L[i + 1]? = some (p, Ent.ob o, true) ∧ R o ∧ ∃ k, k ≤ c ∧ L[0]? = some (a, E (m + k), true) }
theorem eo_DN {E : Nat → Ent} {H0 : Hp} {a : Addr} {m c : Nat} {R : HO → Prop} {Q : VK} (mono : ∀ {k : Nat} {H : Hp}, k ≤ c → EntAt (E (m + k)) H a → EntAt (E (m + c)) H a) (h : ∀ p H' o, R o → H0 p = none → H' p = some o → EntAt (E (m + c)) H' a → Exc a H0 H' → Q (.ref p) H') (hEm : ∀ n, (E n).mov = true := by intro _; rfl) : Eo ⟨H0, fun c => c = a⟩ (kDN E a m c R) { nx := fun _ H' => Q .non H', rt := Q } :=
  ⟨fun _ _ _ k _ => k.elim, fun v L H ⟨p, i, o, ev, hp, r, k, hk, e⟩ z => by
    subst ev
    have hn : H0 p = none := by
      rcases z.own _ (List.mem_of_getElem? hp) rfl with q | q
      · exact q
      · exact absurd q (z.ne hp e (by omega) (.inr (hEm _)))
    exact h p H o r hn (z.get hp) (mono hk (z.look e)) fun c o h hn => z.old c o h hn, fun _ _ _ k _ => k.elim, fun _ _ _ k _ => k.elim⟩
end
section
variable {K : PySem.W.Frag} {g : Gr} {L : Led} {C : V → Led → Prop} {σ : St} {ta : TE}
theorem wp_lenSet (h : Wp g L (ta σ) fun x L1 => ∃ (a : Addr) (ns : List Int), x = .ref a ∧ Seen K g L1 a (ns.map V.int) ∧ ns.Nodup ∧ ns.length ≤ 4000 ∧ C (.int (ns.length : Nat)) L1) : Wp g L (RZ.tLenSetI K ta σ) C :=
  fun H z Q q => h H z _ fun x L1 H1 ⟨a, ns, e, s, nd, hl, c⟩ z1 => ⟨a, ns, e, s.at_ H1 z1, nd, hl, q _ _ _ c z1⟩
end
/-! ### three comparisons in a chain -/
section
open PySem.Spec PyProof.Rows
variable {X : Cx} {a b c d : Expr} {pos : Pos} {ta tb tc td : TE}
def tChain3 (r r' r'' : R2) (ta tb tc td : TE) : TE := fun σ H Q => ta σ H fun x H1 => tb σ H1 fun y H2 => r x y H2 fun z H3 => ∃ k, z = .bl k ∧
  (if k = true then tc σ H3 fun w H4 => r' y w H4 fun z2 H5 => ∃ k2, z2 = .bl k2 ∧ (if k2 = true then td σ H5 fun u H6 => r'' w u H6 Q else Q (.bl false) H5) else Q (.bl false) H3)
theorem pe_chain3 {op op' op'' : CmpOp} {r r' r'' : R2} (ho : OpR X (compareOp op) r) (ho' : OpR X (compareOp op') r') (ho'' : OpR X (compareOp op'') r'') (ha : PE X a ta) (hb : PE X b tb) (hc : PE X c tc) (hd : PE X d td)
    (hm : lastMarks [op, op', op''] [b, c, d] = false := by with_unfolding_all rfl) : PE X (.Compare a [op, op', op''] [b, c, d] pos) (tChain3 r r' r'' ta tb tc td) := by
  refine ⟨fun pins s σ H Q I h => ?_⟩
  refine Compare_chain (thn (ha.run pins s σ H _ I h) fun v s1 ⟨x, H1, I1, r1, q1⟩ => chain_link (thn (hb.run pins s1 σ H1 _ I1 q1) fun u s2 ⟨y, H2, I2, r2, q2⟩ =>
    thn (ho pins s2 σ H2 x y v u _ I2 r1 r2 q2) fun d s3 ⟨z, H3, I3, r3, k, e, q3⟩ => ?_)) hm
  subst e
  cases r3
  refine wpAny_truthy_bool ?_
  cases k with
  | false => exact ite_ff ⟨.bl false, H3, I3, rfl, q3⟩
  | true =>
    refine ite_tt (chain_link (thn (hc.run pins s3 σ H3 _ I3 q3) fun w' s4 ⟨z', H4, I4, r4, q4⟩ => thn (ho' pins s4 σ H4 y z' u w' _ I4 r2 r4 q4) fun d2 s5 ⟨z2, H5, I5, r5, k2, e2, q5⟩ => ?_))
    subst e2
    cases r5
    refine wpAny_truthy_bool ?_
    cases k2 with
    | false => exact ite_ff ⟨.bl false, H5, I5, rfl, q5⟩
    | true => exact ite_tt (chain_last (thn (hd.run pins s5 σ H5 _ I5 q5) fun w2 s6 ⟨z3, H6, I6, r6, q6⟩ => ho'' pins s6 σ H6 z' z3 w' w2 Q I6 r4 r6 q6))
theorem wp_chain3P {g : Gr} {L : Led} {σ : L2.St} {C : V → Led → Prop} {r r' r'' : R2} (h : Wp g L (ta σ) fun x L1 => Wp g L1 (tb σ) fun y L2 => Wp g L2 (r x y) fun z L3 => ∃ b, z = .bl b ∧ ∃ b2, (b = true → Wp g L3 (tc σ) fun w L4 => Wp g L4 (r' y w) fun c L5 => ∃ k, c = .bl k ∧ ∃ k2, (k = true → Wp g L5 (td σ) fun u L6 => Wp g L6 (r'' w u) fun d L7 => d = .bl k2 ∧ L7 = L3) ∧ (L5 = L3 ∧ b2 = (k && k2))) ∧ C (.bl (b && b2)) L3) : Wp g L (tChain3 r r' r'' ta tb tc td σ) C :=
  fun H a Q q => h H a _ fun x L1 H1 h1 a1 => h1 H1 a1 _ fun y L2 H2 h2 a2 => h2 H2 a2 _ fun z L3 H3 ⟨b, e, b2, k, c⟩ a3 => ⟨b, e, by
    cases b with
    | false => exact q _ L3 H3 c a3
    | true =>
      refine k rfl H3 a3 _ fun w L4 H4 h4 a4 => h4 H4 a4 _ fun z2 L5 H5 ⟨k1, e1, k2, f, hL, hb⟩ a5 => ⟨k1, e1, ?_⟩
      subst hL hb
      cases k1 with
      | false => exact q _ _ H5 c a5
      | true => exact f rfl H5 a5 _ fun u L6 H6 h6 a6 => h6 H6 a6 _ fun d L7 H7 ⟨e7, l7⟩ a7 => q _ _ H7 (by rw [e7, l7]; exact c) a7⟩
end
/-! ### comprehensions over a range whose element draws -/
section
variable {g : Gr} {L : Led} {σ : St} {C : V → Led → Prop} {tt : TT} {te : TE} {i : Nat}
theorem set_self {j : Nat} {x : Addr × Ent × Bool} (hj : L[j]? = some x) : L.set j x = L := by
  apply List.ext_getElem?
  intro q
  by_cases e : j = q
  · subst e
    rw [List.getElem?_set_self (List.getElem?_eq_some_iff.mp hj).1, hj]
  · rw [List.getElem?_set_ne e]
theorem lc_RD (E : Nat → Ent) (hE : ∀ {n m : Nat} {H : Hp} {o : HO}, n ≤ m → (E n).In H o → (E m).In H o) {lo : Int} {n : Nat} (j c : Nat) {a : Addr} {n0 : Nat} (P : Int → Prop) (hj : L[j]? = some (a, E n0, true)) (hl : n ≤ 99999)
    (hs : ∀ (k : Nat) (x : Int), k < n → x = lo + (k : Int) → ∀ (D : Addr) (acc : List V), Wp g (L.set j (a, E (n0 + c * k), true) ++ [(D, .ob (.lst acc), true)]) (tt ((wipe σ [i]).set i (some (.int x)))) fun b L2 => b = true ∧
      Wp g L2 (te ((wipe σ [i]).set i (some (.int x)))) fun y L3 => (∃ v : Int, y = .int v ∧ P v) ∧ ∃ d, d ≤ c ∧ (L.set j (a, E (n0 + c * k + d), true) ++ [(D, .ob (.lst acc), true)]) <+: L3)
    (cc : ∀ (D : Addr) (ys : List Int), ys.length = n → (∀ y ∈ ys, P y) → C (.ref D) (L.set j (a, E (n0 + c * n), true) ++ [(D, .ob (.lst (ys.map V.int)), true)])) (hEm : ∀ n, (E n).mov = true := by intro _; rfl) : WLc g L (Itr lo n) (gName i) tt te [i] σ C := fun H z Q q D hD => by
  have hjl : j < L.length := (List.getElem?_eq_some_iff.mp hj).1
  have hi : ∀ (e : Addr × Ent × Bool) (o : HO), (L.set j e ++ [(D, Ent.ob o, true)])[L.length]? = some (D, Ent.ob o, true) := fun e o => by
    rw [List.getElem?_append_right (by rw [List.length_set]; exact Nat.le_refl _), List.length_set, Nat.sub_self]
    rfl
  refine lc_range (lo := lo) (n := n) (fun k H => ∃ ys : List Int, ys.length = k ∧ (∀ y ∈ ys, P y) ∧ At g (L.set j (a, E (n0 + c * k), true) ++ [(D, .ob (.lst (ys.map V.int)), true)]) H) ⟨[], rfl, fun y h => (by cases h), ?_⟩ (fun k H hk ⟨ys, h1, h2, z⟩ => ?_) fun H ⟨ys, h1, h2, z⟩ => q _ _ _ (cc D ys h1 h2) z
  · rw [Nat.mul_zero, Nat.add_zero, set_self hj]
    exact z.upd_new hD
  · refine ⟨wipe1 σ i _, ?_⟩
    refine hs k _ hk rfl D _ H z _ fun b L2 H2 ⟨eb, kk⟩ z2 => ?_
    subst eb
    show te _ _ _
    refine kk H2 z2 _ fun y L3 H3 ⟨⟨v, ey, hv⟩, d, hd, hpre⟩ z3 => ?_
    subst ey
    have z4 := z3.pre hpre
    refine ⟨ys.map V.int, z4.get (hi _ _), by rw [List.length_map, h1]; exact Nat.lt_of_lt_of_le (Nat.lt_of_lt_of_le hk hl) (by decide), ys ++ [v], by simp [h1], fun y hy => ?_, ?_⟩
    · rcases List.mem_append.mp hy with h | h
      · exact h2 y h
      · have : y = v := by simpa using h
        exact this ▸ hv
    · have z5 := z4.upd_chg (o := .lst (ys.map V.int ++ [.int v])) (hi _ _)
      have e1 : (L.set j (a, E (n0 + c * k + d), true) ++ [(D, Ent.ob (.lst (ys.map V.int)), true)]).set L.length (D, Ent.ob (.lst (ys.map V.int ++ [.int v])), true) = L.set j (a, E (n0 + c * k + d), true) ++ [(D, Ent.ob (.lst (ys.map V.int ++ [.int v])), true)] := by
        rw [List.set_append_right _ _ (by rw [List.length_set]; exact Nat.le_refl _), List.length_set, Nat.sub_self]
        rfl
      rw [e1] at z5
      have hj2 : (L.set j (a, E (n0 + c * k + d), true) ++ [(D, Ent.ob (.lst (ys.map V.int ++ [.int v])), true)])[j]? = some (a, E (n0 + c * k + d), true) := by
        rw [List.getElem?_append_left (by rw [List.length_set]; exact hjl), List.getElem?_set_self hjl]
      have z6 := z5.weak (i := j) (e' := E (n0 + c * (k + 1))) hj2 (fun _ o ho => hE (by have : c * (k + 1) = c * k + c := Nat.mul_succ c k; omega) ho) (hEm _)
      rw [List.set_append_left _ _ (by rw [List.length_set]; exact hjl), List.set_set] at z6
      rw [List.map_append]
      exact z6
end
section
variable {g : Gr} {L : Led} {σ : St} {C C' : V → Led → Prop} {tt : TT} {te : TE} {i : Nat}
theorem wlc_mono {J : It} {tg : TG} {vs : List Nat} (h : WLc g L J tg tt te vs σ C') (k : ∀ v L', C' v L' → ∃ L'', C v L'' ∧ ∀ H, At g L' H → At g L'' H) : WLc g L J tg tt te vs σ C :=
  fun H z Q q => h H z Q fun v L' H' c z' => let ⟨L'', c', w⟩ := k v L' c; q v L'' H' c' (w H' z')
theorem lc_RDN (E : Nat → Ent) (hE : ∀ {n m : Nat} {H : Hp} {o : HO}, n ≤ m → (E n).In H o → (E m).In H o) {lo : Int} {n : Nat} (j c N : Nat) {a : Addr} {n0 : Nat} (P : Int → Prop) (hj : L[j]? = some (a, E n0, true)) (hN : n ≤ N) (hl : N ≤ 99999)
    (hs : ∀ (k : Nat) (x : Int), k < n → x = lo + (k : Int) → ∀ (D : Addr) (acc : List V), Wp g (L.set j (a, E (n0 + c * k), true) ++ [(D, .ob (.lst acc), true)]) (tt ((wipe σ [i]).set i (some (.int x)))) fun b L2 => b = true ∧
      Wp g L2 (te ((wipe σ [i]).set i (some (.int x)))) fun y L3 => (∃ v : Int, y = .int v ∧ P v) ∧ ∃ d, d ≤ c ∧ (L.set j (a, E (n0 + c * k + d), true) ++ [(D, .ob (.lst acc), true)]) <+: L3)
    (cc : ∀ (D : Addr) (ys : List Int), ys.length ≤ N → (∀ y ∈ ys, P y) → C (.ref D) (L.set j (a, E (n0 + c * N), true) ++ [(D, .ob (.lst (ys.map V.int)), true)])) (hEm : ∀ n, (E n).mov = true := by intro _; rfl) : WLc g L (Itr lo n) (gName i) tt te [i] σ C := by
  have hjl : j < L.length := (List.getElem?_eq_some_iff.mp hj).1
  refine wlc_mono (C' := fun v L' => ∃ D ys, v = .ref D ∧ ys.length = n ∧ (∀ y ∈ ys, P y) ∧ L' = L.set j (a, E (n0 + c * n), true) ++ [(D, .ob (.lst (ys.map V.int)), true)]) (lc_RD E hE j c P hj (by omega) hs (fun D ys h1 h2 => ⟨D, ys, rfl, h1, h2, rfl⟩) hEm) ?_
  rintro v L' ⟨D, ys, rfl, h1, h2, rfl⟩
  refine ⟨_, cc D ys (by omega) h2, fun H z => ?_⟩
  have hj2 : (L.set j (a, E (n0 + c * n), true) ++ [(D, Ent.ob (.lst (ys.map V.int)), true)])[j]? = some (a, E (n0 + c * n), true) := by
    rw [List.getElem?_append_left (by rw [List.length_set]; exact hjl), List.getElem?_set_self hjl]
  have z6 := z.weak (i := j) (e' := E (n0 + c * N)) hj2 (fun _ o ho => hE (by have := Nat.mul_le_mul_left c hN; omega) ho) (hEm _)
  rw [List.set_append_left _ _ (by rw [List.length_set]; exact hjl), List.set_set] at z6
  exact z6
end
/-! ### x or y by truth; a list times an int -/
section
variable {K : PySem.W.Frag} {g : Gr} {L : Led} {σ : St} {C : V → Led → Prop} {ta tb : TE}
theorem wp_orTN (h : Wp g L (ta σ) fun x L1 => x = .non ∧ Wp g L1 (tb σ) C) : Wp g L (tOrT K ta tb σ) C :=
  fun H a Q q => h H a _ fun x L1 H1 ⟨e, k⟩ a1 => ⟨false, by subst e; exact rfl, k H1 a1 Q q⟩
theorem wp_orT0 (h : Wp g L (ta σ) fun x L1 => ∃ n : Int, x = .int n ∧ C (.int n) L1) : Wp g L (tOrT K ta (tC (.int 0)) σ) C :=
  fun H a Q q => h H a _ fun x L1 H1 ⟨n, e, c⟩ a1 => ⟨n != 0, by subst e; exact rfl, by
    subst e
    by_cases hn : n = 0
    · subst hn
      exact q _ _ _ c a1
    · rw [if_pos (by simpa using hn)]
      exact q _ _ _ c a1⟩
theorem wr_rep {l : Addr} {k : Int} {xs : List V} {bo : Bool} (i : Nat) (h : L[i]? = some (l, .ob (.lst xs), bo)) (h1 : 0 ≤ k ∧ k < 2 ^ 63) (h2 : xs.length * k.toNat ≤ 100000)
    (c : ∀ p, C (.ref p) (L ++ [(p, .ob (.lst (List.replicate k.toNat xs).flatten), true)])) : Wp g L (rRep (.ref l) (.int k)) C :=
  fun H z Q q => ⟨l, k, xs, rfl, rfl, z.get h, by omega, h1.2, Nat.le_trans h2 (by decide), fun p hp => q _ _ _ (c p) (z.upd_new hp)⟩
end
end Kr

set_option Elab.async false
set_option linter.all false
set_option maxRecDepth 100000
set_option maxHeartbeats 1000000
namespace Kr
open PySem L2
theorem ix_tupK {X : Cx} {Kf : PySem.W.Frag} (hK : X.K = Kf) : IxR X (rIxT Kf) := hK ▸ ix_tup
theorem ix_listK {X : Cx} {Kf : PySem.W.Frag} (hK : X.K = Kf) : IxR X (rIxL Kf) := hK ▸ ix_list
theorem c_lenK {X : Cx} {Kf : PySem.W.Frag} (hK : X.K = Kf) : CallR X (.builtin "len") (rLen Kf) := hK ▸ c_len
theorem pg_tupK {X : Cx} {Kf : PySem.W.Frag} {es : List Expr} {k : Nat} {pos : Pos} {t : TGs} {n : Nat} (hK : X.K = Kf) (hc : X.calm = true) (h : PGs X es t) (hn : (assignEach es X.env).length = n) (hst : (assignEach es X.env).findIdx? (·.1) = none := by rfl) : PG X (.Tuple es k pos) (gTup Kf n t) := hK ▸ pg_tup hc h hn hst
/-! ### what an iterator hands on, item by item -/
structure Iter {α : Type} (g : Gr) (L : Led) (J : It) (tg : TG) (xs : List α) (S : α → St → St) : Prop where
  at_ : ∀ H, At g L H → J.stop xs.length H ∧ ∀ i x, xs[i]? = some x → J.go i H ∧ ∀ v H', J.yld i H v H' → Same H H' ∧ ∀ σ (Q : St → Hp → Prop), Q (S x σ) H' → tg v σ H' Q
/-- several names at once -/
def setL : List Nat → List V → St → St
  | i :: is, v :: vs, σ => setL is vs (σ.set i (some v))
  | _, _, σ => σ
def gNames : List Nat → TGs
  | [] => gNil
  | i :: is => gCons (gName i) (gNames is)
theorem gNames_ok : ∀ (is : List Nat) (vs : List V) {σ : St} {H : Hp} {Q : St → Hp → Prop}, is.length = vs.length → Q (setL is vs σ) H → gNames is vs σ H Q
  | [], [], _, _, _, _, q => ⟨rfl, q⟩
  | [], _ :: _, _, _, _, h, _ => by cases h
  | _ :: _, [], _, _, _, h, _ => by cases h
  | i :: is, v :: vs, σ, H, Q, h, q => ⟨v, vs, rfl, gNames_ok is vs (by simpa using h) q⟩
section
variable {α : Type} {g : Gr} {L : Led} {a : Addr} {i : Nat} {Kf : PySem.W.Frag} {bo : Bool}
theorem same_refl {H : Hp} : Same H H := fun _ _ h => h
theorem iter_rng {lo : Int} {n : Nat} : Iter g L (Itr lo n) (gName i) (rngI lo n) (fun x σ => σ.set i (some (.int x))) := ⟨fun H z => by
  refine ⟨show n ≤ (rngI lo n).length by rw [rngI_len]; exact Nat.le_refl _, fun k x hx => ?_⟩
  have hk : k < n := by
    have := (List.getElem?_eq_some_iff.mp hx).1
    rw [rngI_len] at this
    exact this
  rw [rngI_get hk] at hx
  have hx := Option.some.inj hx
  subst hx
  refine ⟨hk, fun v H' hy => ?_⟩
  obtain ⟨e1, e2⟩ := hy
  subst e1 e2
  exact ⟨same_refl, fun σ Q q => q⟩⟩
theorem iter_list (T : α → V) {xs : List α} (s : Seen Kf g L a (xs.map T)) : Iter g L (Itl Kf a) (gName i) xs (fun x σ => σ.set i (some (T x))) := ⟨fun H z => by
  have hs := s.at_ H z
  refine ⟨⟨_, hs, by rw [List.length_map]; exact Nat.le_refl _⟩, fun k x hx => ?_⟩
  have hx2 : (xs.map T)[k]? = some (T x) := by rw [List.getElem?_map, hx]; rfl
  refine ⟨⟨_, _, hs, hx2⟩, fun v H' hy => ?_⟩
  obtain ⟨e1, e2⟩ := hy
  subst e1
  have e3 := e2 _ hs
  rw [hx2] at e3
  have e3 := Option.some.inj e3
  subst e3
  exact ⟨same_refl, fun σ Q q => q⟩⟩
theorem iter_rev (T : α → V) {xs : List α} {n : Nat} (hn : n = xs.length) (s : Seen Kf g L a (xs.map T)) : Iter g L (Itv Kf a n) (gName i) xs.reverse (fun x σ => σ.set i (some (T x))) := ⟨fun H z => by
  have hs := s.at_ H z
  refine ⟨show n ≤ _ by rw [List.length_reverse, hn]; exact Nat.le_refl _, fun k x hx => ?_⟩
  have hk : k < n := by
    have := (List.getElem?_eq_some_iff.mp hx).1
    rw [List.length_reverse] at this
    omega
  have hx2 : (xs.map T)[n - 1 - k]? = some (T x) := by
    rw [List.getElem?_reverse (by omega)] at hx
    rw [List.getElem?_map, hn, hx]
    rfl
  refine ⟨⟨hk, _, _, hs, hx2⟩, fun v H' hy => ?_⟩
  obtain ⟨e1, e2⟩ := hy
  subst e1
  have e3 := e2 _ hs
  rw [hx2] at e3
  have e3 := Option.some.inj e3
  subst e3
  exact ⟨same_refl, fun σ Q q => q⟩⟩
/-- a list of tuples -/
theorem iter_rows (is : List Nat) (row : α → List V) {xs : List α} {n : Nat} (j : Nat) (hj : L[j]? = some (a, .rows (xs.map row), bo)) (hn : ∀ x, (row x).length = n) (hi : is.length = n) :
    Iter g L (Itl Kf a) (gTup Kf n (gNames is)) xs (fun x σ => setL is (row x) σ) := ⟨fun H z => by
  obtain ⟨o, h1, as, e1, hl, hr⟩ := z.look hj
  subst e1
  rw [List.length_map] at hl
  have hs : SqL Kf H a (as.map V.ref) := SqL.of h1
  refine ⟨⟨_, hs, by rw [List.length_map, hl]; exact Nat.le_refl _⟩, fun k x hx => ?_⟩
  have hk : k < as.length := by
    have := (List.getElem?_eq_some_iff.mp hx).1
    omega
  have hx2 : (as.map V.ref)[k]? = some (.ref as[k]) := by rw [List.getElem?_map, List.getElem?_eq_getElem hk]; rfl
  have hx3 := hr k as[k] (row x) (List.getElem?_eq_getElem hk) (by rw [List.getElem?_map, hx]; rfl)
  refine ⟨⟨_, _, hs, hx2⟩, fun v H' hy => ?_⟩
  obtain ⟨e1, e2⟩ := hy
  subst e1
  have e3 := e2 _ hs
  rw [hx2] at e3
  have e3 := Option.some.inj e3
  subst e3
  exact ⟨same_refl, fun σ Q q => ⟨_, _, rfl, SqT.of hx3, hn x, gNames_ok is (row x) (by rw [hi, hn]) q⟩⟩⟩
theorem iter_revrows (is : List Nat) (row : α → List V) {xs : List α} {n m : Nat} (hm : m = xs.length) (j : Nat) (hj : L[j]? = some (a, .rows (xs.map row), bo)) (hn : ∀ x, (row x).length = n) (hi : is.length = n) :
    Iter g L (Itv Kf a m) (gTup Kf n (gNames is)) xs.reverse (fun x σ => setL is (row x) σ) := ⟨fun H z => by
  obtain ⟨o, h1, as, e1, hl, hr⟩ := z.look hj
  subst e1
  rw [List.length_map] at hl
  have hs : SqL Kf H a (as.map V.ref) := SqL.of h1
  refine ⟨show m ≤ _ by rw [List.length_reverse, hm]; exact Nat.le_refl _, fun k x hx => ?_⟩
  have hk0 : k < m := by
    have := (List.getElem?_eq_some_iff.mp hx).1
    rw [List.length_reverse] at this
    omega
  rw [List.getElem?_reverse (by omega), ← hm] at hx
  have hk : m - 1 - k < as.length := by omega
  have hx2 : (as.map V.ref)[m - 1 - k]? = some (.ref as[m - 1 - k]) := by rw [List.getElem?_map, List.getElem?_eq_getElem hk]; rfl
  have hx3 := hr (m - 1 - k) as[m - 1 - k] (row x) (List.getElem?_eq_getElem hk) (by rw [List.getElem?_map, hx]; rfl)
  refine ⟨⟨hk0, _, _, hs, hx2⟩, fun v H' hy => ?_⟩
  obtain ⟨e1, e2⟩ := hy
  subst e1
  have e3 := e2 _ hs
  rw [hx2] at e3
  have e3 := Option.some.inj e3
  subst e3
  exact ⟨same_refl, fun σ Q q => ⟨_, _, rfl, SqT.of hx3, hn x, gNames_ok is (row x) (by rw [hi, hn]) q⟩⟩⟩
/-- enumerate(list) -/
theorem iter_enum (i1 i2 : Nat) (T : α → V) {xs : List α} (s : Seen Kf g L a (xs.map T)) : Iter g L (Ite Kf a) (gTup Kf 2 (gNames [i1, i2])) xs.zipIdx (fun x σ => (σ.set i1 (some (.int (x.2 : Nat)))).set i2 (some (T x.1))) := ⟨fun H z => by
  have hs := s.at_ H z
  refine ⟨⟨_, hs, by rw [List.length_map, List.length_zipIdx]; exact Nat.le_refl _⟩, fun k x hx => ?_⟩
  rw [List.getElem?_zipIdx] at hx
  cases hq : xs[k]? with
  | none => rw [hq] at hx; cases hx
  | some y =>
    rw [hq] at hx
    have hx : (y, 0 + k) = x := Option.some.inj hx
    subst hx
    have hx2 : (xs.map T)[k]? = some (T y) := by rw [List.getElem?_map, hq]; rfl
    refine ⟨⟨_, _, hs, hx2⟩, fun v H' hy => ?_⟩
    obtain ⟨t, w, e1, e2, e3, e4⟩ := hy
    have e5 := e4 _ hs
    rw [hx2] at e5
    have e5 := Option.some.inj e5
    subst e5 e1 e3
    refine ⟨fun c u h => by rw [upd_ne (ne_of_none h e2)]; exact h, fun σ Q q => ⟨t, _, rfl, SqT.of upd_same, rfl, ?_⟩⟩
    refine gNames_ok [i1, i2] [.int (k : Nat), T y] rfl ?_
    have e6 : (0 + k : Nat) = k := Nat.zero_add k
    have q : Q ((σ.set i1 (some (.int ((0 + k : Nat) : Int)))).set i2 (some (T y))) _ := q
    rw [e6] at q
    exact q⟩
end
/-! ### loops -/
section
variable {α : Type} {g : Gr} {L : Led} {σ : St} {K : Ks} {tg : TG} {tb : TS} {J : It} {xs : List α} {S : α → St → St}
/-- a general word -/
theorem wf_G (I : Nat → St → Led → Prop) (it : ∀ i σ L, I i σ L → Iter g L J tg xs S) (h0 : I 0 σ L)
    (hs : ∀ i x σ L, xs[i]? = some x → I i σ L → Ws g L tb (S x σ) { K with nx := fun σ' L' => ∃ L3, I (i + 1) σ' L3 ∧ L3 <+: L', ct := fun σ' L' => ∃ L3, I (i + 1) σ' L3 ∧ L3 <+: L', bk := K.nx })
    (hd : ∀ σ L, I xs.length σ L → K.nx σ L) : WFor g L J tg tb σ K := fun H z D e => by
  refine ⟨fun i m σ H => i ≤ xs.length ∧ m = xs.length - i ∧ ∃ L, I i σ L ∧ At g L H, ⟨xs.length, Nat.zero_le _, rfl, L, h0, z⟩, ?_⟩
  rintro i m σ H ⟨hi, rfl, L, k, z⟩
  obtain ⟨h1, h2⟩ := (it i σ L k).at_ H z
  by_cases hlt : i < xs.length
  · obtain ⟨h3, h4⟩ := h2 i xs[i] (List.getElem?_eq_getElem hlt)
    refine .inr ⟨h3, fun σ' H' => ∃ L, I (i + 1) σ' L ∧ At g L H', fun σ' H' q => ⟨xs.length - (i + 1), by omega, hlt, rfl, q⟩, fun v H' y => ?_⟩
    obtain ⟨h5, h6⟩ := h4 v H' y
    refine h6 σ _ ?_
    have kk : ∀ σ' L' H', (∃ L3, I (i + 1) σ' L3 ∧ L3 <+: L') → At g L' H' → ∃ L, I (i + 1) σ' L ∧ At g L H' := fun σ' L' H' ⟨L3, hi, hp⟩ z' => ⟨L3, hi, z'.pre hp⟩
    exact hs i xs[i] σ L (List.getElem?_eq_getElem hlt) k H' (z.same h5) _ ⟨kk, e.rt, e.nx, kk⟩
  · have e1 : i = xs.length := by omega
    subst e1
    exact .inl ⟨h1, e.nx _ _ _ (hd σ L k) z⟩
/-- the ledger as at the start -/
theorem wf_S (it : Iter g L J tg xs S) (I : Nat → List (Option (Option V)) → Prop) (h0 : ∃ vs, σ = putA σ vs ∧ I 0 vs)
    (hs : ∀ i x vs, xs[i]? = some x → I i vs → Ws g L tb (S x (putA σ vs)) { K with nx := fun σ' L' => ∃ vs', (σ' = putA σ vs' ∧ I (i + 1) vs') ∧ L <+: L', ct := fun σ' L' => ∃ vs', (σ' = putA σ vs' ∧ I (i + 1) vs') ∧ L <+: L', bk := K.nx })
    (hd : ∀ vs, I xs.length vs → K.nx (putA σ vs) L) : WFor g L J tg tb σ K := by
  obtain ⟨vs0, e0, k0⟩ := h0
  refine wf_G (xs := xs) (S := S) (fun i σ' L' => ∃ vs, (σ' = putA σ vs ∧ I i vs) ∧ L' = L) (fun i σ' L' ⟨vs, _, e⟩ => e ▸ it) ⟨vs0, ⟨e0, k0⟩, rfl⟩ ?_ ?_
  · rintro i x σ' L' hi ⟨vs, ⟨rfl, k⟩, rfl⟩
    intro H3 z3 D e
    have kk : ∀ σ' L'' H', (∃ vs', (σ' = putA σ vs' ∧ I (i + 1) vs') ∧ L' <+: L'') → At g L'' H' → D.nx σ' H' := fun σ' L'' H' ⟨vs', h1, h2⟩ z' => e.nx σ' L'' H' ⟨L', ⟨vs', h1, rfl⟩, h2⟩ z'
    have kc : ∀ σ' L'' H', (∃ vs', (σ' = putA σ vs' ∧ I (i + 1) vs') ∧ L' <+: L'') → At g L'' H' → D.ct σ' H' := fun σ' L'' H' ⟨vs', h1, h2⟩ z' => e.ct σ' L'' H' ⟨L', ⟨vs', h1, rfl⟩, h2⟩ z'
    exact hs i x vs hi k H3 z3 D ⟨kk, e.rt, e.bk, kc⟩
  · rintro σ' L' ⟨vs, ⟨rfl, k⟩, rfl⟩
    exact hd vs k
/-- one own object grows -/
theorem wf_A (j : Nat) {a : Addr} {e0 : Ent} (hj : L[j]? = some (a, e0, true)) (it : ∀ e, Iter g (L.set j (a, e, true)) J tg xs S) (I : Nat → List (Option (Option V)) → Ent → Prop) (h0 : ∃ vs, σ = putA σ vs ∧ I 0 vs e0)
    (hs : ∀ i x vs e, xs[i]? = some x → I i vs e → Ws g (L.set j (a, e, true)) tb (S x (putA σ vs)) { K with nx := fun σ' L' => ∃ vs' e', (σ' = putA σ vs' ∧ I (i + 1) vs' e') ∧ L.set j (a, e', true) <+: L', ct := fun σ' L' => ∃ vs' e', (σ' = putA σ vs' ∧ I (i + 1) vs' e') ∧ L.set j (a, e', true) <+: L', bk := K.nx })
    (hd : ∀ vs e, I xs.length vs e → K.nx (putA σ vs) (L.set j (a, e, true))) : WFor g L J tg tb σ K := by
  obtain ⟨vs0, e0', k0⟩ := h0
  refine wf_G (xs := xs) (S := S) (fun i σ' L' => ∃ vs e, (σ' = putA σ vs ∧ I i vs e) ∧ L' = L.set j (a, e, true)) (fun i σ' L' ⟨vs, e, _, q⟩ => q ▸ it e) ⟨vs0, _, ⟨e0', k0⟩, (set_self hj).symm⟩ ?_ ?_
  · rintro i x σ' L' hi ⟨vs, en, ⟨rfl, k⟩, rfl⟩
    intro H3 z3 D e
    have kk : ∀ σ' L'' H', (∃ vs' e', (σ' = putA σ vs' ∧ I (i + 1) vs' e') ∧ L.set j (a, e', true) <+: L'') → At g L'' H' → D.nx σ' H' := fun σ' L'' H' ⟨vs', e', h1, h2⟩ z' => e.nx σ' L'' H' ⟨_, ⟨vs', e', h1, rfl⟩, h2⟩ z'
    have kc : ∀ σ' L'' H', (∃ vs' e', (σ' = putA σ vs' ∧ I (i + 1) vs' e') ∧ L.set j (a, e', true) <+: L'') → At g L'' H' → D.ct σ' H' := fun σ' L'' H' ⟨vs', e', h1, h2⟩ z' => e.ct σ' L'' H' ⟨_, ⟨vs', e', h1, rfl⟩, h2⟩ z'
    exact hs i x vs en hi k H3 z3 D ⟨kk, e.rt, e.bk, kc⟩
  · rintro σ' L' ⟨vs, en, ⟨rfl, k⟩, rfl⟩
    exact hd vs en k
/-- draws are counted -/
theorem wf_D (E : Nat → Ent) (hE : ∀ {n m : Nat} {H : Hp} {o : HO}, n ≤ m → (E n).In H o → (E m).In H o) (j c : Nat) {a : Addr} {n0 : Nat} (hj : L[j]? = some (a, E n0, true)) (it : ∀ e, Iter g (L.set j (a, e, true)) J tg xs S) (I : Nat → List (Option (Option V)) → Prop) (h0 : ∃ vs, σ = putA σ vs ∧ I 0 vs)
    (hs : ∀ i x vs, xs[i]? = some x → I i vs → Ws g (L.set j (a, E (n0 + c * i), true)) tb (S x (putA σ vs)) { K with nx := fun σ' L' => ∃ vs', (σ' = putA σ vs' ∧ I (i + 1) vs') ∧ ∃ k, k ≤ c ∧ L.set j (a, E (n0 + c * i + k), true) <+: L', ct := fun σ' L' => ∃ vs', (σ' = putA σ vs' ∧ I (i + 1) vs') ∧ ∃ k, k ≤ c ∧ L.set j (a, E (n0 + c * i + k), true) <+: L', bk := K.nx })
    (hd : ∀ vs, I xs.length vs → K.nx (putA σ vs) (L.set j (a, E (n0 + c * xs.length), true))) (hEm : ∀ n, (E n).mov = true := by intro _; rfl) : WFor g L J tg tb σ K := fun H z D e => by
  have hjl : j < L.length := (List.getElem?_eq_some_iff.mp hj).1
  have hse : L.set j (a, E (n0 + c * 0), true) = L := by
    rw [Nat.mul_zero, Nat.add_zero]
    exact set_self hj
  obtain ⟨vs0, e0, k0⟩ := h0
  refine ⟨fun i m σ' H' => i ≤ xs.length ∧ m = xs.length - i ∧ ∃ vs, (σ' = putA σ vs ∧ I i vs) ∧ At g (L.set j (a, E (n0 + c * i), true)) H', ⟨xs.length, Nat.zero_le _, rfl, vs0, ⟨e0, k0⟩, hse.symm ▸ z⟩, ?_⟩
  rintro i m σ' H ⟨hi, rfl, vs, ⟨rfl, k⟩, z⟩
  obtain ⟨h1, h2⟩ := (it (E (n0 + c * i))).at_ H z
  by_cases hlt : i < xs.length
  · obtain ⟨h3, h4⟩ := h2 i xs[i] (List.getElem?_eq_getElem hlt)
    refine .inr ⟨h3, fun σ' H' => ∃ vs, (σ' = putA σ vs ∧ I (i + 1) vs) ∧ At g (L.set j (a, E (n0 + c * (i + 1)), true)) H', fun σ' H' q => ⟨xs.length - (i + 1), by omega, hlt, rfl, q⟩, fun v H' y => ?_⟩
    obtain ⟨h5, h6⟩ := h4 v H' y
    refine h6 _ _ ?_
    have kk : ∀ σ' L'' H', (∃ vs', (σ' = putA σ vs' ∧ I (i + 1) vs') ∧ ∃ k, k ≤ c ∧ L.set j (a, E (n0 + c * i + k), true) <+: L'') → At g L'' H' → ∃ vs, (σ' = putA σ vs ∧ I (i + 1) vs) ∧ At g (L.set j (a, E (n0 + c * (i + 1)), true)) H' := fun σ' L'' H' ⟨vs', h1, kd, hk, h2⟩ z' => by
      refine ⟨vs', h1, ?_⟩
      have z3 := z'.pre h2
      have z4 := z3.weak (i := j) (e' := E (n0 + c * (i + 1))) (List.getElem?_set_self hjl) (fun _ o ho => hE (by have : c * (i + 1) = c * i + c := Nat.mul_succ c i; omega) ho) (hEm _)
      rw [List.set_set] at z4
      exact z4
    exact hs i xs[i] vs (List.getElem?_eq_getElem hlt) k H' (z.same h5) _ ⟨kk, e.rt, e.nx, kk⟩
  · have e1 : i = xs.length := by omega
    subst e1
    exact .inl ⟨h1, e.nx _ _ _ (hd vs k) z⟩
/-- draws are counted, and an object of the last turn stays -/
theorem wf_DX (E : Nat → Ent) (hE : ∀ {n m : Nat} {H : Hp} {o : HO}, n ≤ m → (E n).In H o → (E m).In H o) (j c : Nat) {a : Addr} {n0 : Nat} (hj : L[j]? = some (a, E n0, true)) (it : ∀ e, Iter g (L.set j (a, e, true)) J tg xs S) (I : Nat → List (Option (Option V)) → Option (Addr × Ent × Bool) → Prop) (h0 : ∃ vs, σ = putA σ vs ∧ I 0 vs none)
    (hs : ∀ i x vs ex, xs[i]? = some x → I i vs ex → Ws g (L.set j (a, E (n0 + c * i), true)) tb (S x (putA σ vs)) { K with nx := fun σ' L' => ∃ vs' ex', (σ' = putA σ vs' ∧ I (i + 1) vs' ex') ∧ ∃ k, k ≤ c ∧ L.set j (a, E (n0 + c * i + k), true) <+: L' ∧ ∀ x, ex' = some x → ∃ q, L.length ≤ q ∧ L'[q]? = some x, ct := fun σ' L' => ∃ vs' ex', (σ' = putA σ vs' ∧ I (i + 1) vs' ex') ∧ ∃ k, k ≤ c ∧ L.set j (a, E (n0 + c * i + k), true) <+: L' ∧ ∀ x, ex' = some x → ∃ q, L.length ≤ q ∧ L'[q]? = some x, bk := K.nx })
    (hd : ∀ vs ex, I xs.length vs ex → K.nx (putA σ vs) (L.set j (a, E (n0 + c * xs.length), true) ++ ex.toList)) (hEm : ∀ n, (E n).mov = true := by intro _; rfl) : WFor g L J tg tb σ K := fun H z D e => by
  have hjl : j < L.length := (List.getElem?_eq_some_iff.mp hj).1
  have hse : L.set j (a, E (n0 + c * 0), true) = L := by
    rw [Nat.mul_zero, Nat.add_zero]
    exact set_self hj
  obtain ⟨vs0, e0, k0⟩ := h0
  refine ⟨fun i m σ' H' => i ≤ xs.length ∧ m = xs.length - i ∧ ∃ vs ex, (σ' = putA σ vs ∧ I i vs ex) ∧ At g (L.set j (a, E (n0 + c * i), true) ++ ex.toList) H', ⟨xs.length, Nat.zero_le _, rfl, vs0, none, ⟨e0, k0⟩, by rw [hse]; simpa using z⟩, ?_⟩
  rintro i m σ' H ⟨hi, rfl, vs, ex, ⟨rfl, k⟩, z0⟩
  have z := z0.pre (L := L.set j (a, E (n0 + c * i), true)) ⟨_, rfl⟩
  obtain ⟨h1, h2⟩ := (it (E (n0 + c * i))).at_ H z
  by_cases hlt : i < xs.length
  · obtain ⟨h3, h4⟩ := h2 i xs[i] (List.getElem?_eq_getElem hlt)
    refine .inr ⟨h3, fun σ' H' => ∃ vs ex, (σ' = putA σ vs ∧ I (i + 1) vs ex) ∧ At g (L.set j (a, E (n0 + c * (i + 1)), true) ++ ex.toList) H', fun σ' H' q => ⟨xs.length - (i + 1), by omega, hlt, rfl, q⟩, fun v H' y => ?_⟩
    obtain ⟨h5, h6⟩ := h4 v H' y
    refine h6 _ _ ?_
    have kk : ∀ σ' L'' H', (∃ vs' ex', (σ' = putA σ vs' ∧ I (i + 1) vs' ex') ∧ ∃ k, k ≤ c ∧ L.set j (a, E (n0 + c * i + k), true) <+: L'' ∧ ∀ x, ex' = some x → ∃ q, L.length ≤ q ∧ L''[q]? = some x) → At g L'' H' → ∃ vs ex, (σ' = putA σ vs ∧ I (i + 1) vs ex) ∧ At g (L.set j (a, E (n0 + c * (i + 1)), true) ++ ex.toList) H' := fun σ' L'' H' ⟨vs', ex', h1, kd, hk, h2, h3⟩ z' => by
      refine ⟨vs', ex', h1, ?_⟩
      have hsub : (L.set j (a, E (n0 + c * i + kd), true) ++ ex'.toList).Sublist L'' := by
        obtain ⟨r, hr⟩ := h2
        subst hr
        refine List.Sublist.append (List.Sublist.refl _) ?_
        cases ex' with
        | none => exact List.nil_sublist _
        | some x =>
          obtain ⟨q, hq, hx⟩ := h3 x rfl
          rw [List.getElem?_append_right (by rw [List.length_set]; exact hq)] at hx
          exact List.singleton_sublist.mpr (List.mem_of_getElem? hx)
      have z3 := z'.sub hsub
      have hg : (L.set j (a, E (n0 + c * i + kd), true) ++ ex'.toList)[j]? = some (a, E (n0 + c * i + kd), true) := by
        rw [List.getElem?_append_left (by rw [List.length_set]; exact hjl), List.getElem?_set_self hjl]
      have z4 := z3.weak (i := j) (e' := E (n0 + c * (i + 1))) hg (fun _ o ho => hE (by have : c * (i + 1) = c * i + c := Nat.mul_succ c i; omega) ho) (hEm _)
      rw [List.set_append_left _ _ (by rw [List.length_set]; exact hjl), List.set_set] at z4
      exact z4
    exact hs i xs[i] vs ex (List.getElem?_eq_getElem hlt) k H' (z.same h5) _ ⟨kk, e.rt, e.nx, kk⟩
  · have e1 : i = xs.length := by omega
    subst e1
    exact .inl ⟨h1, e.nx _ _ _ (hd vs ex k) z0⟩
/-- while: one own object grows -/
theorem ws_whileA {t1 : TS} {cT : TT} (j : Nat) {a : Addr} {e0 : Ent} (hj : L[j]? = some (a, e0, true)) (I : Nat → List (Option (Option V)) → Ent → Prop) (h0 : ∃ m vs, σ = putA σ vs ∧ I m vs e0)
    (hs : ∀ m vs e, I m vs e → Wp g (L.set j (a, e, true)) (cT (putA σ vs)) fun b L1 => if b = true then Ws g L1 t1 (putA σ vs) { K with nx := fun σ' L' => ∃ m' vs' e', m' < m ∧ (σ' = putA σ vs' ∧ I m' vs' e') ∧ L.set j (a, e', true) <+: L', ct := fun σ' L' => ∃ m' vs' e', m' < m ∧ (σ' = putA σ vs' ∧ I m' vs' e') ∧ L.set j (a, e', true) <+: L', bk := K.nx } else K.nx (putA σ vs) L1) :
    Ws g L (tWhile cT t1) σ K := by
  obtain ⟨m0, vs0, h1, h2⟩ := h0
  refine ws_whileN (fun m σ' L' => ∃ vs e, (σ' = putA σ vs ∧ I m vs e) ∧ L' = L.set j (a, e, true)) ⟨m0, vs0, e0, ⟨h1, h2⟩, (set_self hj).symm⟩ ?_
  rintro m σ' L' ⟨vs, en, ⟨rfl, k⟩, rfl⟩
  refine (hs m vs en k).mono fun b L1 q => ?_
  cases b with
  | true =>
    have q : Ws g L1 t1 _ _ := q
    show Ws g L1 t1 _ _
    intro H3 z3 D e
    have kk : ∀ σ' L'' H', (∃ m' vs' e', m' < m ∧ (σ' = putA σ vs' ∧ I m' vs' e') ∧ L.set j (a, e', true) <+: L'') → At g L'' H' → D.nx σ' H' := fun σ' L'' H' ⟨m', vs', e', h0, h1, h2⟩ z' => e.nx σ' L'' H' ⟨m', _, h0, ⟨vs', e', h1, rfl⟩, h2⟩ z'
    have kc : ∀ σ' L'' H', (∃ m' vs' e', m' < m ∧ (σ' = putA σ vs' ∧ I m' vs' e') ∧ L.set j (a, e', true) <+: L'') → At g L'' H' → D.ct σ' H' := fun σ' L'' H' ⟨m', vs', e', h0, h1, h2⟩ z' => e.ct σ' L'' H' ⟨m', _, h0, ⟨vs', e', h1, rfl⟩, h2⟩ z'
    exact q H3 z3 D ⟨kk, e.rt, e.bk, kc⟩
  | false => exact q
end
/-! ### comprehensions -/
section
variable {α : Type} {g : Gr} {L : Led} {σ : St} {C : V → Led → Prop} {tt : TT} {te : TE} {tg : TG} {J : It} {xs : List α} {S : α → St → St} {vs : List Nat}
/-- the list that grows is told by an entry of what it has -/
theorem lc_G {β : Type} (En : List β → Ent) (hmv : ∀ ys, (En ys).mov = true) (p : α → Bool) (f : α → β) (it : Iter g L J tg xs S) (hw : ∀ x, wipe (S x (wipe σ vs)) vs = wipe σ vs) (hl : xs.length ≤ 99999)
    (e0 : ∀ H, (En []).In H (.lst []))
    (hs : ∀ x, x ∈ xs → ∀ (D : Addr) (acc : List β), Wp g (L ++ [(D, En acc, true)]) (tt (S x (wipe σ vs))) fun b L2 => b = p x ∧
      if b = true then Wp g L2 (te (S x (wipe σ vs))) fun y L3 => (L ++ [(D, En acc, true)]) <+: L3 ∧ ∀ H, At g L3 H → ∃ ac, H D = some (.lst ac) ∧ ac.length = acc.length ∧ (En (acc ++ [f x])).In (upd H D (.lst (ac ++ [y]))) (.lst (ac ++ [y])) else (L ++ [(D, En acc, true)]) <+: L2)
    (c : ∀ D, C (.ref D) (L ++ [(D, En ((xs.filter p).map f), true)])) : WLc g L J tg tt te vs σ C := fun H z Q q D hD => by
  have hi : ∀ e : Ent, (L ++ [(D, e, true)])[L.length]? = some (D, e, true) := fun o => by simp
  have hsub : ∀ {e : Ent} {H : Hp}, At g (L ++ [(D, e, true)]) H → At g L H := fun z => z.pre ⟨_, rfl⟩
  refine ⟨fun i m H => i ≤ xs.length ∧ m = xs.length - i ∧ At g (L ++ [(D, En (((xs.take i).filter p).map f), true)]) H, ⟨xs.length, Nat.zero_le _, rfl, ?_⟩, ?_⟩
  · refine z.newE (fun c u e => by rw [upd_ne (ne_of_none e hD)]; exact e) hD upd_same ?_
    simpa using e0 _
  rintro i m H ⟨hi0, rfl, z⟩
  obtain ⟨h1, h2⟩ := it.at_ H (hsub z)
  by_cases hlt : i < xs.length
  · have hxi := List.getElem?_eq_getElem hlt
    obtain ⟨h3, h4⟩ := h2 i xs[i] hxi
    refine .inr ⟨h3, fun H' => At g (L ++ [(D, En (((xs.take (i + 1)).filter p).map f), true)]) H', fun H' q => ⟨xs.length - (i + 1), by omega, hlt, rfl, q⟩, fun v H' y => ?_⟩
    obtain ⟨h5, h6⟩ := h4 v H' y
    refine h6 _ _ ⟨hw _, ?_⟩
    have hacc := filter_take_succ p f hxi
    have hlen : (((xs.take i).filter p).map f).length < 100000 := by
      have := List.length_filter_le p (xs.take i)
      have h3 : (xs.take i).length ≤ xs.length := by simp; omega
      rw [List.length_map]
      omega
    generalize ((xs.take i).filter p).map f = acc at z hacc hlen
    refine hs xs[i] (List.mem_of_getElem? hxi) D acc H' (z.same h5) _ fun b L2 H2 ⟨eb, k⟩ z2 => ?_
    subst eb
    cases hp : p xs[i] with
    | true =>
      rw [hp] at k hacc
      have k : Wp g L2 _ _ := k
      refine k H2 z2 _ fun y L3 H3 ⟨hpre, hn⟩ z3 => ?_
      obtain ⟨ac, q1, q2, q3⟩ := hn H3 z3
      have z4 := z3.pre hpre
      refine ⟨ac, q1, by rw [q2]; exact Nat.lt_of_lt_of_le hlen (by decide), ?_⟩
      have z5 := z4.chg (e' := En (acc ++ [f xs[i]])) (H' := upd H3 D (.lst (ac ++ [y]))) (o := .lst (ac ++ [y])) (hi _) (fun c u e z => by rw [upd_ne z]; exact e) upd_same q3 (hmv _)
      rw [List.set_append_right _ _ (Nat.le_refl _), Nat.sub_self] at z5
      rw [hacc]
      exact z5
    | false =>
      rw [hp] at k hacc
      have k : _ <+: L2 := k
      have e2 : ((xs.take (i + 1)).filter p).map f = acc := by rw [hacc]; simp
      show At g _ H2
      rw [e2]
      exact z2.pre k
  · have e1 : i = xs.length := by omega
    subst e1
    rw [List.take_length] at z
    exact .inl ⟨h1, q _ _ _ (c D) z⟩
/-- a list of values -/
theorem lc_V {β : Type} (T : β → V) (p : α → Bool) (f : α → β) (it : Iter g L J tg xs S) (hw : ∀ x, wipe (S x (wipe σ vs)) vs = wipe σ vs) (hl : xs.length ≤ 99999)
    (hs : ∀ x, x ∈ xs → ∀ (D : Addr) (acc : List V), Wp g (L ++ [(D, .ob (.lst acc), true)]) (tt (S x (wipe σ vs))) fun b L2 => b = p x ∧
      if b = true then Wp g L2 (te (S x (wipe σ vs))) fun y L3 => y = T (f x) ∧ (L ++ [(D, .ob (.lst acc), true)]) <+: L3 else (L ++ [(D, .ob (.lst acc), true)]) <+: L2)
    (c : ∀ D, C (.ref D) (L ++ [(D, .ob (.lst (((xs.filter p).map f).map T)), true)])) : WLc g L J tg tt te vs σ C := by
  refine lc_G (fun ys => .ob (.lst (ys.map T))) (fun _ => rfl) p f it hw hl (fun _ => rfl) (fun x hx D acc => ?_) c
  refine (hs x hx D (acc.map T)).mono fun b L2 ⟨e, k⟩ => ⟨e, ?_⟩
  cases b with
  | true =>
    refine Wp.mono (show Wp g L2 _ _ from k) fun y L3 ⟨ey, hp⟩ => ⟨hp, fun H z => ?_⟩
    have hg := (z.pre hp).get (i := L.length) (a := D) (o := .lst (acc.map T)) (b := true) (by simp)
    subst ey
    refine ⟨_, hg, by rw [List.length_map], ?_⟩
    show HO.lst _ = HO.lst _
    rw [List.map_append]
    rfl
  | false => exact k
/-- a list of tuples -/
theorem rows_snoc {rs : List (List V)} {r : List V} {H : Hp} {D p : Addr} (h : (Ent.rows rs).In H (.lst ac)) (hD : H D = some (.lst ac)) (hp : H p = some (.tup r)) : (Ent.rows (rs ++ [r])).In (upd H D (.lst (ac ++ [.ref p]))) (.lst (ac ++ [.ref p])) := by
  obtain ⟨as, e, hl, h3⟩ := h
  have e : ac = as.map V.ref := by injection e
  subst e
  refine ⟨as ++ [p], by simp, by simp [hl], fun k a r' q1 q2 => ?_⟩
  have hne : H a = some (.tup r') → upd H D (.lst (as.map V.ref ++ [.ref p])) a = some (.tup r') := fun h => by
    rw [upd_ne]
    · exact h
    · intro z
      subst z
      rw [hD] at h
      cases h
  apply hne
  by_cases hk : k < as.length
  · rw [List.getElem?_append_left hk] at q1
    rw [List.getElem?_append_left (by omega)] at q2
    exact h3 k a r' q1 q2
  · rw [List.getElem?_append_right (by omega)] at q1
    rw [List.getElem?_append_right (by omega)] at q2
    rw [hl] at q1
    have hk0 : k - rs.length = 0 := by
      have := (List.getElem?_eq_some_iff.mp q1).1
      simp at this
      omega
    rw [hk0] at q1 q2
    have q1 : p = a := by simpa using q1
    have q2 : r = r' := by simpa using q2
    subst q1 q2
    exact hp
theorem lc_T {β : Type} (row : β → List V) (p : α → Bool) (f : α → β) (it : Iter g L J tg xs S) (hw : ∀ x, wipe (S x (wipe σ vs)) vs = wipe σ vs) (hl : xs.length ≤ 99999)
    (hs : ∀ x, x ∈ xs → ∀ (D : Addr) (acc : List (List V)), Wp g (L ++ [(D, .rows acc, true)]) (tt (S x (wipe σ vs))) fun b L2 => b = p x ∧
      if b = true then Wp g L2 (te (S x (wipe σ vs))) fun y L3 => (∃ (q : Addr) (j : Nat) (bo : Bool), y = .ref q ∧ L3[j]? = some (q, .ob (.tup (row (f x))), bo)) ∧ (L ++ [(D, .rows acc, true)]) <+: L3 else (L ++ [(D, .rows acc, true)]) <+: L2)
    (c : ∀ D, C (.ref D) (L ++ [(D, .rows (((xs.filter p).map f).map row), true)])) : WLc g L J tg tt te vs σ C := by
  refine lc_G (fun ys => .rows (ys.map row)) (fun _ => rfl) p f it hw hl (fun _ => ⟨[], rfl, rfl, fun k a r h => by simp at h⟩) (fun x hx D acc => ?_) c
  refine (hs x hx D (acc.map row)).mono fun b L2 ⟨e, k⟩ => ⟨e, ?_⟩
  cases b with
  | true =>
    refine Wp.mono (show Wp g L2 _ _ from k) fun y L3 ⟨⟨q, j, bo, ey, hq⟩, hp⟩ => ⟨hp, fun H z => ?_⟩
    obtain ⟨o, hg, hin⟩ := (z.pre hp).look (i := L.length) (a := D) (e := .rows (acc.map row)) (b := true) (by simp)
    subst ey
    obtain ⟨as, e1, hl1, h3⟩ := hin
    subst e1
    refine ⟨_, hg, by rw [List.length_map, hl1, List.length_map], ?_⟩
    show (Ent.rows ((acc ++ [f x]).map row)).In _ _
    rw [List.map_append]
    exact rows_snoc ⟨as, rfl, hl1, h3⟩ hg (z.get hq)
  | false => exact k
end
/-! ### lists of tuples -/
section
variable {K : PySem.W.Frag} {g : Gr} {L : Led} {σ : St} {C : V → Led → Prop} {a p : Addr} {bo : Bool} {Kz : Ks} {t : TS}
theorem rows_nil {H : Hp} {o : HO} (h : (Ent.ob (.lst [])).In H o) : (Ent.rows []).In H o := ⟨[], h, rfl, fun k a r h => by simp at h⟩
theorem ws_rows (i : Nat) (k : L[i]? = some (a, .ob (.lst []), bo)) (c : Ws g (L.set i (a, .rows [], bo)) t σ Kz) : Ws g L t σ Kz := ws_weak k (fun _ _ h => rows_nil h) c
theorem ty_rows {rs : List (List V)} (i : Nat) (h : L[i]? = some (a, .rows rs, bo)) : ∀ H, At g L H → tyV K "list" (.ref a) H := fun H z => by
  obtain ⟨o, h1, as, e1, _⟩ := z.look h
  subst e1
  exact .inl ⟨rfl, _, SqL.of h1⟩
theorem wr_appT {rs : List (List V)} {r : List V} (i j : Nat) (h : L[i]? = some (a, .rows rs, true)) (hj : L[j]? = some (p, .ob (.tup r), bo)) (hl : rs.length < 100000) (c : C .non (L.set i (a, .rows (rs ++ [r]), true))) : Wp g L (rAppend (.ref a) [.ref p]) C :=
  fun H z Q q => by
    obtain ⟨o, h1, as, e1, hl1, h3⟩ := z.look h
    subst e1
    refine ⟨a, _, .ref p, rfl, rfl, h1, Nat.lt_of_lt_of_le (by rw [List.length_map, hl1]; exact hl) (by decide), q _ _ _ c ?_⟩
    exact z.chg h (fun c u e z => by rw [upd_ne z]; exact e) upd_same (rows_snoc ⟨as, rfl, hl1, h3⟩ h1 (z.get hj))
theorem wc_lenR {rs : List (List V)} (i : Nat) (h : L[i]? = some (a, .rows rs, bo)) (c : C (.int (rs.length : Int)) L) : Wp g L (rLen K [.ref a]) C := .now (fun H _ z q => by
  obtain ⟨o, h1, as, e1, hl1, h3⟩ := z.look h
  subst e1
  exact ⟨a, _, rfl, .inl (SqL.of h1), by rw [List.length_map, hl1]; exact q⟩) c
/-- extend by a list -/
theorem wr_ext {a2 : Addr} {xs ys : List V} {b2 : Bool} (i j : Nat) (h1 : L[i]? = some (a, .ob (.lst xs), true)) (h2 : L[j]? = some (a2, .ob (.lst ys), b2)) (hl : xs.length + ys.length ≤ 100000)
    (c : C .non (L.set i (a, .ob (.lst (xs ++ ys)), true))) : Wp g L (rExtend (.ref a) [.ref a2]) C :=
  fun H z Q q => ⟨a, a2, xs, ys, rfl, rfl, z.get h1, z.get h2, Nat.le_trans hl (by decide), q _ _ _ c (z.upd_chg h1)⟩
/-- iterators -/
theorem wi_rows {te : TE} {T : It → Led → Prop} (j : Nat) (h : Wp g L (te σ) fun x L1 => ∃ (a : Addr) (bo : Bool) (rs : List (List V)), x = .ref a ∧ L1[j]? = some (a, .rows rs, bo) ∧ T (Itl K a) L1) : Wp g L (iList K te σ) T :=
  fun H z Q q => h H z _ fun x L1 H1 ⟨a, bo, rs, e, s, k⟩ z1 => by
    obtain ⟨o, h1, as, e1, _⟩ := z1.look s
    subst e1
    exact ⟨a, e, ⟨_, SqL.of h1⟩, q _ _ _ k z1⟩
theorem wi_enum {tr : TA} {T : It → Led → Prop} (h : Wp g L (tr σ) fun vs L1 => ∃ (a : Addr) (xs : List V), vs = [.ref a] ∧ Seen K g L1 a xs ∧ T (Ite K a) L1) : Wp g L (iEnum K tr σ) T :=
  fun H z Q q => h H z _ fun x L1 H1 ⟨a, xs, e, s, k⟩ z1 => ⟨a, xs, e, s.at_ H1 z1, q _ _ _ k z1⟩
theorem wi_rev {tr : TA} {T : It → Led → Prop} (h : Wp g L (tr σ) fun vs L1 => ∃ (a : Addr) (xs : List V), vs = [.ref a] ∧ Seen K g L1 a xs ∧ T (Itv K a xs.length) L1) : Wp g L (iRev K tr σ) T :=
  fun H z Q q => h H z _ fun x L1 H1 ⟨a, xs, e, s, k⟩ z1 => ⟨a, xs, e, s.at_ H1 z1, q _ _ _ k z1⟩
theorem wi_revrows {tr : TA} {T : It → Led → Prop} (j : Nat) (h : Wp g L (tr σ) fun vs L1 => ∃ (a : Addr) (bo : Bool) (rs : List (List V)), vs = [.ref a] ∧ L1[j]? = some (a, .rows rs, bo) ∧ T (Itv K a rs.length) L1) : Wp g L (iRev K tr σ) T :=
  fun H z Q q => h H z _ fun x L1 H1 ⟨a, bo, rs, e, s, k⟩ z1 => by
    obtain ⟨o, h1, as, e1, hl, _⟩ := z1.look s
    subst e1
    refine ⟨a, _, e, SqL.of h1, ?_⟩
    rw [List.length_map, hl]
    exact q _ _ _ k z1
end
/-! ### promises with lists of tuples -/
section
def kRows (R : List (List V) → Prop) : Ks := { nx := fun _ _ => False, rt := fun v L => ∃ (p : Addr) (i : Nat) (rs : List (List V)), v = .ref p ∧ L[i]? = some (p, Ent.rows rs, true) ∧ R rs }
theorem eo_Rows {H0 : Hp} {R : List (List V) → Prop} {Q : VK} (h : ∀ p H' rs, R rs → H0 p = none → Same H0 H' → EntAt (.rows rs) H' p → Q (.ref p) H') : Eo ⟨H0, fun _ => False⟩ (kRows R) { nx := fun _ H' => Q .non H', rt := Q } :=
  ⟨fun _ _ _ k _ => k.elim, fun v L H ⟨p, i, rs, e, k, r⟩ z => by
    subst e
    refine h p H rs r ?_ z.since (z.look k)
    rcases z.own _ (List.mem_of_getElem? k) rfl with q | q
    · exact q
    · exact q.elim, fun _ _ _ k _ => k.elim, fun _ _ _ k _ => k.elim⟩
theorem At.newEA {g : Gr} {L : Led} {H H' : Hp} {p : Addr} {e : Ent} (h : At g L H) (s : Same H H') (n : H p = none) (he : EntAt e H' p) : At g (L ++ [(p, e, true)]) H' := by
  obtain ⟨o, h1, h2⟩ := he
  exact h.newE s n h1 h2
end
theorem rng_of {lo x : Int} {n i : Nat} (h : (rngI lo n)[i]? = some x) : i < n ∧ x = lo + (i : Int) := by
  have hk : i < n := by
    have := (List.getElem?_eq_some_iff.mp h).1
    rw [rngI_len] at this
    exact this
  rw [rngI_get hk] at h
  exact ⟨hk, (Option.some.inj h).symm⟩
/-! ### x += e -/
theorem ws_aug {g : Gr} {L : Led} {σ : St} {K : Ks} {i : Nat} {m : Int} {f : Int → Int → Int} {te : TE} (h0 : σ[i]? = some (some (.int m))) (h : Wp g L (te σ) fun y L1 => ∃ n : Int, y = .int n ∧ K.nx (σ.set i (some (.int (f m n)))) L1) : Ws g L (tAug i te (ipI f)) σ K :=
  fun H z D e => ⟨_, h0, h H z _ fun y L1 H1 ⟨n, e1, k⟩ z1 => ⟨m, n, rfl, e1, e.nx _ _ _ k z1⟩⟩
/-! ### rows of ints -/
def row2 (x : Int × Int) : List V := [.int x.1, .int x.2]
def row3 (x : Int × Int × Int) : List V := [.int x.1, .int x.2.1, .int x.2.2]
def row4 (x : Int × Int × Int × Int) : List V := [.int x.1, .int x.2.1, .int x.2.2.1, .int x.2.2.2]
theorem app_row2 {xs : List (Int × Int)} {a b : Int} : xs.map row2 ++ [[V.int a, .int b]] = (xs ++ [(a, b)]).map row2 := by rw [List.map_append]; rfl
theorem app_row3 {xs : List (Int × Int × Int)} {a b c : Int} : xs.map row3 ++ [[V.int a, .int b, .int c]] = (xs ++ [(a, b, c)]).map row3 := by rw [List.map_append]; rfl
theorem app_row4 {xs : List (Int × Int × Int × Int)} {a b c d : Int} : xs.map row4 ++ [[V.int a, .int b, .int c, .int d]] = (xs ++ [(a, b, c, d)]).map row4 := by rw [List.map_append]; rfl
theorem app_ints {xs : List Int} {v : Int} : xs.map V.int ++ [V.int v] = (xs ++ [v]).map V.int := by rw [List.map_append]; rfl
/-- the first of a list, or None -/
def headV (ys : List Int) : V := match ys with
  | [] => .non
  | y :: _ => .int y
theorem headV_at (ys : List Int) : atI (ys.map V.int ++ [.non]) 0 = some (headV ys) := by
  cases ys with
  | nil => rfl
  | cons y r => exact at_of (j := 0) (by decide) rfl
end Kr

set_option Elab.async false
set_option linter.all false
set_option maxRecDepth 100000
set_option maxHeartbeats 1000000
/-! ### min(x, default=d), max(x, default=d), min(x) over data -/
namespace L2
open PySem PySem.Spec PyProof.Rows PySem.W
def rMinDf (K : PySem.W.Frag) : List V → List V → Hp → VK → Prop := fun vs zs H Q => ∃ (a : Addr) (xs : List V) (ds : List PyData) (d : V), vs = [.ref a] ∧ zs = [d] ∧ SqL K H a xs ∧ DpAll K H xs ds ∧ AlikeAll ds ∧ PyData.depthAll ds ≤ 60 ∧ (ds = [] → Q d H) ∧
  ∀ (i : Nat) (x : V) (y : PyData) (ys : List PyData), ds = y :: ys → xs[i]? = some x → ds[i]? = some (minD y ys) → Q x H
def rMaxDf (K : PySem.W.Frag) : List V → List V → Hp → VK → Prop := fun vs zs H Q => ∃ (a : Addr) (xs : List V) (ds : List PyData) (d : V), vs = [.ref a] ∧ zs = [d] ∧ SqL K H a xs ∧ DpAll K H xs ds ∧ AlikeAll ds ∧ PyData.depthAll ds ≤ 60 ∧ (ds = [] → Q d H) ∧
  ∀ (i : Nat) (x : V) (y : PyData) (ys : List PyData), ds = y :: ys → xs[i]? = some x → ds[i]? = some (maxD y ys) → Q x H
def rMinDt (K : PySem.W.Frag) : List V → Hp → VK → Prop := fun vs H Q => ∃ (a : Addr) (xs : List V) (y : PyData) (ys : List PyData), vs = [.ref a] ∧ SqL K H a xs ∧ DpAll K H xs (y :: ys) ∧ AlikeAll (y :: ys) ∧ PyData.depthAll (y :: ys) ≤ 60 ∧
  ∀ (i : Nat) (x : V), xs[i]? = some x → (y :: ys)[i]? = some (minD y ys) → Q x H
section
variable {X : Cx}
theorem vals_at {xs : List V} {us : List Value} {i : Nat} {u : Value} (r : Vals xs us) (h : us[i]? = some u) : ∃ x, xs[i]? = some x ∧ RelV x u := by
  cases hx : xs[i]? with
  | none =>
    rw [r.none_of hx] at h
    cases h
  | some x =>
    obtain ⟨v, h1, h2⟩ := r.get hx
    rw [h] at h1
    cases h1
    exact ⟨x, rfl, h2⟩
theorem item_data {h h' : Heap} {its : List Value} {ds : List PyData} {as : List Addr} {i : Nat} {v : Value} {d : PyData} {bs : List Addr} (hr : ReadsAll h its ds as) (hv : its[i]? = some v) (hk : ∀ b o, h.get? b = some o → h'.get? b = some o) (r : Reads h' v d bs) : ds[i]? = some d := by
  obtain ⟨cs, r1, hi, _, _⟩ := readsAll_at hr i v hv
  have r2 := reads_keeps hk r1
  have e := (r2.unique _ _ r).1
  rw [← e, List.getD_eq_getElem?_getD, List.getElem?_eq_getElem hi]
  rfl
theorem cr_minDf (hc : X.calm = true) (hu : X.A.units + 64 < cLine) : CallRK X (.builtin "min") ["default"] (rMinDf X.K) := by
  intro pins s σ H vs zs us ws Q I r1 r2 h
  obtain ⟨a, xs, ds, d, rfl, rfl, hs, hd, ha, hdep, h0, h1⟩ := h
  obtain ⟨its, rv, hl, _⟩ := I.list hs
  obtain ⟨as, hr⟩ := Dp.readsAll I ds xs its hd rv
  rw [Vals.ref1 r1]
  cases r2 with
  | cons rw rr =>
    cases rr
    refine min_list_default (vs := its.toArray) (xs := ds) (I.ok.hd hc) hl.isList (by simpa using hr) ha (by omega) (fun e h' tk hk => ⟨d, H, I.kept hk, rw, h0 e⟩) fun y ys i v h' tk bs e hv hrd hk => ?_
    have hv : its[i]? = some v := by simpa using hv
    obtain ⟨x, hx, rx⟩ := vals_at rv hv
    exact ⟨x, H, I.kept hk, rx, h1 i x y ys e hx (item_data hr hv hk hrd)⟩
theorem cr_maxDf (hc : X.calm = true) (hu : X.A.units + 64 < cLine) : CallRK X (.builtin "max") ["default"] (rMaxDf X.K) := by
  intro pins s σ H vs zs us ws Q I r1 r2 h
  obtain ⟨a, xs, ds, d, rfl, rfl, hs, hd, ha, hdep, h0, h1⟩ := h
  obtain ⟨its, rv, hl, _⟩ := I.list hs
  obtain ⟨as, hr⟩ := Dp.readsAll I ds xs its hd rv
  rw [Vals.ref1 r1]
  cases r2 with
  | cons rw rr =>
    cases rr
    refine max_list_default (vs := its.toArray) (xs := ds) (I.ok.hd hc) hl.isList (by simpa using hr) ha (by omega) (fun e h' tk hk => ⟨d, H, I.kept hk, rw, h0 e⟩) fun y ys i v h' tk bs e hv hrd hk => ?_
    have hv : its[i]? = some v := by simpa using hv
    obtain ⟨x, hx, rx⟩ := vals_at rv hv
    exact ⟨x, H, I.kept hk, rx, h1 i x y ys e hx (item_data hr hv hk hrd)⟩
theorem cr_minDt (hc : X.calm = true) (hu : X.A.units + 64 < cLine) : CallR X (.builtin "min") (rMinDt X.K) := by
  intro pins s σ H vs us Q I r1 h
  obtain ⟨a, xs, y, ys, rfl, hs, hd, ha, hdep, h1⟩ := h
  obtain ⟨its, rv, hl, _⟩ := I.list hs
  obtain ⟨as, hr⟩ := Dp.readsAll I (y :: ys) xs its hd rv
  rw [Vals.ref1 r1]
  refine min_list_data (vs := its.toArray) (x := y) (xs := ys) (I.ok.hd hc) hl.isList (by simpa using hr) ha (by omega) fun i v h' tk bs hv hrd hk => ?_
  have hv : its[i]? = some v := by simpa using hv
  obtain ⟨x, hx, rx⟩ := vals_at rv hv
  exact ⟨x, H, I.kept hk, rx, h1 i x hx (item_data hr hv hk hrd)⟩
end
end L2
namespace Kr
open PySem L2 PySem.W
theorem wp_ckw {g : Gr} {L : Led} {σ : St} {C : V → Led → Prop} {r : List V → List V → Hp → VK → Prop} {tr tk : TA} (h : Wp g L (tr σ) fun vs L1 => Wp g L1 (tk σ) fun zs L2 => Wp g L2 (r vs zs) C) : Wp g L (tCKw r tr tk σ) C :=
  fun H a Q q => h H a _ fun vs L1 H1 h1 a1 => h1 H1 a1 _ fun zs L2 H2 h2 a2 => h2 H2 a2 Q q
/-! ### ints -/
theorem alike_ints (ns : List Int) : AlikeAll (ns.map PyData.int) := by
  refine ⟨fun x hx y hy => ?_, fun x hx => ?_⟩
  · obtain ⟨m, _, rfl⟩ := List.mem_map.mp hx
    obtain ⟨n, _, rfl⟩ := List.mem_map.mp hy
    rfl
  · obtain ⟨m, _, rfl⟩ := List.mem_map.mp hx
    exact fun h => nomatch h
theorem depth_ints : ∀ ns : List Int, PyData.depthAll (ns.map PyData.int) ≤ 60
  | [] => by simp [PyData.depthAll]
  | n :: r => by
    have := depth_ints r
    rw [List.map_cons]
    simp only [PyData.depthAll, PyData.depth]
    omega
theorem foldmin_is : ∀ (r : List Int) (n : Int), r.foldl min n ∈ n :: r ∧ ∀ k ∈ n :: r, r.foldl min n ≤ k
  | [], n => ⟨by simp, fun k hk => by have : k = n := by simpa using hk
                                      subst this; exact Int.le_refl _⟩
  | x :: r, n => by
    obtain ⟨h1, h2⟩ := foldmin_is r (min n x)
    rw [List.foldl_cons]
    refine ⟨?_, fun k hk => ?_⟩
    · rcases List.mem_cons.mp h1 with h | h
      · rw [h]
        rcases Int.le_total n x with q | q
        · rw [Int.min_eq_left q]; simp
        · rw [Int.min_eq_right q]; simp
      · simp [h]
    · have h0 := h2 (min n x) (by simp)
      rcases List.mem_cons.mp hk with h | h
      · omega
      · rcases List.mem_cons.mp h with h | h
        · omega
        · exact h2 k (by simp [h])
theorem foldmax_is : ∀ (r : List Int) (n : Int), r.foldl max n ∈ n :: r ∧ ∀ k ∈ n :: r, k ≤ r.foldl max n
  | [], n => ⟨by simp, fun k hk => by have : k = n := by simpa using hk
                                      subst this; exact Int.le_refl _⟩
  | x :: r, n => by
    obtain ⟨h1, h2⟩ := foldmax_is r (max n x)
    rw [List.foldl_cons]
    refine ⟨?_, fun k hk => ?_⟩
    · rcases List.mem_cons.mp h1 with h | h
      · rw [h]
        rcases Int.le_total n x with q | q
        · rw [Int.max_eq_right q]; simp
        · rw [Int.max_eq_left q]; simp
      · simp [h]
    · have h0 := h2 (max n x) (by simp)
      rcases List.mem_cons.mp hk with h | h
      · omega
      · rcases List.mem_cons.mp h with h | h
        · omega
        · exact h2 k (by simp [h])
section
variable {K : PySem.W.Frag} {g : Gr} {L : Led} {C : V → Led → Prop} {a : Addr} {d : V}
theorem dpAll_ints {H : Hp} : ∀ ns : List Int, DpAll K H (ns.map V.int) (ns.map PyData.int)
  | [] => .nil
  | n :: r => .cons (.int n) (dpAll_ints r)
theorem wc_minDI {ns : List Int} (s : Seen K g L a (ns.map V.int)) (c0 : ns = [] → C d L) (c : ∀ m, m ∈ ns → (∀ k ∈ ns, m ≤ k) → C (.int m) L) : Wp g L (rMinDf K [.ref a] [d]) C :=
  fun H z Q q => ⟨a, ns.map V.int, ns.map PyData.int, d, rfl, rfl, s.at_ H z, dpAll_ints ns, alike_ints ns, depth_ints ns, fun e => q _ _ _ (c0 (List.map_eq_nil_iff.mp e)) z, fun i x y ys e hx hm => by
    cases ns with
    | nil => cases e
    | cons n r =>
      rw [List.map_cons] at e
      injection e with e1 e2
      subst e1 e2
      rw [minD_ints] at hm
      rw [List.getElem?_map] at hx hm
      cases hi : (n :: r)[i]? with
      | none => rw [hi] at hx; cases hx
      | some k =>
        rw [hi] at hx hm
        have hx : V.int k = x := Option.some.inj hx
        have hm : PyData.int k = .int (r.foldl min n) := Option.some.inj hm
        injection hm with hm
        subst hx hm
        obtain ⟨h1, h2⟩ := foldmin_is r n
        exact q _ _ _ (c _ h1 h2) z⟩
theorem wc_maxDI {ns : List Int} (s : Seen K g L a (ns.map V.int)) (c0 : ns = [] → C d L) (c : ∀ m, m ∈ ns → (∀ k ∈ ns, k ≤ m) → C (.int m) L) : Wp g L (rMaxDf K [.ref a] [d]) C :=
  fun H z Q q => ⟨a, ns.map V.int, ns.map PyData.int, d, rfl, rfl, s.at_ H z, dpAll_ints ns, alike_ints ns, depth_ints ns, fun e => q _ _ _ (c0 (List.map_eq_nil_iff.mp e)) z, fun i x y ys e hx hm => by
    cases ns with
    | nil => cases e
    | cons n r =>
      rw [List.map_cons] at e
      injection e with e1 e2
      subst e1 e2
      rw [maxD_ints] at hm
      rw [List.getElem?_map] at hx hm
      cases hi : (n :: r)[i]? with
      | none => rw [hi] at hx; cases hx
      | some k =>
        rw [hi] at hx hm
        have hx : V.int k = x := Option.some.inj hx
        have hm : PyData.int k = .int (r.foldl max n) := Option.some.inj hm
        injection hm with hm
        subst hx hm
        obtain ⟨h1, h2⟩ := foldmax_is r n
        exact q _ _ _ (c _ h1 h2) z⟩
end
/-! ### pairs of ints -/
def dpP (x : Int × Int) : PyData := .tuple [.int x.1, .int x.2]
def ltP (y x : Int × Int) : Prop := y.1 < x.1 ∨ (y.1 = x.1 ∧ y.2 < x.2)
theorem dpP_inj {x y : Int × Int} (h : dpP x = dpP y) : x = y := by
  unfold dpP at h
  simp only [PyData.tuple.injEq, List.cons.injEq, PyData.int.injEq, and_true] at h
  exact Prod.ext h.1 h.2
theorem alike_P (xs : List (Int × Int)) : AlikeAll (xs.map dpP) := by
  refine ⟨fun x hx y hy => ?_, fun x hx => ?_⟩
  · obtain ⟨m, _, rfl⟩ := List.mem_map.mp hx
    obtain ⟨n, _, rfl⟩ := List.mem_map.mp hy
    rfl
  · obtain ⟨m, _, rfl⟩ := List.mem_map.mp hx
    exact fun h => nomatch h
theorem depth_P : ∀ xs : List (Int × Int), PyData.depthAll (xs.map dpP) ≤ 60
  | [] => by simp [PyData.depthAll]
  | n :: r => by
    have := depth_P r
    rw [List.map_cons]
    simp only [PyData.depthAll, PyData.depth, dpP]
    omega
theorem minP_is : ∀ (r : List (Int × Int)) (n : Int × Int), ∃ m, minD (dpP n) (r.map dpP) = dpP m ∧ m ∈ n :: r ∧ ∀ k ∈ n :: r, ¬ ltP k m
  | [], n => ⟨n, rfl, by simp, fun k hk => by
      have : k = n := by simpa using hk
      subst this
      unfold ltP
      omega⟩
  | x :: r, n => by
    have e : minD (dpP n) ((x :: r).map dpP) = minD (dpP (if x.1 < n.1 ∨ (x.1 = n.1 ∧ x.2 < n.2) then x else n)) (r.map dpP) := by
      unfold minD
      rw [List.map_cons, List.foldl_cons]
      congr 1
      unfold dpP
      rw [dataLt_ii]
      by_cases h : x.1 < n.1 ∨ (x.1 = n.1 ∧ x.2 < n.2)
      · rw [if_pos h, if_pos (decide_eq_true h)]
      · rw [if_neg h, if_neg (by simpa using h)]
    rw [e]
    by_cases h : x.1 < n.1 ∨ (x.1 = n.1 ∧ x.2 < n.2)
    · rw [if_pos h]
      obtain ⟨m, h1, h2, h3⟩ := minP_is r x
      refine ⟨m, h1, List.mem_cons_of_mem _ h2, fun k hk => ?_⟩
      rcases List.mem_cons.mp hk with q | q
      · have := h3 x (by simp)
        subst q
        unfold ltP at *
        omega
      · exact h3 k q
    · rw [if_neg h]
      obtain ⟨m, h1, h2, h3⟩ := minP_is r n
      refine ⟨m, h1, ?_, fun k hk => ?_⟩
      · rcases List.mem_cons.mp h2 with q | q
        · simp [q]
        · simp [q]
      · rcases List.mem_cons.mp hk with q | q
        · exact h3 k (by simp [q])
        · rcases List.mem_cons.mp q with q | q
          · have := h3 n (by simp)
            subst q
            unfold ltP at *
            omega
          · exact h3 k (by simp [q])
section
variable {K : PySem.W.Frag} {g : Gr} {L : Led} {C : V → Led → Prop} {a : Addr} {d : V} {bo : Bool}
theorem dpAll_P {H : Hp} : ∀ (as : List Addr) (xs : List (Int × Int)), as.length = xs.length → (∀ (k : Nat) (b : Addr) (r : List V), as[k]? = some b → (xs.map row2)[k]? = some r → H b = some (.tup r)) → DpAll K H (as.map V.ref) (xs.map dpP)
  | [], [], _, _ => .nil
  | [], _ :: _, h, _ => by cases h
  | _ :: _, [], h, _ => by cases h
  | b :: as, x :: xs, h, k => .cons (.tup (SqT.of (k 0 b (row2 x) rfl rfl)) (.cons (.int _) (.cons (.int _) .nil))) (dpAll_P as xs (by simpa using h) fun i c r h1 h2 => k (i + 1) c r h1 h2)
/-- the least of a list of pairs, or the default -/
theorem wc_minDP {xs : List (Int × Int)} (j : Nat) (hj : L[j]? = some (a, .rows (xs.map row2), bo)) (c0 : xs = [] → C d L) (c : ∀ x, x ∈ xs → (∀ y ∈ xs, ¬ ltP y x) → ∀ p, C (.ref p) (L ++ [(p, .ob (.tup (row2 x)), false)])) : Wp g L (rMinDf K [.ref a] [d]) C :=
  fun H z Q q => by
    obtain ⟨o, h1, as, e1, hl, hr⟩ := z.look hj
    subst e1
    refine ⟨a, as.map V.ref, xs.map dpP, d, rfl, rfl, SqL.of h1, dpAll_P as xs (by simpa using hl) hr, alike_P xs, depth_P xs, fun e => q _ _ _ (c0 (List.map_eq_nil_iff.mp e)) z, fun i x y ys e hx hm => ?_⟩
    cases xs with
    | nil => cases e
    | cons n r =>
      rw [List.map_cons] at e
      injection e with e1 e2
      subst e1 e2
      obtain ⟨m, h2, h3, h4⟩ := minP_is r n
      rw [h2, List.getElem?_map] at hm
      cases hi : (n :: r)[i]? with
      | none => rw [hi] at hm; cases hm
      | some k =>
        rw [hi] at hm
        have hm : dpP k = dpP m := Option.some.inj hm
        have hm := dpP_inj hm
        subst hm
        rw [List.getElem?_map] at hx
        cases hb : as[i]? with
        | none => rw [hb] at hx; cases hx
        | some b =>
          rw [hb] at hx
          have hx : V.ref b = x := Option.some.inj hx
          subst hx
          exact q _ _ _ (c k h3 h4 b) (z.addT (hr i b (row2 k) hb (by rw [List.getElem?_map, hi]; rfl)))
theorem wc_minP {xs : List (Int × Int)} (j : Nat) (hj : L[j]? = some (a, .rows (xs.map row2), bo)) (hne : xs ≠ []) (c : ∀ x, x ∈ xs → (∀ y ∈ xs, ¬ ltP y x) → ∀ p, C (.ref p) (L ++ [(p, .ob (.tup (row2 x)), false)])) : Wp g L (rMinDt K [.ref a]) C :=
  fun H z Q q => by
    obtain ⟨o, h1, as, e1, hl, hr⟩ := z.look hj
    subst e1
    cases xs with
    | nil => exact absurd rfl hne
    | cons n r =>
      refine ⟨a, as.map V.ref, dpP n, r.map dpP, rfl, SqL.of h1, dpAll_P as (n :: r) (by simpa using hl) hr, alike_P (n :: r), depth_P (n :: r), fun i x hx hm => ?_⟩
      obtain ⟨m, h2, h3, h4⟩ := minP_is r n
      rw [h2] at hm
      have hm : ((n :: r).map dpP)[i]? = some (dpP m) := hm
      rw [List.getElem?_map] at hm
      cases hi : (n :: r)[i]? with
      | none => rw [hi] at hm; cases hm
      | some k =>
        rw [hi] at hm
        have hm := dpP_inj (Option.some.inj hm)
        subst hm
        rw [List.getElem?_map] at hx
        cases hb : as[i]? with
        | none => rw [hb] at hx; cases hx
        | some b =>
          rw [hb] at hx
          have hx : V.ref b = x := Option.some.inj hx
          subst hx
          exact q _ _ _ (c k h3 h4 b) (z.addT (hr i b (row2 k) hb (by rw [List.getElem?_map, hi]; rfl)))
/-- found.extend([t] * int(..)) of tuples -/
theorem wr_extT {rs : List (List V)} {r : List V} {a2 p : Addr} {ys : List V} {b2 b3 : Bool} (i j k : Nat) (h : L[i]? = some (a, .rows rs, true)) (h2 : L[j]? = some (a2, .ob (.lst ys), b2)) (hy : ys = [.ref p]) (h3 : L[k]? = some (p, .ob (.tup r), b3)) (hl : rs.length < 99999)
    (c : C .non (L.set i (a, .rows (rs ++ [r]), true))) : Wp g L (rExtend (.ref a) [.ref a2]) C :=
  fun H z Q q => by
    obtain ⟨o, h1, as, e1, hl1, h4⟩ := z.look h
    subst e1 hy
    refine ⟨a, a2, _, _, rfl, rfl, h1, z.get h2, Nat.le_trans (show _ ≤ 100000 by rw [List.length_map, hl1]; simp; omega) (by decide), q _ _ _ c ?_⟩
    exact z.chg h (fun c u e z => by rw [upd_ne z]; exact e) upd_same (rows_snoc ⟨as, rfl, hl1, h4⟩ h1 (z.get h3))
theorem wr_extN {rs : List (List V)} {a2 : Addr} {ys : List V} {b2 : Bool} (i j : Nat) (h : L[i]? = some (a, .rows rs, true)) (h2 : L[j]? = some (a2, .ob (.lst ys), b2)) (hy : ys = []) (hl : rs.length < 99999) (c : C .non (L.set i (a, .rows rs, true))) : Wp g L (rExtend (.ref a) [.ref a2]) C :=
  fun H z Q q => by
    obtain ⟨o, h1, as, e1, hl1, h4⟩ := z.look h
    subst e1 hy
    refine ⟨a, a2, _, _, rfl, rfl, h1, z.get h2, Nat.le_trans (show _ ≤ 100000 by rw [List.length_map, hl1]; simp; omega) (by decide), q _ _ _ c ?_⟩
    rw [List.append_nil]
    refine z.chg h (fun c u e z => by rw [upd_ne z]; exact e) upd_same ⟨as, rfl, hl1, fun k b r q1 q2 => ?_⟩
    have q3 := h4 k b r q1 q2
    rw [upd_ne]
    · exact q3
    · intro e
      subst e
      rw [h1] at q3
      cases q3
end
/-! ### a promise: None, or a new pair of ints -/
section
def kP (A : Prop) (R : Int → Int → Prop) : Ks := { nx := fun _ _ => A, rt := fun v L => (v = .non ∧ A) ∨ ∃ (x y : Int) (p : Addr) (i : Nat), v = .ref p ∧ L[i]? = some (p, Ent.ob (.tup [.int x, .int y]), true) ∧ R x y }
theorem eo_P {H0 : Hp} {A : Prop} {R : Int → Int → Prop} {Q : VK} (h1 : A → ∀ H', Same H0 H' → Q .non H') (h2 : ∀ x y p H', R x y → H0 p = none → Same H0 H' → H' p = some (.tup [.int x, .int y]) → Q (.ref p) H') : Eo ⟨H0, fun _ => False⟩ (kP A R) { nx := fun _ H' => Q .non H', rt := Q } :=
  ⟨fun σ L H k z => h1 k _ z.since, fun v L H k z => by
    rcases k with ⟨e, k⟩ | ⟨x, y, p, i, e, k, r⟩
    · subst e
      exact h1 k _ z.since
    · subst e
      refine h2 x y p H r ?_ z.since (z.get k)
      rcases z.own _ (List.mem_of_getElem? k) rfl with q | q
      · exact q
      · exact q.elim, fun _ _ _ k _ => k.elim, fun _ _ _ k _ => k.elim⟩
end
/-! ### a list of pairs compared -/
theorem canLay_P : ∀ xs : List (Int × Int), PyData.canLayAll0 (xs.map dpP) = true
  | [] => by simp [PyData.canLayAll0]
  | x :: r => by
    rw [List.map_cons]
    simp only [PyData.canLayAll0, dpP, PyData.canLay0, canLay_P r, Bool.and_true, Bool.true_and]
theorem shaped_P (xs : List (Int × Int)) : SeqAt.shaped (.list (xs.map dpP)) = true := by
  have h1 := depth_P xs
  have h2 : PyData.depth (.list (xs.map dpP)) ≤ 64 := by simp only [PyData.depth]; omega
  show (PyData.canLay0 (.list (xs.map dpP)) && decide (PyData.depth (.list (xs.map dpP)) ≤ 64)) = true
  rw [Bool.and_eq_true]
  exact ⟨by simp only [PyData.canLay0]; exact canLay_P xs, decide_eq_true h2⟩
section
variable {K : PySem.W.Frag} {g : Gr} {L : Led} {C : V → Led → Prop} {a a2 : Addr} {bo : Bool}
theorem dp_rows {xs : List (Int × Int)} (j : Nat) (hj : L[j]? = some (a, .rows (xs.map row2), bo)) : DpA K g L (.ref a) (.list (xs.map dpP)) := fun H z => by
  obtain ⟨o, h1, as, e1, hl, hr⟩ := z.look hj
  subst e1
  exact .lst (SqL.of h1) (dpAll_P as xs (by simpa using hl) hr)
theorem eqv_P : ∀ xs ys : List (Int × Int), PyData.eqvAll (xs.map dpP) (ys.map dpP) = decide (xs = ys)
  | [], [] => by simp [PyData.eqvAll]
  | [], _ :: _ => by simp [PyData.eqvAll]
  | _ :: _, [] => by simp [PyData.eqvAll]
  | x :: xs, y :: ys => by
    rw [List.map_cons, List.map_cons]
    unfold PyData.eqvAll
    rw [eqv_P xs ys]
    have e : PyData.eqv (dpP x) (dpP y) = decide (x = y) := by
      unfold dpP
      rw [Bool.eq_iff_iff]
      simp only [PyData.eqv, PyData.eqvAll, Bool.and_eq_true, decide_eq_true_eq, beq_iff_eq, and_true]
      exact ⟨fun h => Prod.ext h.1 h.2, fun h => by rw [h]; exact ⟨rfl, rfl⟩⟩
    rw [e, Bool.eq_iff_iff]
    simp
theorem wr_neRN {xs : List (Int × Int)} (j : Nat) (hj : L[j]? = some (a, .rows (xs.map row2), bo)) (s2 : Seen K g L a2 []) (c : C (.bl (!decide (xs = []))) L) : Wp g L (rNeD K (.ref a) (.ref a2)) C :=
  wr_neD (dp_rows j hj) (dp_lst s2 dps_nil) (shaped_P xs) rfl (by
    have e : PyData.eqv (.list (xs.map dpP)) (.list []) = decide (xs = []) := by
      unfold PyData.eqv
      exact eqv_P xs []
    rw [e]
    exact c)
end
theorem eqv_pair (x y : Int) : PyData.eqv (.tuple [.int x, .int y]) (.tuple [.int x, .int y]) = true := by
  simp [PyData.eqv, PyData.eqvAll]
/-! ### several new objects at once -/
theorem At.news {g : Gr} {L E : Led} {H H' : Hp} (z : At g L H) (s : Same H H') (h : ∀ q ∈ E, H q.1 = none ∧ ∃ o, H' q.1 = some o ∧ q.2.1.In H' o) (nd : (E.map (·.1)).Nodup) : At g (L ++ E) H' := by
  refine ⟨fun c o e m => s _ _ (z.old c o e m), fun q hq => ?_, fun q hq hb => ?_, ?_⟩
  · rcases List.mem_append.mp hq with hq | hq
    · obtain ⟨o, h1, h2⟩ := z.led q hq
      exact ⟨o, s _ _ h1, h2.same s⟩
    · exact (h q hq).2
  · rcases List.mem_append.mp hq with hq | hq
    · exact z.own q hq hb
    · by_cases hmu : g.mu q.1
      · exact .inr hmu
      · refine .inl ?_
        cases e : g.H0 q.1 with
        | none => rfl
        | some u =>
          have := (h q hq).1
          rw [z.old q.1 u e hmu] at this
          cases this
  · rw [List.pairwise_append]
    refine ⟨z.nd, ?_, fun x hx y hy e => ?_⟩
    · have := List.nodup_iff_pairwise_ne.mp nd
      rw [List.pairwise_map] at this
      exact this.imp fun hne e => absurd e hne
    · obtain ⟨o, h1, _⟩ := z.led x hx
      rw [e, (h y hy).1] at h1
      cases h1
end Kr

set_option Elab.async false
set_option linter.all false
set_option maxRecDepth 100000
/-! ### more rules -/
namespace Kr
open PySem L2
section
variable {K : PySem.W.Frag} {g : Gr} {L : Led} {C : V → Led → Prop} {a : Addr}
/-- None or a number, told as one value -/
def IsOpt (N : Prop) (S : Int → Prop) (v : V) : Prop := (v = .non ∧ N) ∨ ∃ n : Int, v = .int n ∧ S n
theorem wc_opt {m : Hp → (V → Hp → Prop) → Prop} {N : Prop} {S : Int → Prop} (w : (N → C .non L) → (∀ n : Int, S n → C (.int n) L) → Wp g L m C) (h : ∀ v : V, IsOpt N S v → C v L) : Wp g L m C :=
  w (fun q => h _ (.inl ⟨rfl, q⟩)) (fun n q => h _ (.inr ⟨n, rfl, q⟩))
theorem cut_one (ns : List Int) : cutV (ns.map V.int) (some 1) none = (ns.drop 1).map V.int := by
  unfold cutV
  have h1 : HT.sIx (ns.map V.int).length 0 (some 1) = min 1 ns.length := by
    unfold HT.sIx
    simp
  have h2 : HT.sIx (ns.map V.int).length (ns.map V.int).length none = (ns.map V.int).length := rfl
  rw [h1, h2, List.length_map, ← List.map_drop]
  cases ns with
  | nil => rfl
  | cons n r =>
    simp
    rw [List.take_of_length_le (by simp)]
theorem wr_slO {ms : List Int} (s : Seen K g L a (ms.map V.int)) (c : ∀ p, C (.ref p) (L ++ [(p, .ob (.lst ((ms.drop 1).map V.int)), true)])) : Wp g L (rSlL K (.ref a) (some 1) none) C :=
  wr_slL s (by rw [cut_one]; exact c)
end
end Kr

set_option Elab.async false
set_option linter.all false
set_option maxRecDepth 100000
set_option maxHeartbeats 1000000
/-! ### a list of tuples, item by item by one name -/
namespace Kr
open PySem L2
structure IterN {α : Type} (g : Gr) (L : Led) (J : It) (tg : TG) (xs : List α) (row : α → List V) (S : α → Addr → St → St) : Prop where
  at_ : ∀ H, At g L H → J.stop xs.length H ∧ ∀ i x, xs[i]? = some x → J.go i H ∧ ∀ v H', J.yld i H v H' → Same H H' ∧ ∃ pr : Addr, H' pr = some (.tup (row x)) ∧ ∀ σ (Q : St → Hp → Prop), Q (S x pr σ) H' → tg v σ H' Q
theorem iter_rowsN {α : Type} {g : Gr} {L : Led} {a : Addr} {Kf : PySem.W.Frag} {bo : Bool} (i : Nat) (row : α → List V) {xs : List α} (j : Nat) (hj : L[j]? = some (a, .rows (xs.map row), bo)) :
    IterN g L (Itl Kf a) (gName i) xs row (fun _ pr σ => σ.set i (some (.ref pr))) := ⟨fun H z => by
  obtain ⟨o, h1, as, e1, hl, hr⟩ := z.look hj
  subst e1
  rw [List.length_map] at hl
  have hs : SqL Kf H a (as.map V.ref) := SqL.of h1
  refine ⟨⟨_, hs, by rw [List.length_map, hl]; exact Nat.le_refl _⟩, fun k x hx => ?_⟩
  have hk : k < as.length := by
    have := (List.getElem?_eq_some_iff.mp hx).1
    omega
  have hx2 : (as.map V.ref)[k]? = some (.ref as[k]) := by rw [List.getElem?_map, List.getElem?_eq_getElem hk]; rfl
  have hx3 := hr k as[k] (row x) (List.getElem?_eq_getElem hk) (by rw [List.getElem?_map, hx]; rfl)
  refine ⟨⟨_, _, hs, hx2⟩, fun v H' hy => ?_⟩
  obtain ⟨e1, e2⟩ := hy
  subst e1
  have e3 := e2 _ hs
  rw [hx2] at e3
  have e3 := Option.some.inj e3
  subst e3
  exact ⟨same_refl, as[k], hx3, fun σ Q q => q⟩⟩
section
variable {α : Type} {g : Gr} {L : Led} {σ : St} {K : Ks} {tg : TG} {tb : TS} {J : It} {xs : List α} {row : α → List V} {S : α → Addr → St → St}
theorem wf_GN (I : Nat → St → Led → Prop) (it : ∀ i σ L, I i σ L → IterN g L J tg xs row S) (h0 : I 0 σ L)
    (hs : ∀ i x pr σ L, xs[i]? = some x → I i σ L → Ws g (L ++ [(pr, .ob (.tup (row x)), false)]) tb (S x pr σ) { K with nx := fun σ' L' => ∃ L3, I (i + 1) σ' L3 ∧ L3 <+: L', ct := fun σ' L' => ∃ L3, I (i + 1) σ' L3 ∧ L3 <+: L', bk := K.nx })
    (hd : ∀ σ L, I xs.length σ L → K.nx σ L) : WFor g L J tg tb σ K := fun H z D e => by
  refine ⟨fun i m σ H => i ≤ xs.length ∧ m = xs.length - i ∧ ∃ L, I i σ L ∧ At g L H, ⟨xs.length, Nat.zero_le _, rfl, L, h0, z⟩, ?_⟩
  rintro i m σ H ⟨hi, rfl, L, k, z⟩
  obtain ⟨h1, h2⟩ := (it i σ L k).at_ H z
  by_cases hlt : i < xs.length
  · obtain ⟨h3, h4⟩ := h2 i xs[i] (List.getElem?_eq_getElem hlt)
    refine .inr ⟨h3, fun σ' H' => ∃ L, I (i + 1) σ' L ∧ At g L H', fun σ' H' q => ⟨xs.length - (i + 1), by omega, hlt, rfl, q⟩, fun v H' y => ?_⟩
    obtain ⟨h5, pr, hpr, h6⟩ := h4 v H' y
    refine h6 σ _ ?_
    have kk : ∀ σ' L' H', (∃ L3, I (i + 1) σ' L3 ∧ L3 <+: L') → At g L' H' → ∃ L, I (i + 1) σ' L ∧ At g L H' := fun σ' L' H' ⟨L3, hi, hp⟩ z' => ⟨L3, hi, z'.pre hp⟩
    exact hs i xs[i] pr σ L (List.getElem?_eq_getElem hlt) k H' ((z.same h5).addT hpr) _ ⟨kk, e.rt, e.nx, kk⟩
  · have e1 : i = xs.length := by omega
    subst e1
    exact .inl ⟨h1, e.nx _ _ _ (hd σ L k) z⟩
theorem wf_SN (it : IterN g L J tg xs row S) (I : Nat → List (Option (Option V)) → Prop) (h0 : ∃ vs, σ = putA σ vs ∧ I 0 vs)
    (hs : ∀ i x pr vs, xs[i]? = some x → I i vs → Ws g (L ++ [(pr, .ob (.tup (row x)), false)]) tb (S x pr (putA σ vs)) { K with nx := fun σ' L' => ∃ vs', (σ' = putA σ vs' ∧ I (i + 1) vs') ∧ L <+: L', ct := fun σ' L' => ∃ vs', (σ' = putA σ vs' ∧ I (i + 1) vs') ∧ L <+: L', bk := K.nx })
    (hd : ∀ vs, I xs.length vs → K.nx (putA σ vs) L) : WFor g L J tg tb σ K := by
  obtain ⟨vs0, e0, k0⟩ := h0
  refine wf_GN (xs := xs) (S := S) (fun i σ' L' => ∃ vs, (σ' = putA σ vs ∧ I i vs) ∧ L' = L) (fun i σ' L' ⟨vs, _, e⟩ => e ▸ it) ⟨vs0, ⟨e0, k0⟩, rfl⟩ ?_ ?_
  · rintro i x pr σ' L' hi ⟨vs, ⟨rfl, k⟩, rfl⟩
    intro H3 z3 D e
    have kk : ∀ σ' L'' H', (∃ vs', (σ' = putA σ vs' ∧ I (i + 1) vs') ∧ L' <+: L'') → At g L'' H' → D.nx σ' H' := fun σ' L'' H' ⟨vs', h1, h2⟩ z' => e.nx σ' L'' H' ⟨L', ⟨vs', h1, rfl⟩, h2⟩ z'
    have kc : ∀ σ' L'' H', (∃ vs', (σ' = putA σ vs' ∧ I (i + 1) vs') ∧ L' <+: L'') → At g L'' H' → D.ct σ' H' := fun σ' L'' H' ⟨vs', h1, h2⟩ z' => e.ct σ' L'' H' ⟨L', ⟨vs', h1, rfl⟩, h2⟩ z'
    exact hs i x pr vs hi k H3 z3 D ⟨kk, e.rt, e.bk, kc⟩
  · rintro σ' L' ⟨vs, ⟨rfl, k⟩, rfl⟩
    exact hd vs k
theorem wf_AN (j : Nat) {a : Addr} {e0 : Ent} (hj : L[j]? = some (a, e0, true)) (it : ∀ e, IterN g (L.set j (a, e, true)) J tg xs row S) (I : Nat → List (Option (Option V)) → Ent → Prop) (h0 : ∃ vs, σ = putA σ vs ∧ I 0 vs e0)
    (hs : ∀ i x pr vs e, xs[i]? = some x → I i vs e → Ws g (L.set j (a, e, true) ++ [(pr, .ob (.tup (row x)), false)]) tb (S x pr (putA σ vs)) { K with nx := fun σ' L' => ∃ vs' e', (σ' = putA σ vs' ∧ I (i + 1) vs' e') ∧ L.set j (a, e', true) <+: L', ct := fun σ' L' => ∃ vs' e', (σ' = putA σ vs' ∧ I (i + 1) vs' e') ∧ L.set j (a, e', true) <+: L', bk := K.nx })
    (hd : ∀ vs e, I xs.length vs e → K.nx (putA σ vs) (L.set j (a, e, true))) : WFor g L J tg tb σ K := by
  obtain ⟨vs0, e0', k0⟩ := h0
  refine wf_GN (xs := xs) (S := S) (fun i σ' L' => ∃ vs e, (σ' = putA σ vs ∧ I i vs e) ∧ L' = L.set j (a, e, true)) (fun i σ' L' ⟨vs, e, _, q⟩ => q ▸ it e) ⟨vs0, _, ⟨e0', k0⟩, (set_self hj).symm⟩ ?_ ?_
  · rintro i x pr σ' L' hi ⟨vs, en, ⟨rfl, k⟩, rfl⟩
    intro H3 z3 D e
    have kk : ∀ σ' L'' H', (∃ vs' e', (σ' = putA σ vs' ∧ I (i + 1) vs' e') ∧ L.set j (a, e', true) <+: L'') → At g L'' H' → D.nx σ' H' := fun σ' L'' H' ⟨vs', e', h1, h2⟩ z' => e.nx σ' L'' H' ⟨_, ⟨vs', e', h1, rfl⟩, h2⟩ z'
    have kc : ∀ σ' L'' H', (∃ vs' e', (σ' = putA σ vs' ∧ I (i + 1) vs' e') ∧ L.set j (a, e', true) <+: L'') → At g L'' H' → D.ct σ' H' := fun σ' L'' H' ⟨vs', e', h1, h2⟩ z' => e.ct σ' L'' H' ⟨_, ⟨vs', e', h1, rfl⟩, h2⟩ z'
    exact hs i x pr vs en hi k H3 z3 D ⟨kk, e.rt, e.bk, kc⟩
  · rintro σ' L' ⟨vs, en, ⟨rfl, k⟩, rfl⟩
    exact hd vs en k
end
section
variable {α : Type} {g : Gr} {L : Led} {σ : St} {C : V → Led → Prop} {tt : TT} {te : TE} {tg : TG} {J : It} {xs : List α} {row : α → List V} {S : α → Addr → St → St} {vs : List Nat}
theorem lc_GN {β : Type} (En : List β → Ent) (hmv : ∀ ys, (En ys).mov = true) (p : α → Bool) (f : α → β) (it : IterN g L J tg xs row S) (hw : ∀ x pr, wipe (S x pr (wipe σ vs)) vs = wipe σ vs) (hl : xs.length ≤ 99999)
    (e0 : ∀ H, (En []).In H (.lst []))
    (hs : ∀ x pr, x ∈ xs → ∀ (D : Addr) (acc : List β), Wp g (L ++ [(D, En acc, true)] ++ [(pr, .ob (.tup (row x)), false)]) (tt (S x pr (wipe σ vs))) fun b L2 => b = p x ∧
      if b = true then Wp g L2 (te (S x pr (wipe σ vs))) fun y L3 => (L ++ [(D, En acc, true)]) <+: L3 ∧ ∀ H, At g L3 H → ∃ ac, H D = some (.lst ac) ∧ ac.length = acc.length ∧ (En (acc ++ [f x])).In (upd H D (.lst (ac ++ [y]))) (.lst (ac ++ [y])) else (L ++ [(D, En acc, true)]) <+: L2)
    (c : ∀ D, C (.ref D) (L ++ [(D, En ((xs.filter p).map f), true)])) : WLc g L J tg tt te vs σ C := fun H z Q q D hD => by
  have hi : ∀ e : Ent, (L ++ [(D, e, true)])[L.length]? = some (D, e, true) := fun o => by simp
  have hsub : ∀ {e : Ent} {H : Hp}, At g (L ++ [(D, e, true)]) H → At g L H := fun z => z.pre ⟨_, rfl⟩
  refine ⟨fun i m H => i ≤ xs.length ∧ m = xs.length - i ∧ At g (L ++ [(D, En (((xs.take i).filter p).map f), true)]) H, ⟨xs.length, Nat.zero_le _, rfl, ?_⟩, ?_⟩
  · refine z.newE (fun c u e => by rw [upd_ne (ne_of_none e hD)]; exact e) hD upd_same ?_
    simpa using e0 _
  rintro i m H ⟨hi0, rfl, z⟩
  obtain ⟨h1, h2⟩ := it.at_ H (hsub z)
  by_cases hlt : i < xs.length
  · have hxi := List.getElem?_eq_getElem hlt
    obtain ⟨h3, h4⟩ := h2 i xs[i] hxi
    refine .inr ⟨h3, fun H' => At g (L ++ [(D, En (((xs.take (i + 1)).filter p).map f), true)]) H', fun H' q => ⟨xs.length - (i + 1), by omega, hlt, rfl, q⟩, fun v H' y => ?_⟩
    obtain ⟨h5, pr, hpr, h6⟩ := h4 v H' y
    refine h6 _ _ ⟨hw _ _, ?_⟩
    have hacc := filter_take_succ p f hxi
    have hlen : (((xs.take i).filter p).map f).length < 100000 := by
      have := List.length_filter_le p (xs.take i)
      have h3 : (xs.take i).length ≤ xs.length := by simp; omega
      rw [List.length_map]
      omega
    generalize ((xs.take i).filter p).map f = acc at z hacc hlen
    refine hs xs[i] pr (List.mem_of_getElem? hxi) D acc H' ((z.same h5).addT hpr) _ fun b L2 H2 ⟨eb, k⟩ z2 => ?_
    subst eb
    cases hp : p xs[i] with
    | true =>
      rw [hp] at k hacc
      have k : Wp g L2 _ _ := k
      refine k H2 z2 _ fun y L3 H3 ⟨hpre, hn⟩ z3 => ?_
      obtain ⟨ac, q1, q2, q3⟩ := hn H3 z3
      have z4 := z3.pre hpre
      refine ⟨ac, q1, by rw [q2]; exact Nat.lt_of_lt_of_le hlen (by decide), ?_⟩
      have z5 := z4.chg (e' := En (acc ++ [f xs[i]])) (H' := upd H3 D (.lst (ac ++ [y]))) (o := .lst (ac ++ [y])) (hi _) (fun c u e z => by rw [upd_ne z]; exact e) upd_same q3 (hmv _)
      rw [List.set_append_right _ _ (Nat.le_refl _), Nat.sub_self] at z5
      rw [hacc]
      exact z5
    | false =>
      rw [hp] at k hacc
      have k : _ <+: L2 := k
      have e2 : ((xs.take (i + 1)).filter p).map f = acc := by rw [hacc]; simp
      show At g _ H2
      rw [e2]
      exact z2.pre k
  · have e1 : i = xs.length := by omega
    subst e1
    rw [List.take_length] at z
    exact .inl ⟨h1, q _ _ _ (c D) z⟩
theorem lc_VN {β : Type} (T : β → V) (p : α → Bool) (f : α → β) (it : IterN g L J tg xs row S) (hw : ∀ x pr, wipe (S x pr (wipe σ vs)) vs = wipe σ vs) (hl : xs.length ≤ 99999)
    (hs : ∀ x pr, x ∈ xs → ∀ (D : Addr) (acc : List V), Wp g (L ++ [(D, .ob (.lst acc), true)] ++ [(pr, .ob (.tup (row x)), false)]) (tt (S x pr (wipe σ vs))) fun b L2 => b = p x ∧
      if b = true then Wp g L2 (te (S x pr (wipe σ vs))) fun y L3 => y = T (f x) ∧ (L ++ [(D, .ob (.lst acc), true)]) <+: L3 else (L ++ [(D, .ob (.lst acc), true)]) <+: L2)
    (c : ∀ D, C (.ref D) (L ++ [(D, .ob (.lst (((xs.filter p).map f).map T)), true)])) : WLc g L J tg tt te vs σ C := by
  refine lc_GN (fun ys => .ob (.lst (ys.map T))) (fun _ => rfl) p f it hw hl (fun _ => rfl) (fun x pr hx D acc => ?_) c
  refine (hs x pr hx D (acc.map T)).mono fun b L2 ⟨e, k⟩ => ⟨e, ?_⟩
  cases b with
  | true =>
    refine Wp.mono (show Wp g L2 _ _ from k) fun y L3 ⟨ey, hp⟩ => ⟨hp, fun H z => ?_⟩
    have hg := (z.pre hp).get (i := L.length) (a := D) (o := .lst (acc.map T)) (b := true) (by simp)
    subst ey
    refine ⟨_, hg, by rw [List.length_map], ?_⟩
    show HO.lst _ = HO.lst _
    rw [List.map_append]
    rfl
  | false => exact k
theorem lc_TN {β : Type} (rw_ : β → List V) (p : α → Bool) (f : α → β) (it : IterN g L J tg xs row S) (hw : ∀ x pr, wipe (S x pr (wipe σ vs)) vs = wipe σ vs) (hl : xs.length ≤ 99999)
    (hs : ∀ x pr, x ∈ xs → ∀ (D : Addr) (acc : List (List V)), Wp g (L ++ [(D, .rows acc, true)] ++ [(pr, .ob (.tup (row x)), false)]) (tt (S x pr (wipe σ vs))) fun b L2 => b = p x ∧
      if b = true then Wp g L2 (te (S x pr (wipe σ vs))) fun y L3 => (∃ (q : Addr) (j : Nat) (bo : Bool), y = .ref q ∧ L3[j]? = some (q, .ob (.tup (rw_ (f x))), bo)) ∧ (L ++ [(D, .rows acc, true)]) <+: L3 else (L ++ [(D, .rows acc, true)]) <+: L2)
    (c : ∀ D, C (.ref D) (L ++ [(D, .rows (((xs.filter p).map f).map rw_), true)])) : WLc g L J tg tt te vs σ C := by
  refine lc_GN (fun ys => .rows (ys.map rw_)) (fun _ => rfl) p f it hw hl (fun _ => ⟨[], rfl, rfl, fun k a r h => by simp at h⟩) (fun x pr hx D acc => ?_) c
  refine (hs x pr hx D (acc.map rw_)).mono fun b L2 ⟨e, k⟩ => ⟨e, ?_⟩
  cases b with
  | true =>
    refine Wp.mono (show Wp g L2 _ _ from k) fun y L3 ⟨⟨q, j, bo, ey, hq⟩, hp⟩ => ⟨hp, fun H z => ?_⟩
    obtain ⟨o, hg, hin⟩ := (z.pre hp).look (i := L.length) (a := D) (e := .rows (acc.map rw_)) (b := true) (by simp)
    subst ey
    obtain ⟨as, e1, hl1, h3⟩ := hin
    subst e1
    refine ⟨_, hg, by rw [List.length_map, hl1, List.length_map], ?_⟩
    show (Ent.rows ((acc ++ [f x]).map rw_)).In _ _
    rw [List.map_append]
    exact rows_snoc ⟨as, rfl, hl1, h3⟩ hg (z.get hq)
  | false => exact k
end
/-- an item of a list of tuples -/
theorem wr_ixR {K : PySem.W.Frag} {g : Gr} {L : Led} {C : V → Led → Prop} {a : Addr} {bo : Bool} {rs : List (List V)} {r : List V} {k : Int} {jj : Nat} (j : Nat) (hj : L[j]? = some (a, .rows rs, bo)) (hk : ixN rs.length k = some jj) (hr : rs[jj]? = some r) (c : ∀ p, C (.ref p) (L ++ [(p, .ob (.tup r), false)])) : Wp g L (rIxL K (.ref a) (.int k)) C :=
  fun H z Q q => by
    obtain ⟨o, h1, as, e1, hl, hrs⟩ := z.look hj
    subst e1
    have hlt : jj < as.length := by rw [hl]; exact (List.getElem?_eq_some_iff.mp hr).1
    have hx3 := hrs jj as[jj] r (List.getElem?_eq_getElem hlt) hr
    refine ⟨a, as.map V.ref, k, .ref as[jj], rfl, rfl, SqL.of h1, ?_, q _ _ _ (c _) (z.addT hx3)⟩
    unfold atI
    rw [List.length_map, hl, hk]
    show (as.map V.ref)[jj]? = _
    rw [List.getElem?_map, List.getElem?_eq_getElem hlt]
    rfl
end Kr
/-! ### rows of numbers and None as data -/
namespace Kr
open PySem L2
def plV : V → Bool
  | .int _ => true
  | .non => true
  | _ => false
def dV : V → PyData
  | .int n => .int n
  | _ => .none
def dR (r : List V) : PyData := .tuple (r.map dV)
section
variable {K : PySem.W.Frag} {H : Hp}
theorem dp_dV {v : V} (h : plV v = true) : Dp K H v (dV v) := by
  cases v with
  | int n => exact .int n
  | non => exact .non
  | _ => cases h
theorem dpAll_dV : ∀ {r : List V}, r.all plV = true → DpAll K H r (r.map dV)
  | [], _ => .nil
  | v :: r, h => by
    rw [List.all_cons, Bool.and_eq_true] at h
    exact .cons (dp_dV h.1) (dpAll_dV h.2)
theorem eqv_dV {v w : V} (h1 : plV v = true) (h2 : plV w = true) : (dV v).eqv (dV w) = decide (v = w) := by
  cases v with
  | int n =>
    cases w with
    | int m =>
      rw [Bool.eq_iff_iff]
      simp [dV, PyData.eqv]
    | non => simp [dV, PyData.eqv]
    | _ => cases h2
  | non =>
    cases w with
    | int m => simp [dV, PyData.eqv]
    | non => simp [dV, PyData.eqv]
    | _ => cases h2
  | _ => cases h1
theorem eqvAll_dV : ∀ {r q : List V}, r.all plV = true → q.all plV = true → PyData.eqvAll (r.map dV) (q.map dV) = decide (r = q)
  | [], [], _, _ => by simp [PyData.eqvAll]
  | [], _ :: _, _, _ => by simp [PyData.eqvAll]
  | _ :: _, [], _, _ => by simp [PyData.eqvAll]
  | v :: r, w :: q, h1, h2 => by
    rw [List.all_cons, Bool.and_eq_true] at h1 h2
    rw [List.map_cons, List.map_cons]
    unfold PyData.eqvAll
    rw [eqv_dV h1.1 h2.1, eqvAll_dV h1.2 h2.2, Bool.eq_iff_iff]
    simp
theorem eqv_dR {r q : List V} (h1 : r.all plV = true) (h2 : q.all plV = true) : (dR r).eqv (dR q) = decide (r = q) := by
  unfold dR PyData.eqv
  exact eqvAll_dV h1 h2
theorem eqvAll_dR : ∀ {rs qs : List (List V)}, rs.all (fun r => r.all plV) = true → qs.all (fun r => r.all plV) = true → PyData.eqvAll (rs.map dR) (qs.map dR) = decide (rs = qs)
  | [], [], _, _ => by simp [PyData.eqvAll]
  | [], _ :: _, _, _ => by simp [PyData.eqvAll]
  | _ :: _, [], _, _ => by simp [PyData.eqvAll]
  | v :: r, w :: q, h1, h2 => by
    rw [List.all_cons, Bool.and_eq_true] at h1 h2
    rw [List.map_cons, List.map_cons]
    unfold PyData.eqvAll
    rw [eqv_dR h1.1 h2.1, eqvAll_dR h1.2 h2.2, Bool.eq_iff_iff]
    simp
theorem canLay_dV (v : V) : PyData.canLay0 (dV v) = true := by
  cases v <;> simp [dV, PyData.canLay0]
theorem canLayAll_dV : ∀ r : List V, PyData.canLayAll0 (r.map dV) = true
  | [] => by simp [PyData.canLayAll0]
  | v :: r => by
    rw [List.map_cons]
    simp only [PyData.canLayAll0, canLay_dV v, canLayAll_dV r, Bool.and_true]
theorem canLayAll_dR : ∀ rs : List (List V), PyData.canLayAll0 (rs.map dR) = true
  | [] => by simp [PyData.canLayAll0]
  | r :: rs => by
    rw [List.map_cons]
    simp only [PyData.canLayAll0, dR, PyData.canLay0, canLayAll_dV r, canLayAll_dR rs, Bool.and_true]
theorem depth_dV : ∀ r : List V, PyData.depthAll (r.map dV) ≤ 10
  | [] => by simp [PyData.depthAll]
  | v :: r => by
    have := depth_dV r
    have h : PyData.depth (dV v) ≤ 10 := by cases v <;> simp [dV, PyData.depth]
    rw [List.map_cons]
    simp only [PyData.depthAll]
    omega
theorem depth_dR : ∀ rs : List (List V), PyData.depthAll (rs.map dR) ≤ 20
  | [] => by simp [PyData.depthAll]
  | r :: rs => by
    have := depth_dR rs
    have h := depth_dV r
    rw [List.map_cons]
    simp only [PyData.depthAll, dR, PyData.depth]
    omega
theorem shaped_dR (rs : List (List V)) : SeqAt.shaped (.list (rs.map dR)) = true := by
  have h1 := depth_dR rs
  have h2 : PyData.depth (.list (rs.map dR)) ≤ 64 := by simp only [PyData.depth]; omega
  show (PyData.canLay0 (.list (rs.map dR)) && decide (PyData.depth (.list (rs.map dR)) ≤ 64)) = true
  rw [Bool.and_eq_true]
  exact ⟨by simp only [PyData.canLay0]; exact canLayAll_dR rs, decide_eq_true h2⟩
theorem dpAll_dR {H : Hp} : ∀ (as : List Addr) (rs : List (List V)), as.length = rs.length → rs.all (fun r => r.all plV) = true → (∀ (k : Nat) (b : Addr) (r : List V), as[k]? = some b → rs[k]? = some r → H b = some (.tup r)) → DpAll K H (as.map V.ref) (rs.map dR)
  | [], [], _, _, _ => .nil
  | [], _ :: _, h, _, _ => by cases h
  | _ :: _, [], h, _, _ => by cases h
  | a :: as, r :: rs, h, hp, hr => by
    rw [List.all_cons, Bool.and_eq_true] at hp
    exact .cons (.tup (SqT.of (hr 0 a r rfl rfl)) (dpAll_dV hp.1)) (dpAll_dR as rs (by simpa using h) hp.2 fun k b q h1 h2 => hr (k + 1) b q h1 h2)
end
section
variable {K : PySem.W.Frag} {g : Gr} {L : Led} {C : V → Led → Prop} {a a2 : Addr} {bo b2 : Bool}
theorem dp_rowsG {rs : List (List V)} (j : Nat) (hj : L[j]? = some (a, .rows rs, bo)) (hp : rs.all (fun r => r.all plV) = true) : DpA K g L (.ref a) (.list (rs.map dR)) := fun H z => by
  obtain ⟨o, h1, as, e1, hl, hr⟩ := z.look hj
  subst e1
  exact .lst (SqL.of h1) (dpAll_dR as rs hl hp hr)
theorem eqv_rows {rs qs : List (List V)} (h1 : rs.all (fun r => r.all plV) = true) (h2 : qs.all (fun r => r.all plV) = true) : PyData.eqv (.list (rs.map dR)) (.list (qs.map dR)) = decide (rs = qs) := by
  unfold PyData.eqv
  exact eqvAll_dR h1 h2
theorem wr_neRR {rs qs : List (List V)} (i j : Nat) (hi : L[i]? = some (a, .rows rs, bo)) (hj : L[j]? = some (a2, .rows qs, b2)) (h1 : rs.all (fun r => r.all plV) = true) (h2 : qs.all (fun r => r.all plV) = true) (c : C (.bl (!decide (rs = qs))) L) : Wp g L (rNeD K (.ref a) (.ref a2)) C :=
  wr_neD (dp_rowsG i hi h1) (dp_rowsG j hj h2) (shaped_dR rs) (shaped_dR qs) (by rw [eqv_rows h1 h2]; exact c)
theorem wr_eqRR {rs qs : List (List V)} (i j : Nat) (hi : L[i]? = some (a, .rows rs, bo)) (hj : L[j]? = some (a2, .rows qs, b2)) (h1 : rs.all (fun r => r.all plV) = true) (h2 : qs.all (fun r => r.all plV) = true) (c : C (.bl (decide (rs = qs))) L) : Wp g L (rEqD K (.ref a) (.ref a2)) C :=
  wr_eqD (dp_rowsG i hi h1) (dp_rowsG j hj h2) (shaped_dR rs) (shaped_dR qs) (by rw [eqv_rows h1 h2]; exact c)
theorem wr_neRL {rs : List (List V)} (i : Nat) (hi : L[i]? = some (a, .rows rs, bo)) (h1 : rs.all (fun r => r.all plV) = true) (s2 : Seen K g L a2 []) (c : C (.bl (!decide (rs = []))) L) : Wp g L (rNeD K (.ref a) (.ref a2)) C :=
  wr_neD (dp_rowsG i hi h1) (dp_lst s2 dps_nil) (shaped_dR rs) rfl (by
    have e := eqv_rows (rs := rs) (qs := []) h1 rfl
    rw [show PyData.eqv (.list (rs.map dR)) (.list []) = decide (rs = []) from e]
    exact c)
theorem wr_eqRL {rs : List (List V)} (i : Nat) (hi : L[i]? = some (a, .rows rs, bo)) (h1 : rs.all (fun r => r.all plV) = true) (s2 : Seen K g L a2 []) (c : C (.bl (decide (rs = []))) L) : Wp g L (rEqD K (.ref a) (.ref a2)) C :=
  wr_eqD (dp_rowsG i hi h1) (dp_lst s2 dps_nil) (shaped_dR rs) rfl (by
    have e := eqv_rows (rs := rs) (qs := []) h1 rfl
    rw [show PyData.eqv (.list (rs.map dR)) (.list []) = decide (rs = []) from e]
    exact c)
theorem pl_row2 (xs : List (Int × Int)) : (xs.map row2).all (fun r => r.all plV) = true := by
  rw [List.all_eq_true]
  intro r hr
  obtain ⟨x, _, rfl⟩ := List.mem_map.mp hr
  rfl
theorem pl_row3 (xs : List (Int × Int × Int)) : (xs.map row3).all (fun r => r.all plV) = true := by
  rw [List.all_eq_true]
  intro r hr
  obtain ⟨x, _, rfl⟩ := List.mem_map.mp hr
  rfl
theorem pl_row4 (xs : List (Int × Int × Int × Int)) : (xs.map row4).all (fun r => r.all plV) = true := by
  rw [List.all_eq_true]
  intro r hr
  obtain ⟨x, _, rfl⟩ := List.mem_map.mp hr
  rfl
end
end Kr
/-! ### over a tuple -/
namespace Kr
open PySem L2
theorem wi_tup {g : Gr} {L : Led} {σ : St} {T : It → Led → Prop} {Kf : PySem.W.Frag} {tl : TE} (h : Wp g L (tl σ) fun x L1 => ∃ (a : Addr) (xs : List V), x = V.ref a ∧ SeenT Kf g L1 a xs ∧ T (Itt Kf a) L1) : Wp g L (iTup Kf tl σ) T :=
  fun H z Q q => h H z _ fun x L1 H1 ⟨a, xs, e, s, c⟩ z1 => ⟨a, e, ⟨xs, s.at_ H1 z1⟩, q _ _ _ c z1⟩
theorem iter_tup {g : Gr} {L : Led} {a : Addr} {i : Nat} {Kf : PySem.W.Frag} {xs : List V} (s : SeenT Kf g L a xs) : Iter g L (Itt Kf a) (gName i) xs (fun x σ => σ.set i (some x)) := ⟨fun H z => by
  have hs := s.at_ H z
  refine ⟨⟨_, hs, Nat.le_refl _⟩, fun k x hx => ?_⟩
  refine ⟨⟨_, _, hs, hx⟩, fun v H' hy => ?_⟩
  obtain ⟨e1, e2⟩ := hy
  subst e1
  have e3 := e2 _ hs
  rw [hx] at e3
  have e3 := Option.some.inj e3
  subst e3
  exact ⟨same_refl, fun σ Q q => q⟩⟩
end Kr

set_option Elab.async false
set_option linter.all false
set_option maxRecDepth 100000
set_option maxHeartbeats 4000000
/-! ### set(xs) of a list of ints; sorted of it, any number of members -/
namespace Kr
open PySem PySem.Spec PyProof.Rows L2
section
variable {P : Program} {w : World} {A : Around} {E : Value → Shared → Prop} {s : Shared}
theorem call_set_listI {l : Addr} {items : Array Value} (ns : List Int) {Q : Value → Shared → Prop} (hh : A.handled = none) (hl : s.heap.IsList l items) (hit : IntsAre items.toList ns) (hb : ns.length + 1 < scanBound)
    (h : ∀ (h' : Heap) (tk c : Nat), SetR w h' s.heap.objs.size (fun j => decide (j ∈ ns)) c → c ≤ ns.length → (∀ b o, s.heap.get? b = some o → h'.get? b = some o) → Q (.ref s.heap.objs.size) { s with heap := h', toks := tk }) :
    wpAny (model P w) A (call (.type "set") [.ref l]) Q E s := by
  have hisz : items.size = ns.length := by
    have q := IntsAre.length hit
    rw [Array.length_toList] at q
    exact q
  obtain ⟨c, tl, hmro⟩ := F.called_set.mro
  have hmade := F.called_set.made
  have hsub := F.called_set.sub
  refine wpAny_call (codeAny_of_tree ?_)
  show wpAny _ _ (callAny (.type "set") _) _ _ _
  refine wpAny_pure ⟨Code.quiet_builtin _ (by decide +kernel), codeAny_builtin F.entry_type_call ?_⟩
  rw [Around.under_plain (weight_type_call_type "set" [.ref l] []) rfl]
  have h1 := F.called_set.notType
  have h2 := F.called_set.canCreate
  have hct := F.typeCall_set_1 (.ref l)
  repeat (any_goals (first | assumption | wp_step))
  refine codeAny_mono (code_set_led1 (.ref l) (E := E) (Q₁ := fun obj s₁ => obj = .ref s.heap.objs.size ∧ s₁ = { s with heap := s.heap.push { cls := .type "set", dict := none, data := .set #[] 0 (.fresh 0 0 (!w.params.followText "set-order")) } }) ⟨rfl, rfl⟩) fun r s₁ hr => ?_
  cases r with
  | error e => exact hr
  | ok fl =>
    cases fl with
    | ret obj =>
      obtain ⟨rfl, rfl⟩ := hr
      have hS : (s.heap.push { cls := .type "set", dict := none, data := .set #[] 0 (.fresh 0 0 (!w.params.followText "set-order")) }).get? s.heap.objs.size = some { cls := .type "set", dict := none, data := .set #[] 0 (.fresh 0 0 (!w.params.followText "set-order")) } := Heap.get?_push_size _ rfl
      have hT : Shared.TypeIs { s with heap := s.heap.push { cls := .type "set", dict := none, data := .set #[] 0 (.fresh 0 0 (!w.params.followText "set-order")) } } (.ref s.heap.objs.size) "set" := ⟨_, hS, rfl⟩
      have hli := F.called_set.init.lookup
      have hbi := F.called_set.init.bind (.ref s.heap.objs.size)
      repeat (any_goals (first | assumption | wp_step))
      refine codeAny_mono (codeAny_call_builtin (R := wants (fun r s₂ => r = .none ∧ ∃ h' tk c, s₂ = { s with heap := h', toks := tk } ∧ SetR w h' s.heap.objs.size (fun j => decide (j ∈ ns)) c ∧ c ≤ ns.length ∧
          (∀ b o, s.heap.get? b = some o → h'.get? b = some o)) E) F.called_set.init.plain F.entry_set_init (check_set_init_1 hT ?_)) fun r₂ s₂ hr₂ => ?_
      · obtain ⟨ol, hol, hcl, nl, hdl⟩ := hl
        obtain ⟨ocls, odict, odata, oslots⟩ := ol
        simp only at hcl hdl
        subst hcl; subst hdl
        have hol' : (s.heap.push { cls := .type "set", dict := none, data := .set #[] 0 (.fresh 0 0 (!w.params.followText "set-order")) }).get? l = some { cls := .type "list", dict := odict, data := .seq items nl, slots := oslots } := Heap.get?_push_of_some _ hol
        have hsls := F.sub_list_set
        have hslf := F.sub_list_frozenset
        have hne : (Value.type "list" == Value.type "dict") = false := by decide
        have hl1 : (s.heap.push { cls := .type "set", dict := none, data := .set #[] 0 (.fresh 0 0 (!w.params.followText "set-order")) }).IsList l items := ⟨_, hol', rfl, nl, rfl⟩
        unfold Builtin.«set.__init__» noKeywords Builtin.Frozenset.updateFrom
        generalize hPI : pyIter = PI
        wp_walk
        subst hPI
        refine wpAny_pyIter_list hl1 ?_
        refine wpAny_bind (wpAny_runValue ?_)
        have hlS : l < s.heap.objs.size := Heap.lt_size hol
        have hh3 : A.in1.in1.in1.handled = none := by simp [hh]
        have hz1 : (s.heap.push { cls := .type "set", dict := none, data := .set #[] 0 (.fresh 0 0 (!w.params.followText "set-order")) }).objs.size = s.heap.objs.size + 1 := Heap.size_push ..
        have hneI : l ≠ (s.heap.push { cls := .type "set", dict := none, data := .set #[] 0 (.fresh 0 0 (!w.params.followText "set-order")) }).objs.size := by
          rw [Heap.size_push]; exact Nat.ne_of_lt (Nat.lt_succ_of_lt hlS)
        have hSf : s.heap.objs.size ∉ [(s.heap.push { cls := .type "set", dict := none, data := .set #[] 0 (.fresh 0 0 (!w.params.followText "set-order")) }).objs.size, l] := by
          rw [Heap.size_push]; simp only [List.mem_cons, List.mem_singleton, List.not_mem_nil, or_false, not_or]
          exact ⟨Nat.ne_of_lt (Nat.lt_succ_self _), Nat.ne_of_gt hlS⟩
        have hval : ∀ (i : Nat) (v : Value), items[i]? = some v → ∃ k t, ns[i]? = some k ∧ v = .int k t := fun i v hv => by
          have hi : i < ns.length := by rw [← hisz]; exact (Array.getElem?_eq_some_iff.mp hv).1
          obtain ⟨t, e⟩ := PyProof.Rows.IntsAre.int_at hit i v (by rw [Array.getElem?_toList]; exact hv)
          refine ⟨ns[i], t, List.getElem?_eq_getElem hi, ?_⟩
          rw [e, List.getD_eq_getElem?_getD, List.getElem?_eq_getElem hi] <;> rfl
        refine set_update_ints ((Walks.list hh3 _ l hneI items).toS) s.heap.objs.size
          hSf ns hisz hb hval (items.size - 0) 0 _ (by omega) (Nat.zero_le _)
          ⟨⟨_, Heap.get?_push_size _ rfl, rfl, rfl⟩, (hl1.push _)⟩ ?hS0 ?hR
        case hS0 =>
          have hget : ((s.heap.push { cls := .type "set", dict := none, data := .set #[] 0 (.fresh 0 0 (!w.params.followText "set-order")) }).push { cls := .type "list_iterator", data := .fields #[.ref l, .int 0 0] }).get? s.heap.objs.size
              = some { cls := .type "set", dict := none, data := .set #[] 0 (.fresh 0 0 (!w.params.followText "set-order")) } := Heap.get?_push_of_some _ hS
          exact ⟨0, Nat.le_refl 0, setR_new_at hget⟩
        case hR =>
          intro s' c' hm hc' hS'
          obtain ⟨h', g2, d', tk', os'⟩ := s'
          have eg : g2 = s.gens := hm.gens
          have ed : d' = s.drawn := hm.drawn
          have eo : os' = s.os := hm.os
          subst eg; subst ed; subst eo
          show wpAny _ _ _ _ _ _
          refine wpAny_pure ?_
          show wpAny _ _ (ret Value.none) _ _ _
          rw [hisz] at hc'
          refine wpAny_pure ⟨rfl, h', tk', c', rfl, hS', hc', fun b o e => ?_⟩
          have hb0 : b < s.heap.objs.size := Heap.lt_size e
          have hb1 : b ≠ s.heap.objs.size := Nat.ne_of_lt hb0
          have hb2 : b ≠ (s.heap.push { cls := .type "set", dict := none, data := .set #[] 0 (.fresh 0 0 (!w.params.followText "set-order")) }).objs.size := by
            rw [Heap.size_push]; exact Nat.ne_of_lt (Nat.lt_succ_of_lt hb0)
          exact hm.heap b o (by simp only [List.mem_cons, List.mem_singleton, List.not_mem_nil, or_false, not_or]; exact ⟨hb1, hb2⟩) (Heap.get?_push_of_some _ (Heap.get?_push_of_some _ e))
      · cases r₂ with
        | error e => exact hr₂
        | ok fl₂ =>
          cases fl₂ with
          | ret r =>
            obtain ⟨rfl, h', tk, c', rfl, hS', hc', hk'⟩ := hr₂
            repeat (any_goals (first | assumption | wp_step))
            exact h _ _ _ hS' hc' hk'
          | _ => exact hr₂.elim
    | _ => exact hr.elim
/-- sorted(found), any number of members -/
theorem sorted_setO {a : Addr} {S : Int → Bool} {n : Nat} {Q : Value → Shared → Prop} (R : SetR w s.heap a S n) (hh : A.handled = none) (hz : n ≤ sizeLine)
    (hQ : ∀ s' p (out : Array Value) (c : Nat) (ns : List Int), (∀ b o, s.heap.get? b = some o → s'.heap.get? b = some o) → s'.gens = s.gens → s'.os = s.os → s.heap.objs.size ≤ p →
      s'.heap.get? p = some (seqObj "list" out c) → IntsAre out.toList ns → ns.Pairwise (· < ·) → (∀ k, k ∈ ns ↔ S k = true) → ns.length = n → Q (.ref p) s') :
    wpAny (model P w) A (call (.builtin "sorted") [.ref a]) Q E s := by
  obtain ⟨o, es, ep, t, ho, hex, hd, g, nd, hm, hb, hf, hn, hr, hl⟩ := R
  refine Calls.call_function_entry kind_sorted plain_sorted entry_sorted (args_sorted1 _) ?_
  unfold Builtin.«sorted»
  refine wpAny_bind (m := checkCount "sorted" 1 1 _) (wpAny_pure ?_)
  refine wpAny_bind (collect_set (A := A.in1) hh ⟨o, ho, hex.1, hd⟩ hf hb hr hl fun s1 vs k1 hz1 g1 o1 pm => ?_)
  have hvl : vs.length = n := by rw [pm.length_eq, List.length_map, Array.length_toList]; exact hn
  have hI : IntsAre vs (vs.map SrtO.iv) := SrtO.ints_iv fun v hv => by
    obtain ⟨e, he, q⟩ := List.mem_map.mp (pm.mem_iff.mp hv)
    obtain ⟨k, tk, h1, _⟩ := g e he
    exact ⟨k, tk, by rw [← q]; exact h1⟩
  have hkey : ∀ e ∈ es.toList, SrtO.iv e.2 = keyOf e := fun e he => by
    obtain ⟨k, tk, h1, _⟩ := g e he
    unfold keyOf
    rw [h1]
    rfl
  have pk : (vs.map SrtO.iv).Perm (es.toList.map keyOf) := by
    have q := pm.map SrtO.iv
    rw [List.map_map] at q
    have e2 : es.toList.map (SrtO.iv ∘ fun x => x.2) = es.toList.map keyOf := List.map_congr_left fun e he => hkey e he
    rw [← e2]
    exact q
  refine wpAny_bind (wpAny_newList ?_ (by rw [hvl]; exact hz))
  have hoL : (s1.heap.push (seqObj "list" vs.toArray 0)).get? s1.heap.objs.size = some (seqObj "list" vs.toArray 0) := Heap.get?_push_size _ rfl
  refine wpAny_bind (wpAny_holding (wpAny_call_entry PyProof.Rows.slot_list_sort ⟨_, hoL, rfl⟩ PyProof.Rows.entry_list_sort (SrtO.list_sort_ord SrtO.swo_int hoL (by rw [hvl]; exact hz) (fun h2 => SrtO.ints_sortable hI h2) fun out h1 h2 => ⟨_, rfl, ?_⟩) (PyProof.Rows.args_list_sort _)))
  obtain ⟨q1, q2, q3⟩ := SrtO.ints_out hI h1 h2
  obtain ⟨c, hc⟩ := PyProof.Rows.sortedHeap_at (vs := vs) (out := out.toArray) hoL
  have pn : (out.map SrtO.iv).Perm (es.toList.map keyOf) := q2.trans pk
  refine wpAny_pure ⟨_, rfl, hQ _ s1.heap.objs.size out.toArray c (out.map SrtO.iv) (fun b u e => ?_) g1 o1 hz1 hc (by simpa using q1) (lt_of_le_nodup _ q3 (pn.nodup_iff.mpr nd)) (fun k => by rw [pn.mem_iff, ← hm k]) ?_⟩
  · have q := k1 b u e
    have hlt := Heap.lt_size q
    show (sortedHeap (s1.heap.push (seqObj "list" vs.toArray 0)) s1.heap.objs.size vs out.toArray).get? b = some u
    rw [PyProof.Rows.sortedHeap_old (Nat.ne_of_lt hlt) (by rw [size_push']; exact Nat.lt_succ_of_lt hlt)]
    exact Heap.get?_push_of_some _ q
  · rw [pn.length_eq, List.length_map, Array.length_toList]; exact hn
end
section
variable {X : Cx}
def rSetI (K : PySem.W.Frag) (w : World) : List V → Hp → VK → Prop := fun xs H Q => ∃ (l : Addr) (ns : List Int), xs = [V.ref l] ∧ SqL K H l (ns.map V.int) ∧ ns.length ≤ 4000 ∧ ∀ (p : Addr) (c : Nat), H p = none → c ≤ ns.length → Q (.ref p) (upd H p (SetO w p (fun j => decide (j ∈ ns)) c))
theorem cr_setI (hc : X.calm = true) : CallR X (.type "set") (rSetI X.K X.w) := by
  intro pins s σ H xs us Q I r h
  obtain ⟨l, ns, rfl, hq, hl, q⟩ := h
  rw [Vals.ref1 r]
  obtain ⟨its, rv, pl, hz⟩ := I.list hq
  refine call_set_listI ns (I.ok.hd hc) pl.isList (by simpa using RZ.intsAre_vals rv) (by unfold scanBound; omega) fun h' tk c hS hc' hk => ?_
  exact ⟨.ref _, upd H s.heap.objs.size (SetO X.w s.heap.objs.size (fun j => decide (j ∈ ns)) c), I.laid (t' := tk) hk (Nat.le_refl _) (setO_new hS), rfl, q _ c (I.hok.fresh (Nat.le_refl _)) hc'⟩
def rSortedSetO (w : World) : List V → Hp → VK → Prop := fun vs H Q => ∃ (a : Addr) (S : Int → Bool) (n : Nat), vs = [V.ref a] ∧ H a = some (SetO w a S n) ∧ n ≤ 4000 ∧
  ∀ (ns : List Int) (p : Addr), ns.Pairwise (· < ·) → (∀ k : Int, k ∈ ns ↔ S k = true) → ns.length = n → H p = none → Q (.ref p) (upd H p (.lst (ns.map V.int)))
theorem cr_sortedSetO (hc : X.calm = true) : CallR X (.builtin "sorted") (rSortedSetO X.w) := by
  intro pins s σ H vs us Q I r h
  obtain ⟨a, S, n, rfl, ha, h64, q⟩ := h
  have R := setO_get I ha
  rw [Vals.ref1 r]
  refine sorted_setO R (I.ok.hd hc) (by rw [sizeLine_eq]; omega) fun s' p out c ns k g o hp hg hi hs hm hl => ?_
  have hlen : (ns.map V.int).length ≤ sizeLine := by rw [List.length_map, hl, sizeLine_eq]; omega
  have hn : H p = none := I.hok.fresh hp
  have J : Inv X pins σ (upd H p (.lst (ns.map V.int))) { s with heap := s'.heap, gens := s'.gens, drawn := s'.drawn, toks := s'.toks } :=
    I.call (ch := []) (Un.laid k hp hn) (I.hok.laid k hp ⟨hlen, out.toList, c, vals_of_ints hi, hg⟩) (by rw [g]; exact I.bare) (fun _ z => nomatch z)
  have e : s' = { s with heap := s'.heap, gens := s'.gens, drawn := s'.drawn, toks := s'.toks } := by
    cases s'
    cases s
    cases o
    rfl
  rw [e]
  exact ⟨.ref p, _, J, rfl, q ns p hs hm hl hn⟩
end
section
variable {K : PySem.W.Frag} {w : World} {g : Gr} {L : Led} {C : V → Led → Prop} {a : Addr}
theorem wc_set {ns : List Int} (s : Seen K g L a (ns.map V.int)) (hl : ns.length ≤ 4000) (c : ∀ (p : Addr) (n : Nat), n ≤ ns.length → C (.ref p) (L ++ [(p, .ob (SetO w p (fun j => decide (j ∈ ns)) n), true)])) : Wp g L (rSetI K w [.ref a]) C :=
  fun H z Q q => ⟨a, ns, rfl, s.at_ H z, hl, fun p n hp hn => q _ _ _ (c p n hn) (z.upd_new hp)⟩
theorem wc_sortedSet {S : Int → Bool} {n : Nat} {bo : Bool} (i : Nat) (h : L[i]? = some (a, .ob (SetO w a S n), bo)) (hn : n ≤ 4000) (c : ∀ (ns : List Int) (p : Addr), ns.Pairwise (· < ·) → (∀ k : Int, k ∈ ns ↔ S k = true) → ns.length = n → C (.ref p) (L ++ [(p, .ob (.lst (ns.map V.int)), true)])) : Wp g L (rSortedSetO w [.ref a]) C :=
  fun H z Q q => ⟨a, S, n, rfl, z.get h, hn, fun ns p h1 h2 h3 hp => q _ _ _ (c ns p h1 h2 h3) (z.upd_new hp)⟩
end
end Kr

set_option Elab.async false
set_option linter.all false
set_option maxRecDepth 100000
/-! ### None or a number, compared -/
namespace Kr
open PySem L2
def leV (v : V) (hi : Int) : Bool := match v with
  | .int n => decide (n ≤ hi)
  | _ => false
def ltV (v : V) (hi : Int) : Bool := match v with
  | .int n => decide (n < hi)
  | _ => false
section
variable {g : Gr} {L : Led} {C : V → Led → Prop}
theorem wr_leO {v : V} {hi : Int} (h : ∃ n : Int, v = .int n) (c : C (.bl (leV v hi)) L) : Wp g L (rI0 (fun i j => .bl (decide (i ≤ j))) v (.int hi)) C := by
  obtain ⟨n, rfl⟩ := h
  exact wr0 c
theorem wr_ltO {v : V} {hi : Int} (h : ∃ n : Int, v = .int n) (c : C (.bl (ltV v hi)) L) : Wp g L (rI0 (fun i j => .bl (decide (i < j))) v (.int hi)) C := by
  obtain ⟨n, rfl⟩ := h
  exact wr0 c
end
end Kr
namespace Kr
open PySem L2
def inO (v : V) (ns : List Int) : Bool := match v with
  | .int n => decide (n ∈ ns)
  | _ => false
theorem wr_inO {K : PySem.W.Frag} {g : Gr} {L : Led} {C : V → Led → Prop} {a : Addr} {v : V} {ns : List Int} (h : v = .non ∨ ∃ n : Int, v = .int n) (s : Seen K g L a (ns.map V.int)) (c : C (.bl (inO v ns)) L) : Wp g L (rIn K false v (.ref a)) C := by
  rcases h with rfl | ⟨n, rfl⟩
  · refine wr_in s rfl flat_ints ?_
    have e : inV .non (ns.map V.int) = false := by
      unfold inV
      rw [List.any_eq_false]
      intro x hx
      obtain ⟨m, _, rfl⟩ := List.mem_map.mp hx
      simp [eqV]
    rw [e]
    exact c
  · exact wr_inI s c
end Kr

set_option Elab.async false
set_option linter.all false
set_option maxRecDepth 100000
set_option maxHeartbeats 1000000
/-! ### for archives: old objects, classes as values, calls with keyword-only parameters -/
namespace Kr
open PySem L2
section
variable {g : Gr} {L : Led} {H : Hp} {a : Addr} {o : HO} {t : TS} {σ : St} {K : Ks}
/-- an object that stood at the entry -/
theorem At.addOld (z : At g L H) (h : g.H0 a = some o) (hm : ¬ g.mu a) : At g (L ++ [(a, .ob o, false)]) H := by
  refine ⟨z.old, fun q hq => ?_, fun q hq hb => ?_, nd_app z.nd fun q hq e => ?_⟩
  · rcases List.mem_append.mp hq with hq | hq
    · exact z.led q hq
    · have e : q = (a, Ent.ob o, false) := by simpa using hq
      subst e
      exact ⟨_, z.old a o h hm, rfl⟩
  · rcases List.mem_append.mp hq with hq | hq
    · exact z.own q hq hb
    · have e : q = (a, Ent.ob o, false) := by simpa using hq
      subst e
      cases hb
  · refine .inr ⟨?_, rfl⟩
    cases hb : q.2.2 with
    | false => rfl
    | true =>
      rcases z.own q hq hb with y | y
      · rw [show q.1 = a from e, h] at y
        cases y
      · rw [show q.1 = a from e] at y
        exact absurd y hm
theorem ws_old (h : g.H0 a = some o) (hm : ¬ g.mu a) (c : Ws g (L ++ [(a, .ob o, false)]) t σ K) : Ws g L t σ K := fun H z D e => c H (z.addOld h hm) D e
theorem wp_old {α : Type} {m : Hp → (α → Hp → Prop) → Prop} {C : α → Led → Prop} (h : g.H0 a = some o) (hm : ¬ g.mu a) (c : Wp g (L ++ [(a, .ob o, false)]) m C) : Wp g L m C := fun H z Q q => c H (z.addOld h hm) Q q
end
section
variable {X : Cx} {x : Str} {pos : Pos} {C : Addr}
theorem pe_cls (hg : Gl X x) (hm : X.mg x = some (.ref C)) (hd : (x == ("__debug__" : Str)) = false := by decide) : PE X (.Name x pos) (tC (.ref C)) := pe_glob hg hm rfl hd
theorem pe_tylist (hg : Gl X "list") (hm : X.mg "list" = none) : PE X (.Name "list" pos) (tC (.ty "list")) := pe_bltn hg hm (by decide +kernel) rfl
def rIsC (C : Addr) : List V → Hp → VK → Prop := fun xs H Q => ∃ a dx fs, xs = [.ref a, .ref C] ∧ H a = some (.ins C dx fs) ∧ Q (.bl true) H
theorem c_isC (c : C8.InsC X.K C) : CallR X (.builtin "isinstance") (rIsC C) := C8.call_isC c
end
section
variable {Kf : PySem.W.Frag} {g : Gr} {L : Led} {C : V → Led → Prop} {σ : St} {a : Addr} {ta tb : TE}
theorem wc_isC {D dx : Addr} {fs : List (Str × V)} {bo : Bool} (i : Nat) (h : L[i]? = some (a, .ob (.ins D dx fs), bo)) (c : C (.bl true) L) : Wp g L (rIsC D [.ref a, .ref D]) C :=
  .now (fun H _ z q => ⟨a, dx, fs, rfl, z.get h, q⟩) c
theorem wc_isi_list {xs : List V} {bo : Bool} (i : Nat) (h : L[i]? = some (a, .ob (.lst xs), bo)) (c : C (.bl true) L) : Wp g L (rIsi Kf [.ref a, .ty "list"]) C :=
  .now (fun H _ z q => ⟨.ref a, .ty "list", _, _, true, rfl, .ty _, .base (.lst (z.get h)), kit_ty (by decide +kernel), q⟩) c
theorem rgV_eq (i j : Int) : rgV i j = (rngI i (j - i).toNat).map V.int := by
  unfold rgV rngI
  rw [List.map_map]
  rfl
theorem wp_listRg2 (h : Wp g L (ta σ) fun x L1 => Wp g L1 (tb σ) fun y L2 => ∃ i j : Int, x = .int i ∧ y = .int j ∧ RgOk i j ∧ ∀ p, C (.ref p) (L2 ++ [(p, .ob (.lst ((rngI i (j - i).toNat).map V.int)), true)])) : Wp g L (tLstRg (tRg2 ta tb) σ) C :=
  fun H z Q q => h H z _ fun x L1 H1 h1 z1 => h1 H1 z1 _ fun y L2 H2 ⟨i, j, e1, e2, ok, c⟩ z2 => ⟨i, j, e1, e2, ok, fun p hp => by
    rw [rgV_eq]
    exact q _ _ _ (c p) (z2.upd_new hp)⟩
theorem wp_listRg1 (h : Wp g L (ta σ) fun y L2 => ∃ j : Int, y = .int j ∧ RgOk 0 j ∧ ∀ p, C (.ref p) (L2 ++ [(p, .ob (.lst ((rngI 0 j.toNat).map V.int)), true)])) : Wp g L (tLstRg (tRg1 ta) σ) C :=
  fun H z Q q => h H z _ fun y L2 H2 ⟨j, e2, ok, c⟩ z2 => ⟨j, e2, ok, fun p hp => by
    rw [rgV_eq, Int.sub_zero]
    exact q _ _ _ (c p) (z2.upd_new hp)⟩
end
/-! ### classes whose __init__ has keyword-only parameters -/
structure InitFnK (K : PySem.W.Frag) (mg : Str → Option Value) (x : Str) (C : Addr) (qual : Str) (st : Stmt) (kwd : List (Str × V)) : Prop where
  mg : mg x = some (.ref C)
  ex : ∃ f fd, Mk K C f ∧ FunD K "__init__" qual (defArgs st) (defBody st) (defScope st) [] kwd f fd
structure OkCK (P : Program) (w : World) (K : PySem.W.Frag) (mg : Str → Option Value) (base : Heap) (x : Str) (C : Addr) (k : Nat) (qual : Str) (st : Stmt) (kwd : List (Str × V)) (ps : List Str) (sp : Sp) : Prop where
  ex : ∃ f fd, mg x = some (.ref C) ∧ Mk K C f ∧ FunD K "__init__" qual (defArgs st) (defBody st) (defScope st) [] kwd f fd ∧ FnOk P w K mg base CX0 k f fd ps sp
section
variable {P : Program} {w : World} {K : PySem.W.Frag} {mg : Str → Option Value} {base : Heap}
theorem OkCK.of {C : Addr} {x qual : Str} {st : Stmt} {kwd : List (Str × V)} {N ps : List Str} {k : Nat} {sp : Sp} (T : InitFnK K mg x C qual st kwd) (S : FnScope N ps (defScope st))
    (len : ∀ vs H Q E, sp vs H Q E → vs.length = ps.length) (body : BodyOk P w K mg base qual st N k sp) : OkCK P w K mg base x C (k + 1) qual st kwd ps sp := by
  obtain ⟨f, fd, h1, F⟩ := T.ex
  refine ⟨f, fd, T.mg, h1, F, F.ok S len fun cdv A outer s H vs Q E hr hsp => ?_⟩
  obtain ⟨t, h, q⟩ := body f cdv A outer s H vs Q E hr hsp
  exact ⟨t, h.nox, q⟩
theorem initFnK_mk {x : Str} {C : Addr} {qual : Str} {st : Stmt} {f D : Addr} {oc : Value} {od an : Option Addr} {osl : Array (Option Value)} {doc pm cdv ct : Value} {n1 n2 n3 n4 : Str} (hm : mg x = some (.ref C)) (mk : PySem.W.makesIn K C = true) (kc : PySem.W.keepIn K (.ref C) = true)
    (a : PySem.W.findIn K (.ref C) "__init__" = some (some (.ref f))) (i : PySem.W.isFn K (.ref f) = true)
    (l : K.lookup f = some ⟨oc, od, .func (PySem.W.fnOf "__init__" qual (defArgs st) (defBody st) (defScope st) .none (.ref D) doc pm an cdv ct), osl⟩) (c : PySem.W.codeIn K cdv qual = true) (k : PySem.W.keepIn K (.ref f) = true)
    (d1 : PySem.W.nsIn K D n1 = some (some .none)) (d2 : PySem.W.nsIn K D n2 = some (some .none)) (d3 : PySem.W.nsIn K D n3 = some (some .none)) (d4 : PySem.W.nsIn K D n4 = some (some .none)) : InitFnK K mg x C qual st [(n1, .non), (n2, .non), (n3, .non), (n4, .non)] :=
  ⟨hm, f, _, ⟨mk, a, i, kc⟩, ⟨_, _, _, _, _, _, _, _, _, _, rfl, l, c, .inl ⟨rfl, rfl⟩, .inr ⟨D, rfl, fun q hq => by
    simp only [List.mem_cons, List.not_mem_nil, or_false] at hq
    rcases hq with rfl | rfl | rfl | rfl
    · exact ⟨_, d1, rfl⟩
    · exact ⟨_, d2, rfl⟩
    · exact ⟨_, d3, rfl⟩
    · exact ⟨_, d4, rfl⟩⟩⟩, k⟩
end
/-- positional values, then for each keyword-only parameter its keyword's value or its default -/
def mixL {α : Type} (mv ws : List α) : List (Nat ⊕ Nat) → List α
  | [] => []
  | .inl i :: q => (ws[i]?).toList ++ mixL mv ws q
  | .inr j :: q => (mv[j]?).toList ++ mixL mv ws q
def mix {α : Type} (perm : List (Nat ⊕ Nat)) (us mv ws : List α) : List α := us ++ mixL mv ws perm
theorem opt_vals {zs : List V} {ws : List Value} (r : Vals zs ws) (i : Nat) : Vals (zs[i]?).toList (ws[i]?).toList := by
  cases h : zs[i]? with
  | none => rw [r.none_of h]; exact .nil
  | some x =>
    obtain ⟨u, h1, h2⟩ := r.get h
    rw [h1]
    exact .cons h2 .nil
theorem mix_vals {mz zs : List V} {mv ws : List Value} (r2 : Vals mz mv) (r3 : Vals zs ws) : ∀ perm : List (Nat ⊕ Nat), Vals (mixL mz zs perm) (mixL mv ws perm)
  | [] => .nil
  | .inl i :: q => Vals.append (opt_vals r3 i) (mix_vals r2 r3 q)
  | .inr i :: q => Vals.append (opt_vals r2 i) (mix_vals r2 r3 q)
theorem mix_rel (perm : List (Nat ⊕ Nat)) {vs mz zs : List V} {us mv ws : List Value} (r1 : Vals vs us) (r2 : Vals mz mv) (r3 : Vals zs ws) : Vals (mix perm vs mz zs) (mix perm us mv ws) :=
  Vals.append r1 (mix_vals r2 r3 perm)
section
variable {X : Cx} {k n : Nat} {x : Str} {ps ks : List Str} {sp : Sp} {p pos : Pos} {e : Expr} {es : List Expr} {t tk : TA} {C : Addr} {st : Stmt} {qual : Str} {kwd ms : List (Str × V)} {kws : List Keyword}
theorem pe_ocK (perm : List (Nat ⊕ Nat)) (O : OkCK X.prog X.w X.K X.mg X.base x C k qual st kwd ps sp) (hr : Room (k + 1) X.A) (hg : Gl X x) (ha : PA X (e :: es) t) (hkw : PK X kws tk) (hk : kwd ≠ []) (hms : ∀ q ∈ ms, q ∈ kwd)
    (hb : ∀ (D : Addr) (doc pm : Value) (an : Option Addr) (cdv ct : Value) (us mv ws : List Value), us.length = n + 1 → mv.length = ms.length → ws.length = ks.length →
      KwChain D ((ms.map (·.1)).zip mv) (bindArgs (PySem.W.fnOf "__init__" qual (defArgs st) (defBody st) (defScope st) .none (.ref D) doc pm an cdv ct) ⟨us, ks.zip ws⟩) (ps.zip (mix perm us mv ws)))
    (hall : (backToKw pos (keywordEach kws X.env)).all (·.1.isSome) = true := by rfl) (hks : (backToKw pos (keywordEach kws X.env)).filterMap (·.1) = ks := by rfl) (hdb : (x == ("__debug__" : Str)) = false := by decide)
    (he : starEach (e :: es) X.env = (false, eval e X.env) :: starEach es X.env := by rfl) (hpl : ((backTo pos (starEach (e :: es) X.env)).any (·.1) || (backToKw pos (keywordEach kws X.env)).any (·.1.isNone)) = false := by rfl) :
    PE X (.Call (.Name x p) (e :: es) kws pos) (tMakeK C n ks.length sp (fun vs zs => mix perm vs (ms.map (·.2)) zs) E0 t tk) := by
  obtain ⟨f, fd, h1, M, F, O⟩ := O.ex
  obtain ⟨mv, kb⟩ := F.kbinds0 (ps := ps) (n + 1) ks ms (fun us mv ws => mix perm us mv ws) hk hms (fun r1 r2 r3 => mix_rel perm r1 r2 r3) hb
  exact pe_makeK M O hr hg h1 kb pass0 ha hkw hall hks hdb he hpl
end
theorem wp_makeK {g : Gr} {L : Led} {σ : St} {D : V → Led → Prop} {C : Addr} {n m : Nat} {sp : Sp} {gV : List V → List V → List V} {E : XK} {t tk : TA}
    (h : Wp g L (t σ) fun vs L1 => Wp g L1 (tk σ) fun zs L2 => vs.length = n ∧ zs.length = m ∧ ∀ H2, At g L2 H2 → ∀ Q : V → Hp → Prop, (∀ v L' H', D v L' → At g L' H' → Q v H') → ∀ x dx, H2 x = none → H2 dx = none → dx ≠ x →
      sp (gV (.ref x :: vs) zs) (upd (upd H2 dx (.own x)) x (.ins C dx [])) (fun v H3 => v = .non ∧ Q (.ref x) H3) E) : Wp g L (tMakeK C n m sp gV E t tk σ) D :=
  fun H z Q q => h H z _ fun vs L1 H1 h1 z1 => h1 H1 z1 _ fun zs L2 H2 ⟨e1, e2, k⟩ z2 => ⟨e1, e2, fun x dx hx hdx hne => k H2 z2 Q q x dx hx hdx hne⟩
end Kr
namespace Kr
open PySem L2
theorem pe_fldK {X : Cx} {Kf : PySem.W.Frag} {e : Expr} {f : Str} {pos : Pos} {ta : TE} (hK : X.K = Kf) (he : PE X e ta) (hb : attributeBase e f X.env (eval e X.env) = eval e X.env) : PE X (.Attribute e f pos) (tFld Kf ta f) := hK ▸ pe_fld he hb
end Kr
namespace Kr
open PySem L2
theorem At.draw_news {g : Gr} {L E : Led} {H H' : Hp} {a : Addr} {e e' : Ent} {i : Nat} (z : At g L H) (k : L[i]? = some (a, e, true)) (s : Exc a H H') (h : EntAt e' H' a) (hE : ∀ q ∈ E, H q.1 = none ∧ ∃ o, H' q.1 = some o ∧ q.2.1.In H' o) (nd : (E.map (·.1)).Nodup) (hmv : e.mov = true := by rfl) : At g (L.set i (a, e', true) ++ E) H' := by
  have z2 := z.draw k s h hmv
  refine ⟨z2.old, fun q hq => ?_, fun q hq hb => ?_, ?_⟩
  · rcases List.mem_append.mp hq with hq | hq
    · exact z2.led q hq
    · exact (hE q hq).2
  · rcases List.mem_append.mp hq with hq | hq
    · exact z2.own q hq hb
    · by_cases hmu : g.mu q.1
      · exact .inr hmu
      · refine .inl ?_
        cases e : g.H0 q.1 with
        | none => rfl
        | some u =>
          have := (hE q hq).1
          rw [z.old q.1 u e hmu] at this
          cases this
  · rw [List.pairwise_append]
    refine ⟨z2.nd, ?_, fun x hx y hy e2 => ?_⟩
    · have := List.nodup_iff_pairwise_ne.mp nd
      rw [List.pairwise_map] at this
      exact this.imp fun hne e => absurd e hne
    · have hn := (hE y hy).1
      rcases List.mem_or_eq_of_mem_set hx with r | r
      · obtain ⟨o, h1, _⟩ := z.led x r
        rw [e2, hn] at h1
        cases h1
      · subst r
        obtain ⟨o, h1, _⟩ := z.look k
        rw [show a = y.1 from e2, hn] at h1
        cases h1
theorem wr_catI {g : Gr} {L : Led} {C : V → Led → Prop} {a a2 : Addr} {xs ys : List Int} {b1 b2 : Bool} (i j : Nat) (h1 : L[i]? = some (a, .ob (.lst (xs.map V.int)), b1)) (h2 : L[j]? = some (a2, .ob (.lst (ys.map V.int)), b2)) (hl : xs.length + ys.length ≤ 100000)
    (c : ∀ p, C (.ref p) (L ++ [(p, .ob (.lst ((xs ++ ys).map V.int)), true)])) : Wp g L (rCat (.ref a) (.ref a2)) C :=
  wr_cat i j h1 h2 (by rw [List.length_map, List.length_map]; exact hl) (by rw [← List.map_append]; exact c)
end Kr

set_option Elab.async false
set_option linter.all false
set_option maxRecDepth 100000
/-! ### == and != by an own __eq__, both answers; != of tuples and lists whose items are equal -/
namespace Kq
open PySem PySem.SeqAt AutoSeq1 MeetsSeq MeetsSeq2 MeetsSeq3 SeqRoads2
section
variable {prog : Program} {w : World} {A : Around} {E : Value → Shared → Prop} {s : Shared} {K : PySem.W.Frag} {x C f : Addr} {b : Value} {ox : Obj} {od : Option Obj}
theorem bound_ne {M : Model} {args : List Value} {Q : Option Value → Shared → Prop} (X : K.In s.heap) (I : PySem.W.InstAt s.heap x ox C od) (hn : PySem.W.findIn K (.ref C) "__ne__" = some (some (.builtin "object.__ne__")))
    (h : wpAny M A (call (.builtin "object.__ne__") (.ref x :: args)) (fun v => Q (some v)) E s) : wpAny M A (callSpecialIfBound? (.ref x) "__ne__" args) Q E s := by
  simp only [callSpecialIfBound?, bindSpecialIfBound?]
  refine wpAny_holding (wpAny_bind (wpAny_bind (wpAny_bind (I.type.here ((PySem.W.looks_findIn X hn).here ?_)))))
  refine wpAny_bind (wpAny_askSetting (wpAny_ite ?_))
  have ends : wpAny M A (call (.builtin "object.__ne__") ([.ref x] ++ args) >>= fun v => pure (some v)) Q E s := wpAny_bind (wpAny_mono h (fun _ _ q => wpAny_pure q) fun _ _ q => q)
  split
  · exact wpAny_bind (wpAny_of_eq (F.cmp_object.ne.bind _) (wpAny_pure ends))
  · exact wpAny_tryCatch (wpAny_bind (wpAny_of_eq (F.cmp_object.ne.bind _) (wpAny_pure ends)))
theorem body_ne {Q : Fin → Shared → Prop} (hu : A.units < cLine) (X : K.In s.heap) (I : PySem.W.InstAt s.heap x ox C od) (he : PySem.W.findIn K (.ref C) "__eq__" = some (some (.ref f))) (hf : PySem.W.isFn K (.ref f) = true)
    (h : wpAny (model prog w) A (call (.ref f) [.ref x, b]) (fun v s' => ∃ r, v = .bool r ∧ Q (.done (.ret (.bool (!r)))) s') E s) : wpAny (model prog w) A (Builtin.«object.__ne__» ⟨[.ref x, b], []⟩) Q E s := by
  unfold Builtin.«object.__ne__»
  repeat (first
    | with_reducible refine wpAny_cRoomFor hu ?_
    | (refine wpAny_bind (m := callSpecialIfBound? (.ref x) (Str.ofString "__eq__") [b])
        (PySem.W.ifBound_K X I he hf (wpAny_mono h (fun v s' q => by
          obtain ⟨r, rfl, q⟩ := q
          repeat (first | exact q | exact wpAny_pure q | exact wpAny_truthy_bool q | (refine wpAny_bind (m := truthy (.bool _)) (wpAny_truthy_bool ?_)) | wp_step)) fun _ _ z => z)))
    | wp_step)
theorem rc_ne {Q : Value → Shared → Prop} (hu : A.units + 1 < cLine) (X : K.In s.heap) (I : PySem.W.InstAt s.heap x ox C od) (hb : PySem.W.Looks (model prog w) s.heap (typeOf b) (.ref C))
    (hn : PySem.W.findIn K (.ref C) "__ne__" = some (some (.builtin "object.__ne__"))) (he : PySem.W.findIn K (.ref C) "__eq__" = some (some (.ref f))) (hf : PySem.W.isFn K (.ref f) = true) (hm : PySem.W.mroIn K C (.type "object") = some true)
    (h : wpAny (model prog w) A.in1 (call (.ref f) [.ref x, b]) (fun v s' => ∃ r, v = .bool r ∧ Q (.bool (!r)) s') E s) : wpAny (model prog w) A (richCompare .NotEq (.ref x) b) Q E s := by
  have one : wpAny (model prog w) A (tryCompare (.ref x) "__ne__" b) (fun r s' => ∃ v, r = some v ∧ Q v s') E s := by
    unfold tryCompare
    refine wpAny_bind (bound_ne X I hn (wpAny_call (codeAny_call_builtin F.cmp_object.ne.plain F.cmpEntry_ne (PySem.W.check_slot F.cmpKind_ne F.cmpSplit_ne (I.type.andThen (PySem.W.looks_mroIn X hm)) (F.cmpArgs_ne _ _)
      (body_ne (A := A.in1) (b := b) hu X I he hf (wpAny_mono h (fun v s' q => ?_) fun _ _ z => z))))))
    obtain ⟨r, rfl, q⟩ := q
    first | exact ⟨r, rfl, wpAny_pure ⟨_, rfl, q⟩⟩ | exact ⟨r, rfl, wpAny_pure (wpAny_pure ⟨_, rfl, q⟩)⟩
  unfold richCompare
  simp only [oneThing_ref, cmpInfo_NotEq]
  refine wpAny_holding (wpAny_bind (wpAny_cRoomFor (Nat.lt_of_succ_lt hu) ?_))
  refine wpAny_bind (I.type.here (wpAny_bind (hb.here ?_)))
  rw [if_neg (by simp)]
  refine wpAny_bind (wpAny_pure ?_)
  simp only [Bool.false_eq_true, if_false]
  refine wpAny_bind (wpAny_mono one (fun r s' z => ?_) fun _ _ z => z)
  obtain ⟨v, rfl, q⟩ := z
  exact wpAny_pure q
end
end Kq

namespace Kq
open PySem PySem.SeqAt AutoSeq1 MeetsSeq MeetsSeq2 MeetsSeq3 SeqRoads2
section
variable {prog : Program} {w : World} {A : Around} {R : Result → Shared → Prop}
/-- the items of two lists, one after the other, all equal: != says no -/
theorem items_ne (p q : Addr) (N : Nat) (J : Nat → Shared → Prop) (it : GQ.ListI prog w A (fun e s' => R (.error e) s') p q N J) (fin : ∀ s, J N s → R (.ok (.ret (.bool false))) s) :
    ∀ (k i : Nat), N - i = k → i ≤ N → ∀ s, J i s → wpAny (model prog w) A.in1 (Builtin.«list.__eq__.loop» ⟨[.ref p, .ref q, rawInt i, rawInt 3], []⟩) (GQ.FinOf prog w A R) (fun e s' => R (.error e) s') s
  | 0, i, hk, hi, s, h => by
    obtain ⟨us, vs, n1, n2, g1, g2, z1, z2, _⟩ := it _ _ h
    have ei : i = N := by omega
    have done : R (.ok (.ret (.bool false))) s := fin s (ei ▸ h)
    rcases s with ⟨s1, s2, s3, s4, s5⟩
    wp_walk using wpAny_loadPart' g1, wpAny_loadPart' g2
    have o1 : us[((i : Nat) : Int).toNat]? = none := by simp; omega
    have o2 : vs[((i : Nat) : Int).toNat]? = none := by simp; omega
    rw [o1, o2]
    wp_walk using wpAny_loadPart' g1, wpAny_loadPart' g2
    show R (.ok (.ret (.bool (us.size != vs.size)))) _
    rw [z1, z2]
    simpa using done
  | k + 1, i, hk, hi, s, h => by
    obtain ⟨us, vs, n1, n2, g1, g2, z1, z2, one⟩ := it _ _ h
    have l1 : i < us.size := by omega
    have l2 : i < vs.size := by omega
    have now := one l1 l2
    rcases s with ⟨s1, s2, s3, s4, s5⟩
    wp_walk using wpAny_loadPart' g1, wpAny_loadPart' g2
    have o1 : us[((i : Nat) : Int).toNat]? = some us[i] := by simp [l1]
    have o2 : vs[((i : Nat) : Int).toNat]? = some vs[i] := by simp [l2]
    have nx : ((i : Int) + 1) = ((i + 1 : Nat) : Int) := by omega
    rw [o1, o2]
    refine wpAny_bind (wpAny_mono now (fun r t z => ?_) fun _ _ z => z)
    obtain ⟨rfl, z⟩ := z
    have more := items_ne p q N J it fin k (i + 1) (by omega) (by omega) t z
    rcases t with ⟨t1, t2, t3, t4, t5⟩
    wp_walk
    rw [nx]
    exact ⟨plainId_quiet plain_eq_loop _, codeAny_builtin entry_eq_loop (by rw [Around.under_plainId plain_eq_loop _]; exact more)⟩
theorem lists_ne (p q : Addr) (N : Nat) (J : Nat → Shared → Prop) (it : GQ.ListI prog w A (fun e s' => R (.error e) s') p q N J) (fin : ∀ s, J N s → R (.ok (.ret (.bool false))) s) {s : Shared} (h : J 0 s) :
    wpAny (model prog w) A.in1 (Builtin.«list.__ne__» ⟨[.ref p, .ref q], []⟩) (GQ.FinOf prog w A R) (fun e s' => R (.error e) s') s := by
  obtain ⟨us, vs, n1, n2, g1, g2, z1, z2, _⟩ := it _ _ h
  have more := items_ne (A := A) (R := R) p q N J it fin _ 0 rfl (Nat.zero_le _) s h
  rcases s with ⟨s1, s2, s3, s4, s5⟩
  have sb := AutoSeq1.sub_list_list
  have zz : ¬ (us.size != vs.size) = true := by simp [z1, z2]
  wp_walk using wpAny_loadPart' g1, wpAny_loadPart' g2
  exact ⟨plainId_quiet plain_eq_loop _, codeAny_builtin entry_eq_loop (by rw [Around.under_plainId plain_eq_loop _]; exact more)⟩
theorem tups_ne (p q : Addr) (us vs : Array Value) (n1 n2 : Nat) (d1 d2 : Option Addr) (q1 q2 : Array (Option Value)) (zz : us.size = vs.size) (J : Nat → Shared → Prop)
    (one : ∀ i (l1 : i < us.size) (l2 : i < vs.size) s, J i s → wpAny (model prog w) A.in1 (eqBool us[i] vs[i]) (fun r s' => r = true ∧ J (i + 1) s') (fun e s' => R (.error e) s') s)
    (fin : ∀ s, J us.size s → R (.ok (.ret (.bool false))) s) {s : Shared} (g1 : s.heap.get? p = some { cls := .type "tuple", dict := d1, data := .seq us n1, slots := q1 }) (g2 : s.heap.get? q = some { cls := .type "tuple", dict := d2, data := .seq vs n2, slots := q2 }) (h : J 0 s) :
    wpAny (model prog w) A.in1 (Builtin.«tuple.__ne__» ⟨[.ref p, .ref q], []⟩) (GQ.FinOf prog w A R) (fun e s' => R (.error e) s') s := by
  have sb := AutoSeq1.sub_tuple_tuple
  have zl : (us.toList.zip vs.toList).length = us.size := by simp [zz]
  have hh := h
  rcases s with ⟨s1, s2, s3, s4, s5⟩
  wp_walk using wpAny_loadPart' g1, wpAny_loadPart' g2, wpAny_forIn_list _ (fun rest b t => b.1 = none ∧ ∃ i, rest = (us.toList.zip vs.toList).drop i ∧ i ≤ us.size ∧ J i t) _
  case turn =>
    rintro ⟨y, x⟩ rest b t ⟨nb, i, er, hi, hJ⟩
    have hlt : i < (us.toList.zip vs.toList).length := Decidable.byContradiction fun c => by
      rw [List.drop_of_length_le (by omega)] at er
      cases er
    have l1 : i < us.size := by omega
    have l2 : i < vs.size := by omega
    rw [List.drop_eq_getElem_cons hlt] at er
    injection er with e1 e2
    obtain rfl : y = us[i] := by simpa using congrArg Prod.fst e1
    obtain rfl : x = vs[i] := by simpa using congrArg Prod.snd e1
    refine wpAny_bind (wpAny_mono (one i l1 l2 t hJ) (fun r t2 z => ?_) fun _ _ z => z)
    obtain ⟨rfl, z⟩ := z
    wp_walk
    exact ⟨rfl, i + 1, e2, l1, z⟩
  case fin =>
    rintro ⟨b1, b2⟩ t ⟨nb, i, er, hi, hJ⟩
    simp only at nb
    subst nb
    have ei : i = us.size := Decidable.byContradiction fun c => by
      have hlt : i < (us.toList.zip vs.toList).length := by omega
      rw [List.drop_eq_getElem_cons hlt] at er
      cases er
    have done : R (.ok (.ret (.bool false))) t := fin t (ei ▸ hJ)
    wp_walk
    simpa [Builtin.Tuple.tupleCompareSizes, zz] using done
  case h => exact ⟨rfl, 0, rfl, Nat.zero_le _, hh⟩
end
section
variable {prog : Program} {w : World} {A : Around} {E : Value → Shared → Prop} {s : Shared}
theorem rc_lists_ne {p q : Addr} {N : Nat} {Q : Value → Shared → Prop} (hu : A.units < cLine) (J : Nat → Shared → Prop) (it : GQ.ListI prog w A E p q N J) (fin : ∀ s, J N s → Q (.bool false) s) (h : J 0 s) : wpAny (model prog w) A (richCompare .NotEq (.ref p) (.ref q)) Q E s := by
  obtain ⟨us, vs, n1, n2, g1, g2, _⟩ := it _ _ h
  exact wpAny_richCompare_same_room (op := .NotEq) ⟨_, g1, rfl⟩ ⟨_, g2, rfl⟩ F.slot_list_ne (GQ.call_here F.slot_list_ne ⟨_, g1, rfl⟩ F.entry_list_ne (F.args_list_ne_2 _ _) (lists_ne (R := wants (fun v t => v ≠ .notImplemented ∧ Q v t) E) p q N J it (fun t z => ⟨(fun x => nomatch x), fin t z⟩) h)) hu
theorem rc_tups_ne {p q : Addr} {us vs : Array Value} {Q : Value → Shared → Prop} (zz : us.size = vs.size) (hu : A.units < cLine) (J : Nat → Shared → Prop) (hp : s.heap.IsTuple p us) (hq : s.heap.IsTuple q vs)
    (one : ∀ i (l1 : i < us.size) (l2 : i < vs.size) s, J i s → wpAny (model prog w) A.in1 (eqBool us[i] vs[i]) (fun r s' => r = true ∧ J (i + 1) s') E s) (fin : ∀ s, J us.size s → Q (.bool false) s) (h : J 0 s) : wpAny (model prog w) A (richCompare .NotEq (.ref p) (.ref q)) Q E s := by
  obtain ⟨⟨c1, d1, x1, q1⟩, g1, k1, n1, y1⟩ := id hp
  obtain ⟨⟨c2, d2, x2, q2⟩, g2, k2, n2, y2⟩ := id hq
  simp only at k1 y1 k2 y2
  subst k1 y1 k2 y2
  exact wpAny_richCompare_same_room (op := .NotEq) ⟨_, g1, rfl⟩ ⟨_, g2, rfl⟩ F.slot_tuple_ne (GQ.call_here F.slot_tuple_ne ⟨_, g1, rfl⟩ F.entry_tuple_ne (F.args_tuple_ne_2 _ _) (tups_ne (R := wants (fun v t => v ≠ .notImplemented ∧ Q v t) E) p q us vs n1 n2 d1 d2 q1 q2 zz J one (fun t z => ⟨(fun x => nomatch x), fin t z⟩) g1 g2 h)) hu
end
end Kq
namespace L2
open PySem PySem.Spec PyProof.Rows
section
variable {X : Cx} {n : Nat} {D : Eqv}
/-- x != y of lists, of tuples, whose items are equal -/
def rNeG (D : Eqv) : R2 := fun x y H Q => D x y H ∧ ∀ H', Ext H H' → Q (.bl false) H'
theorem op_neL (hD : Mon D) (h : EqG X n D) (hr : Room (n + 1) X.A) : OpR X (compareOp .NotEq) (rNeG (DList D)) := by
  intro pins s σ H x y v u Q I rx ry hq
  obtain ⟨⟨a, b, xs, ys, rfl, rfl, ha, hb, p⟩, q⟩ := hq
  cases rx
  cases ry
  have sb : Sub X (n + 1) X.A := ⟨hr, rfl⟩
  show wpAny (model X.prog X.w) X.A (richCompare .NotEq (.ref a) (.ref b)) (EP X pins σ Q) X.xe s
  refine Kq.rc_lists_ne (N := xs.length) hr.units0 (fun _ t => LoopI X pins σ H t) (fun i t z => ?_) (fun t z => ?_) ⟨H, I, Ext.rfl'⟩
  · obtain ⟨H1, I1, e1⟩ := id z
    obtain ⟨y1, us, k1, r1, g1⟩ := I1.hok a _ (e1 _ _ ha)
    obtain ⟨y2, vs, k2, r2, g2⟩ := I1.hok b _ (e1 _ _ hb)
    exact ⟨us.toArray, vs.toArray, k1, k2, g1, g2, by rw [List.size_toArray, ← r1.length], by rw [List.size_toArray, ← r2.length, ← p.1], fun l1 l2 => turnG hD h sb p r1 r2 i l1 l2 t z⟩
  · obtain ⟨H1, I1, e1⟩ := z
    exact ⟨.bl false, H1, I1, rfl, q H1 e1⟩
theorem op_neT (hD : Mon D) (h : EqG X n D) (hr : Room (n + 1) X.A) : OpR X (compareOp .NotEq) (rNeG (DTup X.K D)) := by
  intro pins s σ H x y v u Q I rx ry hq
  obtain ⟨⟨a, b, xs, ys, rfl, rfl, ha, hb, p⟩, q⟩ := hq
  cases rx
  cases ry
  have sb : Sub X (n + 1) X.A := ⟨hr, rfl⟩
  obtain ⟨us, r1, g1, y1⟩ := I.tuple ha
  obtain ⟨vs, r2, g2, y2⟩ := I.tuple hb
  have zz : us.toArray.size = vs.toArray.size := by rw [List.size_toArray, List.size_toArray, ← r1.length, ← r2.length]; exact p.1
  show wpAny (model X.prog X.w) X.A (richCompare .NotEq (.ref a) (.ref b)) (EP X pins σ Q) X.xe s
  refine Kq.rc_tups_ne zz hr.units0 (fun _ t => LoopI X pins σ H t) g1 g2 (fun i l1 l2 t z => turnG hD h sb p r1 r2 i l1 l2 t z) (fun t z => ?_) ⟨H, I, Ext.rfl'⟩
  obtain ⟨H1, I1, e1⟩ := z
  exact ⟨.bl false, H1, I1, rfl, q H1 e1⟩
/-- x == y, x != y of instances by the own __eq__ -/
def rOwn (C : Addr) (neg : Bool) (sp : Sp) : R2 := fun x y H Q => ∃ (a c dx dy : Addr) (fs gs : List (Str × V)), x = .ref a ∧ y = .ref c ∧ H a = some (.ins C dx fs) ∧ H c = some (.ins C dy gs) ∧ sp [.ref a, .ref c] H (fun v H' => ∃ r : Bool, v = .bl r ∧ Q (.bl (r != neg)) H') E0
theorem own_call {A : Around} {f : Addr} {fd : FuncData} {ps : List Str} {sp : Sp} {pins : List (Addr × Obj)} {σ : St} {H : Hp} {s : Shared} {a b : Addr} {Q : VK} (F : FnOk X.prog X.w X.K X.mg X.base CX0 n f fd ps sp) (hb : Binds X.K fd ps []) (sb : Sub X n A) (I : Inv X pins σ H s)
    (hsp : sp [.ref a, .ref b] H Q E0) : wpAny (model X.prog X.w) A (call (.ref f) [.ref a, .ref b]) (EP X pins σ Q) X.xe s := by
  have e0 : Env0 X.prog X.w X.K X.mg X.base A X.stack s H := by
    have e := I.env0
    exact ⟨by rw [sb.fr]; exact e.frames, e.mod, e.bs, e.bsz, e.funs, e.frf, e.hok, e.bare⟩
  have hl := F.len _ _ _ _ hsp
  have r2 : Vals [V.ref a, V.ref b] [Value.ref a, Value.ref b] := .cons rfl (.cons rfl .nil)
  refine wpAny_call (codeAny_mono (F.run A X.stack s H ⟨[.ref a, .ref b], []⟩ [.ref a, .ref b] [.ref a, .ref b] _ E0 sb.room e0 (by
    have z := hb s [.ref a, .ref b] I.kIn (by simpa using hl)
    simpa using z) r2 hsp) fun r t hq => ?_)
  cases r with
  | error e => exact pass0 pins σ H s e t I hq
  | ok fl =>
    cases fl with
    | ret z => exact I.after hq
    | next => exact False.elim hq
    | brk => exact False.elim hq
    | cont => exact False.elim hq
theorem op_ownEq {C f : Addr} {fd : FuncData} {ps : List Str} {sp : Sp} (F : FnOk X.prog X.w X.K X.mg X.base CX0 n f fd ps sp) (he : PySem.W.findIn X.K (.ref C) "__eq__" = some (some (.ref f))) (hf : PySem.W.isFn X.K (.ref f) = true) (hb : Binds X.K fd ps []) (hr : Room n X.A) :
    OpR X (compareOp .Eq) (rOwn C false sp) := by
  intro pins s σ H x y v u Q I rx ry hq
  obtain ⟨a, c, dx, dy, fs, gs, rfl, rfl, ha, hc, hsp⟩ := hq
  cases rx
  cases ry
  obtain ⟨m1, J1, _⟩ := ins_get I.hok ha
  obtain ⟨m2, J2, _⟩ := ins_get I.hok hc
  obtain ⟨o1, J1, _⟩ := J1.look
  obtain ⟨o2, J2, _⟩ := J2.look
  obtain ⟨m, hF⟩ := I.fr
  refine PySem.W.cmp_K (op := .Eq) (tb := .ref C) hr.units0 hF I.ok.mod.kin J1 J2.type (by simp [PySem.W.notFirst]) he hf ?_
  refine wpAny_mono (own_call F hb ⟨hr, rfl⟩ I hsp) (fun z t q => ?_) fun _ _ z => z
  obtain ⟨v, H', I', rz, r, rfl, q⟩ := q
  cases rz
  refine ⟨.bl (r != false), H', I', ?_, q⟩
  cases r <;> rfl
theorem op_ownNe {C f : Addr} {fd : FuncData} {ps : List Str} {sp : Sp} (F : FnOk X.prog X.w X.K X.mg X.base CX0 n f fd ps sp) (he : PySem.W.findIn X.K (.ref C) "__eq__" = some (some (.ref f))) (hf : PySem.W.isFn X.K (.ref f) = true) (hb : Binds X.K fd ps [])
    (hn : PySem.W.findIn X.K (.ref C) "__ne__" = some (some (.builtin "object.__ne__"))) (hm : PySem.W.mroIn X.K C (.type "object") = some true) (hr : Room (n + 1) X.A) : OpR X (compareOp .NotEq) (rOwn C true sp) := by
  intro pins s σ H x y v u Q I rx ry hq
  obtain ⟨a, c, dx, dy, fs, gs, rfl, rfl, ha, hc, hsp⟩ := hq
  cases rx
  cases ry
  obtain ⟨m1, J1, _⟩ := ins_get I.hok ha
  obtain ⟨m2, J2, _⟩ := ins_get I.hok hc
  obtain ⟨o1, J1, _⟩ := J1.look
  obtain ⟨o2, J2, _⟩ := J2.look
  have sb : Sub X (n + 1) X.A := ⟨hr, rfl⟩
  show wpAny (model X.prog X.w) X.A (richCompare .NotEq (.ref a) (.ref c)) (EP X pins σ Q) X.xe s
  refine Kq.rc_ne sb.in1.room.units0 I.kIn J1 J2.type hn he hf hm ?_
  refine wpAny_mono (own_call F hb sb.in1 I hsp) (fun z t q => ?_) fun _ _ z => z
  obtain ⟨v, H', I', rz, r, rfl, q⟩ := q
  cases rz
  exact ⟨r, rfl, .bl (!r), H', I', rfl, by cases r <;> exact q⟩
end
end L2
namespace Kr
open PySem L2
structure NeC (K : PySem.W.Frag) (C : Addr) : Prop where
  ne : PySem.W.findIn K (.ref C) "__ne__" = some (some (.builtin "object.__ne__"))
  mro : PySem.W.mroIn K C (.type "object") = some true
section
variable {X : Cx} {C : Addr} {k : Nat} {qual : Str} {st : Stmt} {ps : List Str} {sp : Sp}
theorem op_eqO (O : OkM X.prog X.w X.K X.mg X.base C k "__eq__" qual st ps sp) (hr : Room k X.A) : OpR X (compareOp .Eq) (rOwn C false sp) := by
  obtain ⟨f, fd, M, _, hb, F⟩ := O.ex
  exact op_ownEq F M.1 M.2 hb hr
theorem op_neO (O : OkM X.prog X.w X.K X.mg X.base C k "__eq__" qual st ps sp) (N : NeC X.K C) (hr : Room (k + 1) X.A) : OpR X (compareOp .NotEq) (rOwn C true sp) := by
  obtain ⟨f, fd, M, _, hb, F⟩ := O.ex
  exact op_ownNe F M.1 M.2 hb N.ne N.mro hr
/-- equal: flat values, or instances of one class with the same fields, of which P tells -/
def RSame (C : Addr) (P : List (Str × V) → Prop) (a b : Addr) (H : Hp) : Prop := ∃ (dx dy : Addr) (fs : List (Str × V)), P fs ∧ H a = some (.ins C dx fs) ∧ H b = some (.ins C dy fs)
def DOwn (C : Addr) (P : List (Str × V) → Prop) : Eqv := fun x y H => DFlat x y H ∨ DIns C (RSame C P) x y H
theorem mon_own {P : List (Str × V) → Prop} : Mon (DOwn C P) := mon_flat.or (mon_ins fun a b H H' e ⟨dx, dy, fs, p, h1, h2⟩ => ⟨dx, dy, fs, p, e _ _ h1, e _ _ h2⟩)
theorem eqG_own {P : List (Str × V) → Prop} (O : OkM X.prog X.w X.K X.mg X.base C k "__eq__" qual st ps sp) (hsp : ∀ (a b dx dy : Addr) (fs : List (Str × V)) (H : Hp) (Q : VK) (E : XK), P fs → H a = some (.ins C dx fs) → H b = some (.ins C dy fs) → (∀ H', Ext H H' → Q (.bl true) H') → sp [.ref a, .ref b] H Q E) : EqG X k (DOwn C P) := by
  obtain ⟨f, fd, M, _, hb, F⟩ := O.ex
  exact (eqG_flat.mono (Nat.zero_le _)).or (eqG_ins (R := RSame C P) (F.imp fun vs H Q E q => by
    obtain ⟨a, b, rfl, ⟨dx, dy, fs, p, h1, h2⟩, q⟩ := q
    exact hsp a b dx dy fs H Q E p h1 h2 q) M.1 M.2 hb pass0)
end
/-! over a ledger -/
section
variable {g : Gr} {L : Led} {C : V → Led → Prop} {K : PySem.W.Frag} {Cl : Addr} {P : List (Str × V) → Prop}
theorem At.ext {H H' : Hp} (h : At g L H) (e : Ext H H') : At g L H' := h.same e
inductive EqL (Cl : Addr) (P : List (Str × V) → Prop) (L : Led) : V → V → Prop
  | flat {x y : V} (h1 : flatV x = true) (h2 : flatV y = true) (h : eqV x y = true) : EqL Cl P L x y
  | ins {a b dx dy : Addr} {fs : List (Str × V)} {b1 b2 : Bool} (i j : Nat) (p : P fs) (h1 : L[i]? = some (a, .ob (.ins Cl dx fs), b1)) (h2 : L[j]? = some (b, .ob (.ins Cl dy fs), b2)) : EqL Cl P L (.ref a) (.ref b)
theorem EqL.own {H : Hp} {x y : V} (z : At g L H) (h : EqL Cl P L x y) : DOwn Cl P x y H := by
  cases h with
  | flat h1 h2 h => exact .inl ⟨h1, h2, h⟩
  | ins i j p h1 h2 => exact .inr ⟨_, _, _, _, _, _, rfl, rfl, z.get h1, z.get h2, _, _, _, p, z.get h1, z.get h2⟩
inductive EqLs (Cl : Addr) (P : List (Str × V) → Prop) (L : Led) : List V → List V → Prop
  | nil : EqLs Cl P L [] []
  | cons {x y : V} {xs ys : List V} (h : EqL Cl P L x y) (k : EqLs Cl P L xs ys) : EqLs Cl P L (x :: xs) (y :: ys)
theorem EqLs.prs {H : Hp} {xs ys : List V} (z : At g L H) (h : EqLs Cl P L xs ys) : Prs (DOwn Cl P) xs ys H := by
  induction h with
  | nil => exact Prs.nil
  | cons h k ih => exact Prs.cons (h.own z) ih
theorem wr_neTO {a b : Addr} {xs ys : List V} {b1 b2 : Bool} (i j : Nat) (h1 : L[i]? = some (a, .ob (.tup xs), b1)) (h2 : L[j]? = some (b, .ob (.tup ys), b2)) (e : EqLs Cl P L xs ys) (c : C (.bl false) L) : Wp g L (rNeG (DTup K (DOwn Cl P)) (.ref a) (.ref b)) C :=
  fun H z Q q => ⟨⟨a, b, xs, ys, rfl, rfl, .inl (.inl (z.get h1)), .inl (.inl (z.get h2)), e.prs z⟩, fun H' x => q _ _ _ c (z.ext x)⟩
end
end Kr
namespace Kr
open PySem L2
section
variable {g : Gr} {L : Led} {C : V → Led → Prop} {K : PySem.W.Frag} {Cl : Addr}
theorem wr_ownO {neg : Bool} {sp : Sp} {a c dx dy : Addr} {fs gs : List (Str × V)} {b1 b2 : Bool} (i j : Nat) (h1 : L[i]? = some (a, .ob (.ins Cl dx fs), b1)) (h2 : L[j]? = some (c, .ob (.ins Cl dy gs), b2))
    (h : Wp g L (fun H Q => sp [.ref a, .ref c] H Q E0) fun v L' => ∃ r : Bool, v = .bl r ∧ C (.bl (r != neg)) L') : Wp g L (rOwn Cl neg sp (.ref a) (.ref c)) C :=
  fun H z Q q => ⟨a, c, dx, dy, fs, gs, rfl, rfl, z.get h1, z.get h2, h H z _ fun v L' H' ⟨r, e, k⟩ z' => ⟨r, e, q _ _ _ k z'⟩⟩
theorem eqV_self (n : Int) : eqV (.int n) (.int n) = true := by simp [eqV]
end
end Kr

set_option Elab.async false
set_option linter.all false
set_option maxRecDepth 100000
/-! powers, plain -/
namespace Ma
theorem pow_pos {b : Int} (h : 2 ≤ b) (k : Nat) : 1 ≤ b ^ k := by
  induction k with
  | zero => simp
  | succ k ih =>
    rw [Int.pow_succ]
    have : b ^ k * 1 ≤ b ^ k * b := Int.mul_le_mul_of_nonneg_left (by omega) (by omega)
    omega
theorem pow_step {b : Int} (h : 2 ≤ b) (k : Nat) : 2 * b ^ k ≤ b ^ (k + 1) := by
  rw [Int.pow_succ, Int.mul_comm]
  exact Int.mul_le_mul_of_nonneg_left h (by have := pow_pos h k; omega)
theorem pow_mono {b : Int} (h : 2 ≤ b) {i j : Nat} (hij : i ≤ j) : b ^ i ≤ b ^ j := by
  induction j with
  | zero => have : i = 0 := by omega
            subst this; exact Int.le_refl _
  | succ j ih =>
    by_cases e : i = j + 1
    · subst e; exact Int.le_refl _
    · have := ih (by omega)
      have := pow_step h j
      have := pow_pos h j
      omega
theorem pow_lt {b : Int} (h : 2 ≤ b) {i j : Nat} (hij : i < j) : b ^ i < b ^ j := by
  have h1 := pow_mono h (show i + 1 ≤ j by omega)
  have h2 := pow_step h i
  have h3 := pow_pos h i
  omega
theorem pow_inj {b : Int} (h : 2 ≤ b) {i j : Nat} (e : b ^ i = b ^ j) : i = j := by
  rcases Nat.lt_trichotomy i j with q | q | q
  · have := pow_lt h q; omega
  · exact q
  · have := pow_lt h q; omega
theorem pow_lt_iff {b : Int} (h : 2 ≤ b) {i j : Nat} (e : b ^ i < b ^ j) : i < j := by
  rcases Nat.lt_or_ge i j with q | q
  · exact q
  · have := pow_mono h q; omega
theorem two_le_pow {b : Int} (h : 2 ≤ b) (k : Nat) : 2 ^ k ≤ b ^ k := by
  induction k with
  | zero => simp
  | succ k ih =>
    have := pow_step h k
    rw [Int.pow_succ]
    omega
theorem pow_small {b : Int} (h : 2 ≤ b) {k : Nat} (hk : b ^ k ≤ 10 ^ 61) : k < 210 := by
  rcases Nat.lt_or_ge k 210 with q | q
  · exact q
  · have h1 := two_le_pow h k
    have h2 := pow_mono (b := 2) (by decide) q
    have h3 : (10 : Int) ^ 61 < 2 ^ 210 := by decide
    omega
theorem pow_le_big {b : Int} {k : Nat} (h1 : 2 ≤ b) (h2 : b ≤ 1000) (hk : k ≤ 30) : b ^ k ≤ 10 ^ 90 := by
  have key : ∀ k : Nat, b ^ k ≤ 1000 ^ k := fun k => by
    induction k with
    | zero => simp
    | succ k ih =>
      rw [Int.pow_succ, Int.pow_succ]
      have := pow_pos h1 k
      have h3 : b ^ k * b ≤ b ^ k * 1000 := Int.mul_le_mul_of_nonneg_left h2 (by omega)
      have h4 : b ^ k * 1000 ≤ 1000 ^ k * 1000 := Int.mul_le_mul_of_nonneg_right ih (by decide)
      omega
  have h3 := key k
  have h4 := pow_mono (b := 1000) (by decide) hk
  have h5 : (1000 : Int) ^ 30 = 10 ^ 90 := by decide
  omega
theorem pow_le_30 {b : Int} {k : Nat} (h1 : 2 ≤ b) (h2 : b ≤ 1000) (hk : k ≤ 9) : b ^ k ≤ 10 ^ 27 := by
  have key : ∀ k : Nat, b ^ k ≤ 1000 ^ k := fun k => by
    induction k with
    | zero => simp
    | succ k ih =>
      rw [Int.pow_succ, Int.pow_succ]
      have := pow_pos h1 k
      have h3 : b ^ k * b ≤ b ^ k * 1000 := Int.mul_le_mul_of_nonneg_left h2 (by omega)
      have h4 : b ^ k * 1000 ≤ 1000 ^ k * 1000 := Int.mul_le_mul_of_nonneg_right ih (by decide)
      omega
  have h3 := key k
  have h4 := pow_mono (b := 1000) (by decide) hk
  have h5 : (1000 : Int) ^ 9 = 10 ^ 27 := by decide
  omega
theorem top_big {b m : Int} {k : Nat} (h : 2 ≤ b) (hm : m ≤ 10 ^ 60) (hk : (k = 0 ∨ b ^ k ≤ m) ∧ m < b ^ (k + 1) ∧ k < 210) : -(10 ^ 200) ≤ b ^ k ∧ b ^ k ≤ 10 ^ 200 := by
  have h1 := pow_pos h k
  rcases hk.1 with q | q
  · subst q
    simp
  · omega
def IsPow (b u : Int) : Prop := ∃ j : Nat, u = b ^ j
theorem IsPow.one (b : Int) : IsPow b 1 := ⟨0, by simp⟩
theorem IsPow.mul {b u : Int} (h : IsPow b u) : IsPow b (u * b) := by
  obtain ⟨j, e⟩ := h
  exact ⟨j + 1, by rw [e, Int.pow_succ]⟩
theorem IsPow.pos {b u : Int} (hb : 2 ≤ b) (h : IsPow b u) : 1 ≤ u := by
  obtain ⟨j, e⟩ := h
  rw [e]
  exact pow_pos hb j
theorem IsPow.next {b u v : Int} (hb : 2 ≤ b) (hu : IsPow b u) (hv : IsPow b v) (h : u < v) : u * b ≤ v := by
  obtain ⟨i, rfl⟩ := hu
  obtain ⟨j, rfl⟩ := hv
  rw [← Int.pow_succ]
  exact pow_mono hb (pow_lt_iff hb h)
/-- the greatest power up to m -/
def IsTop (b m u : Int) : Prop := IsPow b u ∧ u ≤ m ∧ m < u * b
theorem IsTop.uniq {b m u v : Int} (hb : 2 ≤ b) (hu : IsTop b m u) (hv : IsTop b m v) : u = v := by
  obtain ⟨p1, l1, g1⟩ := hu
  obtain ⟨p2, l2, g2⟩ := hv
  rcases Int.lt_trichotomy u v with q | q | q
  · have := p1.next hb p2 q; omega
  · exact q
  · have := p2.next hb p1 q; omega
/-- the least factor -/
def IsFac (b age loss F : Int) : Prop := (age ≤ 1 ∧ F = 1) ∨ (1 < age ∧ ∃ u, IsTop b (loss + 1) u ∧ 2 ≤ F ∧ (F - 2) * u < age - 1 ∧ age - 1 ≤ (F - 1) * u)
/-- the least power that is enough for an age -/
def IsSafe (b f age v : Int) : Prop := IsPow b v ∧ age ≤ (f - 1) * v + 1 ∧ ∀ u, IsPow b u → age ≤ (f - 1) * u + 1 → v ≤ u
theorem ceil_ok {a u : Int} (hu : 1 ≤ u) (ha : 1 ≤ a) : 2 ≤ (a + u - 1) / u + 1 ∧ ((a + u - 1) / u + 1 - 2) * u < a ∧ a ≤ ((a + u - 1) / u + 1 - 1) * u := by
  have h0 := Int.mul_ediv_add_emod (a + u - 1) u
  have h1 := Int.emod_nonneg (a + u - 1) (show u ≠ 0 by omega)
  have h2 := Int.emod_lt_of_pos (a + u - 1) (show 0 < u by omega)
  generalize (a + u - 1) / u = q at *
  generalize (a + u - 1) % u = r at *
  have e1 : (q + 1 - 2) * u = u * q - u := by rw [show q + 1 - 2 = q - 1 by omega, Int.sub_mul, Int.mul_comm]; omega
  have e2 : (q + 1 - 1) * u = u * q := by rw [show q + 1 - 1 = q by omega, Int.mul_comm]
  rw [e1, e2]
  refine ⟨?_, by omega, by omega⟩
  rcases Int.lt_or_le q 1 with z | z
  · have : u * q ≤ u * 0 := Int.mul_le_mul_of_nonneg_left (by omega) (by omega)
    omega
  · omega
theorem fac_pos {b age loss F : Int} (h : IsFac b age loss F) : 1 ≤ F ∧ (F = 1 → age ≤ 1) := by
  rcases h with ⟨h1, e⟩ | ⟨h1, u, _, h2, _⟩
  · omega
  · omega
/-- the law k70, in numbers -/
theorem fac_none {b age loss F v : Int} (hb : 2 ≤ b) (hF : IsFac b age loss F) (h : 1000000 < F) (hv : IsSafe b 1000000 age v) : loss < v - 1 := by
  rcases hF with ⟨_, e⟩ | ⟨h1, u, ⟨p, l, gt⟩, _, h3, h4⟩
  · omega
  · obtain ⟨pv, a1, _⟩ := hv
    have hu := p.pos hb
    have k1 : (1000000 + 1 - 2) * u ≤ (F - 2) * u := Int.mul_le_mul_of_nonneg_right (by omega) (by omega)
    rcases Int.lt_or_le u v with q | q
    · have := p.next hb pv q; omega
    · have : (1000000 - 1) * v ≤ (1000000 - 1) * u := Int.mul_le_mul_of_nonneg_left q (by decide)
      omega
theorem fac_some {b age loss F v : Int} (hb : 2 ≤ b) (hF : IsFac b age loss F) (hl : 0 ≤ loss) (hv : IsSafe b F age v) : v - 1 ≤ loss := by
  rcases hF with ⟨h1, e⟩ | ⟨h1, u, ⟨p, l, gt⟩, _, h3, h4⟩
  · subst e
    have := hv.2.2 1 (IsPow.one b) (by omega)
    omega
  · have := hv.2.2 u p (by omega)
    omega
theorem fac_less {b age loss F v : Int} (hb : 2 ≤ b) (hF : IsFac b age loss F) (h : 1 < F) (hv : IsSafe b (F - 1) age v) : loss < v - 1 := by
  rcases hF with ⟨_, e⟩ | ⟨h1, u, ⟨p, l, gt⟩, _, h3, h4⟩
  · omega
  · obtain ⟨pv, a1, _⟩ := hv
    have hu := p.pos hb
    rcases Int.lt_or_le u v with q | q
    · have := p.next hb pv q; omega
    · have k1 : (F - 1 - 1) * v ≤ (F - 1 - 1) * u := Int.mul_le_mul_of_nonneg_left q (by omega)
      have e : F - 1 - 1 = F - 2 := by omega
      rw [e] at k1 a1
      omega
theorem fac_age {b age loss F u : Int} (hb : 2 ≤ b) (hF : IsFac b age loss F) (hu : IsTop b (loss + 1) u) : age ≤ (F - 1) * u + 1 ∧ (1 < F → (F - 1 - 1) * u + 1 < age) := by
  rcases hF with ⟨h1, e⟩ | ⟨h1, u', hu', _, h3, h4⟩
  · subst e
    omega
  · have := hu.uniq hb hu'
    subst this
    have e : F - 1 - 1 = F - 2 := by omega
    rw [e]
    omega
theorem fac_uniq {b age loss F G : Int} (hb : 2 ≤ b) (hF : IsFac b age loss F) (hG : IsFac b age loss G) : F = G := by
  rcases hF with ⟨h1, e⟩ | ⟨h1, u, hu, f2, h3, h4⟩
  · rcases hG with ⟨_, e'⟩ | ⟨h1', _⟩
    · omega
    · omega
  · rcases hG with ⟨_, e'⟩ | ⟨h1', v, hv, g2, h3', h4'⟩
    · omega
    · have e := hu.uniq hb hv
      subst e
      have up := hu.1.pos hb
      rcases Int.lt_trichotomy F G with q | q | q
      · have : (F - 1) * u ≤ (G - 2) * u := Int.mul_le_mul_of_nonneg_right (by omega) (by omega)
        omega
      · exact q
      · have : (G - 1) * u ≤ (F - 2) * u := Int.mul_le_mul_of_nonneg_right (by omega) (by omega)
        omega
end Ma

set_option Elab.async false
set_option linter.all false
set_option maxRecDepth 100000
/-! units, parents, chains, plain -/
namespace Ma
/-- the greatest power of b that divides n, by fuel -/
def unitN (b : Int) : Nat → Int → Int
  | 0, _ => 1
  | k + 1, n => if n % b = 0 then b * unitN b k (n / b) else 1
def unitF (b n : Int) : Int := unitN b n.toNat n
theorem unitN_pow (b : Int) : ∀ (k : Nat) (n : Int), IsPow b (unitN b k n)
  | 0, _ => IsPow.one b
  | k + 1, n => by
    unfold unitN
    split
    · rw [Int.mul_comm]
      exact (unitN_pow b k _).mul
    · exact IsPow.one b
theorem unitN_dvd (b : Int) : ∀ (k : Nat) (n : Int), unitN b k n ∣ n
  | 0, n => Int.one_dvd n
  | k + 1, n => by
    unfold unitN
    split
    · rename_i h
      have e : n = b * (n / b) := by
        have := Int.mul_ediv_add_emod n b
        omega
      have := unitN_dvd b k (n / b)
      have q := Int.mul_dvd_mul (Int.dvd_refl b) this
      rw [← e] at q
      exact q
    · exact Int.one_dvd n
theorem div_lt {b n : Int} (hb : 2 ≤ b) (hn : 1 ≤ n) (h : n % b = 0) : 1 ≤ n / b ∧ n / b < n := by
  have e : n = b * (n / b) := by
    have := Int.mul_ediv_add_emod n b
    omega
  have h1 : 1 ≤ n / b := by
    rcases Int.lt_or_le (n / b) 1 with q | q
    · have : b * (n / b) ≤ b * 0 := Int.mul_le_mul_of_nonneg_left (by omega) (by omega)
      omega
    · exact q
  have : 2 * (n / b) ≤ b * (n / b) := Int.mul_le_mul_of_nonneg_right hb (by omega)
  omega
theorem unitN_not {b : Int} (hb : 2 ≤ b) : ∀ (k : Nat) (n : Int), 1 ≤ n → n.toNat ≤ k → ¬ (unitN b k n * b ∣ n)
  | 0, n, h1, h2 => by omega
  | k + 1, n, h1, h2 => by
    unfold unitN
    split
    · rename_i h
      have d := div_lt hb h1 h
      have ih := unitN_not hb k (n / b) d.1 (by omega)
      intro q
      apply ih
      have e : n = b * (n / b) := by
        have := Int.mul_ediv_add_emod n b
        omega
      rw [e, Int.mul_assoc] at q
      have e2 : b * (n / b) / b = n / b := Int.mul_ediv_cancel_left _ (by omega)
      rw [e2] at q
      exact Int.dvd_of_mul_dvd_mul_left (by omega) q
    · rename_i h
      rw [Int.one_mul]
      intro q
      exact h (Int.emod_eq_zero_of_dvd q)
/-- what a unit is -/
def IsUnit (b n u : Int) : Prop := IsPow b u ∧ u ∣ n ∧ ¬ (u * b ∣ n)
theorem unitF_is {b n : Int} (hb : 2 ≤ b) (hn : 1 ≤ n) : IsUnit b n (unitF b n) := ⟨unitN_pow b _ _, unitN_dvd b _ _, unitN_not hb _ _ hn (Nat.le_refl _)⟩
theorem pow_dvd {b u v : Int} (hb : 2 ≤ b) (hu : IsPow b u) (hv : IsPow b v) (h : u ≤ v) : u ∣ v := by
  obtain ⟨i, rfl⟩ := hu
  obtain ⟨j, rfl⟩ := hv
  have hij : i ≤ j := by
    rcases Nat.lt_or_ge j i with q | q
    · have := pow_lt hb q
      omega
    · exact q
  obtain ⟨d, rfl⟩ := Nat.le.dest hij
  exact ⟨b ^ d, by rw [Int.pow_add]⟩
theorem IsUnit.uniq {b n u v : Int} (hb : 2 ≤ b) (hu : IsUnit b n u) (hv : IsUnit b n v) : u = v := by
  rcases Int.lt_trichotomy u v with q | q | q
  · exact absurd (Int.dvd_trans (pow_dvd hb hu.1.mul hv.1 (hu.1.next hb hv.1 q)) hv.2.1) hu.2.2
  · exact q
  · exact absurd (Int.dvd_trans (pow_dvd hb hv.1.mul hu.1 (hv.1.next hb hu.1 q)) hu.2.1) hv.2.2
theorem IsUnit.eq {b n u : Int} (hb : 2 ≤ b) (hn : 1 ≤ n) (hu : IsUnit b n u) : u = unitF b n := hu.uniq hb (unitF_is hb hn)
theorem unitF_pos {b n : Int} (hb : 2 ≤ b) : 1 ≤ unitF b n := (unitN_pow b _ _).pos hb
theorem unitF_pow {b n : Int} : IsPow b (unitF b n) := unitN_pow b _ _
theorem unitF_dvd {b n : Int} : unitF b n ∣ n := unitN_dvd b _ _
theorem unitF_le {b n : Int} (hn : 1 ≤ n) : unitF b n ≤ n := Int.le_of_dvd (by omega) unitF_dvd
/-- a power divides n exactly if it is at most the unit -/
theorem dvd_iff {b n u : Int} (hb : 2 ≤ b) (hn : 1 ≤ n) (hu : IsPow b u) : u ∣ n ↔ u ≤ unitF b n := by
  constructor
  · intro h
    rcases Int.lt_or_le (unitF b n) u with q | q
    · have := unitF_is hb hn
      exact absurd (Int.dvd_trans (pow_dvd hb this.1.mul hu (this.1.next hb hu q)) h) this.2.2
    · exact q
  · intro h
    exact Int.dvd_trans (pow_dvd hb hu unitF_pow h) unitF_dvd
/-- the parent -/
def parF (b n : Int) : Int := n / (unitF b n * b) * (unitF b n * b)
theorem ub_pos {b n : Int} (hb : 2 ≤ b) : 2 ≤ unitF b n * b := by
  have h1 : 1 * b ≤ unitF b n * b := Int.mul_le_mul_of_nonneg_right (unitF_pos hb) (by omega)
  omega
theorem parF_le {b n : Int} (hb : 2 ≤ b) : parF b n ≤ n ∧ n < parF b n + unitF b n * b := by
  have h := ub_pos (b := b) (n := n) hb
  have h0 := Int.mul_ediv_add_emod n (unitF b n * b)
  have h1 := Int.emod_nonneg n (show unitF b n * b ≠ 0 by omega)
  have h2 := Int.emod_lt_of_pos n (show 0 < unitF b n * b by omega)
  unfold parF
  rw [Int.mul_comm] at h0
  omega
theorem parF_dvd {b n : Int} : unitF b n * b ∣ parF b n := ⟨n / (unitF b n * b), by unfold parF; rw [Int.mul_comm]⟩
theorem parF_lt {b n : Int} (hb : 2 ≤ b) (hn : 1 ≤ n) : parF b n < n := by
  have h := (parF_le (n := n) hb).1
  have : parF b n ≠ n := fun e => (unitF_is hb hn).2.2 (by have := parF_dvd (b := b) (n := n); rw [e] at this; exact this)
  omega
theorem parF_nonneg {b n : Int} (hb : 2 ≤ b) (hn : 0 ≤ n) : 0 ≤ parF b n := by
  unfold parF
  have := ub_pos (b := b) (n := n) hb
  exact Int.mul_nonneg (Int.ediv_nonneg hn (by omega)) (by omega)
/-- n lies at least a unit above its parent -/
theorem parF_gap {b n : Int} (hb : 2 ≤ b) (hn : 1 ≤ n) : parF b n + unitF b n ≤ n := by
  have h1 : unitF b n ∣ n - parF b n := Int.dvd_sub unitF_dvd (Int.dvd_trans ⟨b, rfl⟩ parF_dvd)
  have h2 := parF_lt hb hn
  have := Int.le_of_dvd (by omega) h1
  omega
/-- the chain, by fuel -/
def chainN (b : Int) : Nat → Int → List Int
  | 0, n => [n]
  | k + 1, n => if n ≤ 0 then [n] else n :: chainN b k (parF b n)
def chainF (b n : Int) : List Int := chainN b n.toNat n
theorem chainN_fuel {b : Int} (hb : 2 ≤ b) : ∀ (k j : Nat) (n : Int), n.toNat ≤ k → n.toNat ≤ j → chainN b k n = chainN b j n
  | 0, 0, n, _, _ => rfl
  | 0, j + 1, n, h, _ => by
    unfold chainN
    rw [if_pos (by omega)]
  | k + 1, 0, n, _, h => by
    unfold chainN
    rw [if_pos (by omega)]
  | k + 1, j + 1, n, h1, h2 => by
    unfold chainN
    split
    · rfl
    · have := parF_lt (b := b) (n := n) hb (by omega)
      rw [chainN_fuel hb k j (parF b n) (by omega) (by omega)]
theorem chainF_zero (b : Int) : chainF b 0 = [0] := rfl
theorem chainF_pos {b n : Int} (hb : 2 ≤ b) (hn : 1 ≤ n) : chainF b n = n :: chainF b (parF b n) := by
  have hk : ∃ k, n.toNat = k + 1 := ⟨n.toNat - 1, by omega⟩
  obtain ⟨k, e⟩ := hk
  unfold chainF
  rw [e]
  show (if n ≤ 0 then [n] else n :: chainN b k (parF b n)) = _
  rw [if_neg (by omega)]
  have := parF_lt hb hn
  have := parF_nonneg (b := b) (n := n) hb (by omega)
  rw [chainN_fuel hb k (parF b n).toNat (parF b n) (by omega) (Nat.le_refl _)]
theorem chainF_len {b : Int} (hb : 2 ≤ b) : ∀ (d j k : Nat) (n : Int), k = j + d → 0 ≤ n → b ^ j ∣ n → n < b ^ k → (chainF b n).length ≤ d + 1
  | 0, j, k, n, e, h0, hd, hl => by
    have hz : n = 0 := by
      have e2 : k = j := by omega
      subst e2
      rcases Int.lt_or_le 0 n with q | q
      · have := Int.le_of_dvd q hd
        omega
      · omega
    subst hz
    simp [chainF_zero]
  | d + 1, j, k, n, e, h0, hd, hl => by
    by_cases hz : n = 0
    · subst hz
      simp [chainF_zero]
    · rw [chainF_pos hb (by omega), List.length_cons]
      obtain ⟨i, hi⟩ := unitF_pow (b := b) (n := n)
      have hji : b ^ j ≤ b ^ i := by
        rw [← hi]
        exact (dvd_iff hb (by omega) ⟨j, rfl⟩).mp hd
      have hij : j ≤ i := by
        rcases Nat.lt_or_ge i j with q | q
        · have := pow_lt hb q
          omega
        · exact q
      have hd2 : b ^ (j + 1) ∣ parF b n := by
        have h1 := parF_dvd (b := b) (n := n)
        rw [hi, ← Int.pow_succ] at h1
        exact Int.dvd_trans (pow_dvd hb ⟨_, rfl⟩ ⟨_, rfl⟩ (pow_mono hb (by omega))) h1
      have hp := parF_lt (b := b) (n := n) hb (by omega)
      have := chainF_len hb d (j + 1) k (parF b n) (by omega) (parF_nonneg hb h0) hd2 (by omega)
      omega
theorem chainF_small {b n : Int} (hb : 2 ≤ b) (h0 : 0 ≤ n) (h : n ≤ 10 ^ 61) : (chainF b n).length ≤ 211 := by
  refine chainF_len hb 210 0 210 n rfl h0 (by simp) ?_
  have h1 := two_le_pow hb 210
  have h2 : (10 : Int) ^ 61 < 2 ^ 210 := by decide
  omega
/-- membership in a chain is to lie in the block -/
theorem mem_chain {b : Int} (hb : 2 ≤ b) : ∀ (k : Nat) (n m : Int), n.toNat ≤ k → 0 ≤ n → 1 ≤ m → (m ∈ chainF b n ↔ m ≤ n ∧ n < m + unitF b m)
  | 0, n, m, hk, h0, hm => by
    have hz : n = 0 := by omega
    subst hz
    rw [chainF_zero]
    simp
    omega
  | k + 1, n, m, hk, h0, hm => by
    by_cases hz : n = 0
    · subst hz
      rw [chainF_zero]
      simp
      omega
    · rw [chainF_pos hb (by omega), List.mem_cons]
      have hp := parF_lt (b := b) (n := n) hb (by omega)
      have hp0 := parF_nonneg (b := b) (n := n) hb h0
      have ih := mem_chain hb k (parF b n) m (by omega) hp0 hm
      rw [ih]
      have hu := unitF_pos (b := b) (n := m) hb
      have hun := unitF_pos (b := b) (n := n) hb
      have hle := parF_le (b := b) (n := n) hb
      constructor
      · rintro (e | ⟨h1, h2⟩)
        · subst e
          omega
        · refine ⟨by omega, ?_⟩
          -- the block of m is a multiple of its unit; n lies below the next multiple of unit n * b
          rcases Int.lt_or_le n (m + unitF b m) with q | q
          · exact q
          · exfalso
            -- parent < m + um ≤ n, and um is a power: um ≤ un (else un * b ∣ um, and then parent's next multiple ...)
            rcases Int.lt_or_le (unitF b n) (unitF b m) with r | r
            · have hn := unitF_pow (b := b) (n := n)
              have hm' := unitF_pow (b := b) (n := m)
              have dv : unitF b n * b ∣ unitF b m := pow_dvd hb hn.mul hm' (hn.next hb hm' r)
              have dm : unitF b n * b ∣ m + unitF b m := Int.dvd_add (Int.dvd_trans dv unitF_dvd) dv
              have dd : unitF b n * b ∣ m + unitF b m - parF b n := Int.dvd_sub dm parF_dvd
              have := Int.le_of_dvd (by omega) dd
              omega
            · -- um ≤ un: parent is a multiple of un * b, so of um * b; m ≤ parent < m + um, m multiple of um: parent = m
              have hn := unitF_pow (b := b) (n := n)
              have hm' := unitF_pow (b := b) (n := m)
              have dp : unitF b m * b ∣ parF b n := Int.dvd_trans (Int.mul_dvd_mul (pow_dvd hb hm' hn r) (Int.dvd_refl b)) parF_dvd
              have dq : unitF b m ∣ parF b n - m := Int.dvd_sub (Int.dvd_trans ⟨b, rfl⟩ dp) unitF_dvd
              have e : parF b n = m := by
                rcases Int.lt_or_le 0 (parF b n - m) with z | z
                · have := Int.le_of_dvd z dq
                  omega
                · omega
              exact (unitF_is hb hm).2.2 (e ▸ dp)
      · rintro ⟨h1, h2⟩
        by_cases e : m = n
        · exact .inl e
        · refine .inr ⟨?_, by omega⟩
          -- m < n < m + um: um > un (else n - m would be a multiple of um)
          have hn := unitF_pow (b := b) (n := n)
          have hm' := unitF_pow (b := b) (n := m)
          rcases Int.lt_or_le (unitF b n) (unitF b m) with r | r
          · have dv : unitF b n * b ∣ m := Int.dvd_trans (pow_dvd hb hn.mul hm' (hn.next hb hm' r)) unitF_dvd
            have dd : unitF b n * b ∣ m - parF b n := Int.dvd_sub dv parF_dvd
            rcases Int.lt_or_le (parF b n) m with z | z
            · have := Int.le_of_dvd (by omega) dd
              omega
            · exact z
          · exfalso
            have dd : unitF b m ∣ n - m := Int.dvd_sub (Int.dvd_trans (pow_dvd hb hm' hn r) unitF_dvd) unitF_dvd
            have := Int.le_of_dvd (by omega) dd
            omega
theorem zero_mem_chain {b : Int} (hb : 2 ≤ b) : ∀ (k : Nat) (n : Int), n.toNat ≤ k → 0 ≤ n → (0 : Int) ∈ chainF b n
  | 0, n, hk, h0 => by
    have hz : n = 0 := by omega
    subst hz
    simp [chainF_zero]
  | k + 1, n, hk, h0 => by
    by_cases hz : n = 0
    · subst hz
      simp [chainF_zero]
    · rw [chainF_pos hb (by omega)]
      have hp := parF_lt (b := b) (n := n) hb (by omega)
      exact List.mem_cons_of_mem _ (zero_mem_chain hb k (parF b n) (by omega) (parF_nonneg hb h0))
theorem chain_nonneg {b : Int} (hb : 2 ≤ b) : ∀ (k : Nat) (n : Int), n.toNat ≤ k → 0 ≤ n → ∀ m ∈ chainF b n, 0 ≤ m ∧ m ≤ n
  | 0, n, hk, h0, m, h => by
    have hz : n = 0 := by omega
    subst hz
    simp [chainF_zero] at h
    omega
  | k + 1, n, hk, h0, m, h => by
    by_cases hz : n = 0
    · subst hz
      simp [chainF_zero] at h
      omega
    · rw [chainF_pos hb (by omega)] at h
      have hp := parF_lt (b := b) (n := n) hb (by omega)
      rcases List.mem_cons.mp h with e | e
      · omega
      · have := chain_nonneg hb k (parF b n) (by omega) (parF_nonneg hb h0) m e
        omega
/-- in_chain as the program asks it -/
def inCh (b n m : Int) : Bool := decide (m = 0) || (decide (m ≤ n) && decide (n < m + unitF b m))
theorem inCh_iff {b n m : Int} (hb : 2 ≤ b) (hn : 0 ≤ n) (hm : 0 ≤ m) : inCh b n m = true ↔ m ∈ chainF b n := by
  unfold inCh
  by_cases e : m = 0
  · subst e
    simp [zero_mem_chain hb n.toNat n (Nat.le_refl _) hn]
  · rw [mem_chain hb n.toNat n m (Nat.le_refl _) hn (by omega)]
    simp [e]
/-- two blocks are nested or disjoint -/
theorem blocks {b m n : Int} (hb : 2 ≤ b) (hm : 1 ≤ m) (hn : 1 ≤ n) (h1 : m < n + unitF b n) (h2 : n < m + unitF b m) : (m ≤ n ∧ n + unitF b n ≤ m + unitF b m) ∨ (n ≤ m ∧ m + unitF b m ≤ n + unitF b n) := by
  have key : ∀ m n : Int, 1 ≤ m → 1 ≤ n → m < n + unitF b n → n < m + unitF b m → unitF b m ≤ unitF b n → n ≤ m ∧ m + unitF b m ≤ n + unitF b n := by
    intro m n hm hn h1 h2 hu
    have dv : unitF b m ∣ unitF b n := pow_dvd hb unitF_pow unitF_pow hu
    have d1 : unitF b m ∣ n := Int.dvd_trans dv unitF_dvd
    have d2 : unitF b m ∣ n - m := Int.dvd_sub d1 unitF_dvd
    have d3 : unitF b m ∣ n + unitF b n - m := Int.dvd_sub (Int.dvd_add d1 dv) unitF_dvd
    constructor
    · rcases Int.lt_or_le 0 (n - m) with q | q
      · have := Int.le_of_dvd q d2
        omega
      · omega
    · have := Int.le_of_dvd (by omega) d3
      omega
  rcases Int.lt_or_le (unitF b n) (unitF b m) with q | q
  · exact .inl (key n m hn hm h2 h1 (by omega))
  · exact .inr (key m n hm hn h1 h2 q)
theorem k02_a {b x N : Int} (h : ¬ inCh b x N = (decide (N ≤ x) && decide (x < N + unitF b N))) (hN : 1 ≤ N) : False := by
  apply h
  unfold inCh
  rw [decide_eq_false (show ¬ N = 0 by omega)]
  rfl
theorem k02_b {b x N : Int} (h : ¬ decide (N ∈ chainF b x) = (decide (N ≤ x) && decide (x < N + unitF b N))) (hb : 2 ≤ b) (hx : 0 ≤ x) (hN : 1 ≤ N) : False := by
  apply h
  rw [Bool.eq_iff_iff]
  simp [mem_chain hb x.toNat x N (Nat.le_refl _) hx hN]
/-- kept, as the program asks it -/
def keptB (b f n t : Int) : Bool := decide (n ≤ t) && (decide (n = 0) || decide (t ≤ n + f * unitF b n))
/-- how a parent outlives its child -/
theorem life_step {b f n : Int} (hb : 2 ≤ b) (hf : 1 ≤ f) (hn : 1 ≤ n) (hp : 1 ≤ parF b n) : n + f * unitF b n ≤ parF b n + f * unitF b (parF b n) ∧ (2 ≤ f → n + f * unitF b n < parF b n + f * unitF b (parF b n)) := by
  have hu := unitF_pos (b := b) (n := n) hb
  have h1 := (dvd_iff hb hp (unitF_pow (b := b) (n := n)).mul).mp parF_dvd
  have hl := parF_le (b := b) (n := n) hb
  -- n - parent ≤ (b - 1) * unit
  have hgap : n - parF b n ≤ unitF b n * b - unitF b n := by
    have d1 : unitF b n ∣ parF b n + unitF b n * b - n := Int.dvd_sub (Int.dvd_add (Int.dvd_trans ⟨b, rfl⟩ parF_dvd) ⟨b, rfl⟩) unitF_dvd
    have := Int.le_of_dvd (by omega) d1
    omega
  have h2 : f * (unitF b n * b) ≤ f * unitF b (parF b n) := Int.mul_le_mul_of_nonneg_left h1 (by omega)
  have h3 : f * (unitF b n * b) = f * unitF b n * b := by rw [Int.mul_assoc]
  generalize unitF b n = u at *
  -- (f - 1) * (b - 1) * u ≥ 0
  have e : f * u * b - f * u - (u * b - u) = (f - 1) * ((b - 1) * u) := by
    rw [Int.sub_mul, Int.sub_mul, Int.mul_sub, Int.one_mul, Int.one_mul, Int.mul_assoc, Int.mul_comm u b]
  have h4 : 0 ≤ (b - 1) * u := Int.mul_nonneg (by omega) (by omega)
  have h5 : 0 ≤ (f - 1) * ((b - 1) * u) := Int.mul_nonneg (by omega) h4
  constructor
  · omega
  · intro hf2
    have h6 : 1 * u ≤ (b - 1) * u := Int.mul_le_mul_of_nonneg_right (by omega) (by omega)
    have h7 : 1 * ((b - 1) * u) ≤ (f - 1) * ((b - 1) * u) := Int.mul_le_mul_of_nonneg_right (by omega) h4
    omega
/-- the last time -/
def lastF (b f n : Int) : Int := n + f * unitF b n
theorem keptB_pos {b f n t : Int} (hn : 1 ≤ n) (ht : n ≤ t) : keptB b f n t = decide (t ≤ n + f * unitF b n) := by
  unfold keptB
  rw [decide_eq_true ht, decide_eq_false (show ¬ n = 0 by omega)]
  rfl
theorem keptB_zero {b f t : Int} (ht : 0 ≤ t) : keptB b f 0 t = true := by
  unfold keptB
  rw [decide_eq_true ht]
  rfl
theorem chain_kept {b f t : Int} (hb : 2 ≤ b) (hf : 1 ≤ f) : ∀ (k : Nat) (n : Int), n.toNat ≤ k → 0 ≤ n → keptB b f n t = true → ∀ m ∈ chainF b n, keptB b f m t = true
  | 0, n, hk, h0, h, m, hm => by
    have hz : n = 0 := by omega
    subst hz
    simp [chainF_zero] at hm
    rw [hm]
    exact h
  | k + 1, n, hk, h0, h, m, hm => by
    by_cases hz : n = 0
    · subst hz
      simp [chainF_zero] at hm
      rw [hm]
      exact h
    · rw [chainF_pos hb (by omega)] at hm
      have hp := parF_lt (b := b) (n := n) hb (by omega)
      have hp0 := parF_nonneg (b := b) (n := n) hb h0
      rcases List.mem_cons.mp hm with e | e
      · rw [e]
        exact h
      · refine chain_kept hb hf k (parF b n) (by omega) hp0 ?_ m e
        have hnt : n ≤ t := by
          unfold keptB at h
          rw [Bool.and_eq_true] at h
          exact of_decide_eq_true h.1
        by_cases hz2 : parF b n = 0
        · rw [hz2]
          exact keptB_zero (by omega)
        · rw [keptB_pos (by omega) (by omega)] at *
          have := (life_step hb hf (n := n) (by omega) (by omega)).1
          have h := of_decide_eq_true h
          exact decide_eq_true (by omega)
/-- the last times along a chain, without 0, ascend -/
theorem ends_up {b f : Int} (hb : 2 ≤ b) (hf : 1 ≤ f) : ∀ (k : Nat) (n : Int), n.toNat ≤ k → 1 ≤ n → ((chainF b n).dropLast.map (lastF b f)).Pairwise (· ≤ ·) ∧ (2 ≤ f → ((chainF b n).dropLast.map (lastF b f)).Pairwise (· < ·)) ∧ ∀ m ∈ (chainF b n).dropLast, lastF b f n ≤ lastF b f m
  | 0, n, hk, h0 => by omega
  | k + 1, n, hk, h0 => by
    rw [chainF_pos hb h0]
    have hp := parF_lt (b := b) (n := n) hb h0
    have hp0 := parF_nonneg (b := b) (n := n) hb (by omega)
    by_cases hz : parF b n = 0
    · rw [hz, chainF_zero]
      simp
    · have ih := ends_up hb hf k (parF b n) (by omega) (by omega)
      have hs := life_step hb hf (n := n) h0 (by omega)
      have hne : chainF b (parF b n) ≠ [] := by
        rw [chainF_pos hb (by omega)]
        simp
      have hd : (n :: chainF b (parF b n)).dropLast = n :: (chainF b (parF b n)).dropLast := by
        cases hc : chainF b (parF b n) with
        | nil => exact absurd hc hne
        | cons x r => rfl
      rw [hd, List.map_cons]
      have hle : ∀ m ∈ (chainF b (parF b n)).dropLast, lastF b f n ≤ lastF b f m := fun m hm => by
        have := ih.2.2 m hm
        unfold lastF at *
        omega
      refine ⟨?_, fun h2 => ?_, ?_⟩
      · rw [List.pairwise_cons]
        refine ⟨fun x hx => ?_, ih.1⟩
        obtain ⟨m, hm, rfl⟩ := List.mem_map.mp hx
        exact hle m hm
      · rw [List.pairwise_cons]
        refine ⟨fun x hx => ?_, ih.2.1 h2⟩
        obtain ⟨m, hm, rfl⟩ := List.mem_map.mp hx
        have := ih.2.2 m hm
        have := hs.2 h2
        unfold lastF at *
        omega
      · intro m hm
        rcases List.mem_cons.mp hm with e | e
        · rw [e]
          exact Int.le_refl _
        · exact hle m e
theorem drop_pos {b : Int} (hb : 2 ≤ b) : ∀ (k : Nat) (n : Int), n.toNat ≤ k → 0 ≤ n → ∀ m ∈ (chainF b n).dropLast, 1 ≤ m
  | 0, n, hk, h0, m, hm => by
    have hz : n = 0 := by omega
    subst hz
    simp [chainF_zero] at hm
  | k + 1, n, hk, h0, m, hm => by
    by_cases hz : n = 0
    · subst hz
      simp [chainF_zero] at hm
    · rw [chainF_pos hb (by omega)] at hm
      have hp := parF_lt (b := b) (n := n) hb (by omega)
      have hp0 := parF_nonneg (b := b) (n := n) hb h0
      have hne : chainF b (parF b n) ≠ [] := by
        by_cases hz2 : parF b n = 0
        · rw [hz2, chainF_zero]
          simp
        · rw [chainF_pos hb (by omega)]
          simp
      have hd : (n :: chainF b (parF b n)).dropLast = n :: (chainF b (parF b n)).dropLast := by
        cases hc : chainF b (parF b n) with
        | nil => exact absurd hc hne
        | cons x r => rfl
      rw [hd] at hm
      rcases List.mem_cons.mp hm with e | e
      · omega
      · exact drop_pos hb k (parF b n) (by omega) hp0 m e
end Ma

set_option Elab.async false
set_option linter.all false
set_option maxRecDepth 100000
namespace Ma
/-! ### levels, parents, chains: what the law counts itself -/
theorem div_mod {b n u : Int} (hu : 1 ≤ u) (h : u ∣ n) (q : u * b ∣ n) : n / u % b = 0 := by
  obtain ⟨c, rfl⟩ := q
  rw [Int.mul_assoc, Int.mul_ediv_cancel_left _ (by omega)]
  exact Int.mul_emod_right b c
theorem mod_div {b n u : Int} (h : u ∣ n) (q : n / u % b = 0) : u * b ∣ n := by
  obtain ⟨c, hc⟩ := Int.dvd_of_emod_eq_zero q
  refine ⟨c, ?_⟩
  rw [Int.mul_assoc, ← hc]
  exact (Int.mul_ediv_cancel' h).symm
theorem div_is {n u q : Int} (hu : 0 < u) (h1 : q * u ≤ n) (h2 : n < q * u + u) : n / u = q := by
  have h3 : q ≤ n / u := (Int.le_ediv_iff_mul_le hu).mpr h1
  have h4 : n / u < q + 1 := (Int.ediv_lt_iff_lt_mul hu).mpr (by rw [Int.add_mul]; omega)
  omega
theorem par_alt {b n : Int} (hb : 2 ≤ b) (hn : 1 ≤ n) : n - n / unitF b n % b * unitF b n = parF b n := by
  have hu := unitF_pos (b := b) (n := n) hb
  obtain ⟨x, hx⟩ := unitF_dvd (b := b) (n := n)
  have e1 : n / unitF b n = x := by
    have : unitF b n * x / unitF b n = x := Int.mul_ediv_cancel_left _ (by omega)
    rw [← hx] at this
    exact this
  rw [e1]
  have h1 := Int.mul_ediv_add_emod x b
  have h2 := Int.emod_nonneg x (show b ≠ 0 by omega)
  have h3 := Int.emod_lt_of_pos x (show 0 < b by omega)
  unfold parF
  have hub : 0 < unitF b n * b := Int.mul_pos (by omega) (by omega)
  have e2 : n / (unitF b n * b) = x / b := by
    refine div_is hub ?_ ?_
    · have a1 : x / b * (unitF b n * b) = unitF b n * (b * (x / b)) := by grind
      have a2 : unitF b n * (b * (x / b)) ≤ unitF b n * x := Int.mul_le_mul_of_nonneg_left (by omega) (by omega)
      omega
    · have a1 : x / b * (unitF b n * b) + unitF b n * b = unitF b n * (b * (x / b) + b) := by grind
      have a2 : unitF b n * x < unitF b n * (b * (x / b) + b) := Int.mul_lt_mul_of_pos_left (by omega) (by omega)
      omega
  rw [e2]
  have a3 : x / b * (unitF b n * b) = unitF b n * (b * (x / b)) := by grind
  have a4 : unitF b n * (b * (x / b)) = unitF b n * x - unitF b n * (x % b) := by rw [← Int.mul_sub]; congr 1; omega
  have a5 : x % b * unitF b n = unitF b n * (x % b) := Int.mul_comm _ _
  omega
theorem chain_head {b m : Int} (hb : 2 ≤ b) (hm : 0 ≤ m) : ∃ r, chainF b m = m :: r := by
  by_cases h : m = 0
  · exact ⟨[], by rw [h, chainF_zero]⟩
  · exact ⟨_, chainF_pos hb (by omega)⟩
theorem chain_ix1 {b m : Int} (hb : 2 ≤ b) (hm : 1 ≤ m) : L2.atI ((chainF b m).map L2.V.int) 1 = some (.int (parF b m)) := by
  obtain ⟨r, hr⟩ := chain_head hb (parF_nonneg hb (n := m) (by omega))
  rw [chainF_pos hb hm, hr]
  exact L2.at_of (j := 1) rfl rfl
theorem lev_left {b x : Int} {j : Nat} (hb : 2 ≤ b) (h : x = b ^ j) (hx : 1 < x) : ∃ i : Nat, j = i + 1 ∧ x / b = b ^ i ∧ 1 ≤ x / b ∧ x / b < x := by
  cases j with
  | zero => rw [Int.pow_zero] at h; omega
  | succ i =>
    have hp := pow_pos hb i
    have e : x / b = b ^ i := by rw [h, Int.pow_succ, Int.mul_ediv_cancel _ (by omega)]
    have e2 := pow_step hb i
    exact ⟨i, rfl, e, by omega, by omega⟩
theorem lev_done {b x u : Int} {j l : Nat} (hb : 2 ≤ b) (h : x = b ^ j) (hu : u = b ^ (l + j)) (hx : ¬ 1 < x) : u = b ^ l := by
  have hj : j = 0 := by
    cases j with
    | zero => rfl
    | succ i =>
      have hp := pow_pos hb i
      have e2 := pow_step hb i
      omega
  rw [hu, hj, Nat.add_zero]
theorem lev_eq {b u : Int} {k l : Nat} (hb : 2 ≤ b) (h1 : u = b ^ k) (h2 : u = b ^ l) : k = l := pow_inj hb (h1.symm.trans h2)
theorem has_all {b n : Int} (hb : 2 ≤ b) (hn : 0 ≤ n) : ((chainF b n).map (fun m => inCh b n m)).all id = true := by
  rw [List.all_eq_true]
  intro x hx
  obtain ⟨m, hm, rfl⟩ := List.mem_map.mp hx
  have h0 := chain_nonneg hb n.toNat n (Nat.le_refl _) hn m hm
  exact (inCh_iff hb hn h0.1).mpr hm
theorem odd_nil {b n : Int} {ms : List Int} (hb : 2 ≤ b) (hn : 0 ≤ n) (h : ∀ m ∈ ms, 0 ≤ m ∧ m ∉ chainF b n) : ms.filter (fun m => inCh b n m) = [] :=
  List.filter_eq_nil_iff.mpr fun m hm q => (h m hm).2 ((inCh_iff hb hn (h m hm).1).mp q)
end Ma

set_option Elab.async false
set_option linter.all false
set_option maxRecDepth 100000
set_option maxHeartbeats 4000000
namespace Sn
open PySem L2 Kr
def topS (i : Nat) : Stmt := PySem.Challenge.pw_snapdigits_k01_levels_parents_and_chains.main.body.getD i (.Pass ⟨0, 0, 0, 0⟩)
abbrev s__law_source_of : Stmt := topS 14
abbrev s__law_next : Stmt := topS 15
abbrev s__law_one : Stmt := topS 16
abbrev s__law_scheme : Stmt := topS 18
abbrev s_is_integer : Stmt := topS 6
abbrev s_is_between : Stmt := topS 7
abbrev s_Scheme_init : Stmt := inClass (topS 12) 0
abbrev s__law_cell_at : Stmt := topS 17
abbrev s_check_number : Stmt := topS 8
abbrev s_Scheme_unit : Stmt := inClass (topS 12) 4
abbrev s_Scheme_parent_of : Stmt := inClass (topS 12) 7
abbrev s_Scheme_chain : Stmt := inClass (topS 12) 8
abbrev s__law_number : Stmt := topS 19
abbrev s__law_unit : Stmt := topS 20
abbrev s_Scheme_last_time : Stmt := inClass (topS 12) 11
abbrev s__law_parent : Stmt := topS 21
abbrev s_Scheme_level : Stmt := inClass (topS 12) 5
abbrev s_Scheme_parent : Stmt := inClass (topS 12) 6
abbrev s_Scheme_block : Stmt := inClass (topS 12) 9
abbrev s_Scheme_has_in_chain : Stmt := inClass (topS 12) 10
abbrev s__law_one_right : Stmt := topS 22
abbrev s_Scheme_base : Stmt := inClass (topS 12) 2
abbrev s_Scheme_factor : Stmt := inClass (topS 12) 3
abbrev s_Scheme_eq : Stmt := inClass (topS 12) 1
abbrev s_law : Stmt := topS 23
structure Top (K : PySem.W.Frag) (mg : Str → Option Value) (CS : Addr) : Prop where
  b_all : mg "all" = none
  b_bool : mg "bool" = none
  b_int : mg "int" = none
  b_isinstance : mg "isinstance" = none
  b_len : mg "len" = none
  b_max : mg "max" = none
  b_range : mg "range" = none
  c_MOST_BASE : ∃ t, mg "MOST_BASE" = some (.int 1000 t)
  c_MOST_FACTOR : ∃ t, mg "MOST_FACTOR" = some (.int 1000000 t)
  cl_Scheme : Cls K CS
  n_Scheme_radix : NoAttr K CS "radix"
  n_Scheme_multiple : NoAttr K CS "multiple"
  ne_Scheme : NeC K CS
  m_Scheme : mg "Scheme" = some (.ref CS)
  is_Scheme : C8.InsC K CS
  f__law_source_of : TopFn K mg "_law_source_of" s__law_source_of
  f__law_next : TopFn K mg "_law_next" s__law_next
  f__law_one : TopFn K mg "_law_one" s__law_one
  f__law_scheme : TopFn K mg "_law_scheme" s__law_scheme
  f_is_integer : TopFn K mg "is_integer" s_is_integer
  f_is_between : TopFn K mg "is_between" s_is_between
  f_Scheme_init : InitFn K mg "Scheme" CS "Scheme.__init__" s_Scheme_init
  f__law_cell_at : TopFn K mg "_law_cell_at" s__law_cell_at
  f_check_number : TopFn K mg "check_number" s_check_number
  f_Scheme_unit : MethFn K CS "unit" "Scheme.unit" s_Scheme_unit
  f_Scheme_parent_of : MethFn K CS "parent_of" "Scheme.parent_of" s_Scheme_parent_of
  f_Scheme_chain : MethFn K CS "chain" "Scheme.chain" s_Scheme_chain
  f__law_number : TopFn K mg "_law_number" s__law_number
  f__law_unit : TopFn K mg "_law_unit" s__law_unit
  f_Scheme_last_time : MethFn K CS "last_time" "Scheme.last_time" s_Scheme_last_time
  f__law_parent : TopFn K mg "_law_parent" s__law_parent
  f_Scheme_level : MethFn K CS "level" "Scheme.level" s_Scheme_level
  f_Scheme_parent : MethFn K CS "parent" "Scheme.parent" s_Scheme_parent
  f_Scheme_block : MethFn K CS "block" "Scheme.block" s_Scheme_block
  f_Scheme_has_in_chain : MethFn K CS "has_in_chain" "Scheme.has_in_chain" s_Scheme_has_in_chain
  f__law_one_right : TopFn K mg "_law_one_right" s__law_one_right
  f_Scheme_base : MethFn K CS "base" "Scheme.base" s_Scheme_base
  f_Scheme_factor : MethFn K CS "factor" "Scheme.factor" s_Scheme_factor
  f_Scheme_eq : MethFn K CS "__eq__" "Scheme.__eq__" s_Scheme_eq
  f_law : TopFn K mg "law" s_law

/-! ### sizes -/
theorem log2_big {x : Int} (h1 : -(10 ^ 200) ≤ x) (h2 : x ≤ 10 ^ 200) : x.natAbs < 2 ^ 700 := by
  have h : (10 ^ 200 : Nat) < 2 ^ 700 := by decide +kernel
  have e : ((10 ^ 200 : Nat) : Int) = 10 ^ 200 := by norm_cast
  exact Nat.lt_of_le_of_lt (by omega) h
theorem mulOk {i j : Int} (h1 : -(10 ^ 200) ≤ i ∧ i ≤ 10 ^ 200) (h2 : -(10 ^ 200) ≤ j ∧ j ≤ 10 ^ 200) : CMulW i j :=
  wide_mul (log2_big h1.1 h1.2) (log2_big h2.1 h2.2) (by decide) (by decide) (by decide)
theorem mulOk1 {i j : Int} (h1 : i.natAbs < 2 ^ 500000) (h2 : -(10 ^ 200) ≤ j ∧ j ≤ 10 ^ 200) : CMulW i j :=
  wide_mul h1 (log2_big h2.1 h2.2) (by decide) (by decide) (by decide)
theorem divOk {i j : Int} (h : 0 < j ∧ j ≤ 10 ^ 200) : CDivW i j := wide_div h.1 (log2_big (by omega) h.2) (by decide) (by decide)
theorem powOk {i j : Int} (h : 0 ≤ j ∧ j ≤ 1000 ∧ 0 ≤ i ∧ i < 2 ^ 63) : CPow i j := ⟨h.1, by omega, by omega⟩

/-! ### a scheme's attributes -/
def scF (b f : Int) : List (Str × V) := putF "multiple" (.int f) (putF "radix" (.int b) [])
theorem scF_ne : ¬ (("radix" : Str) = "multiple") := by decide +kernel
theorem scF_radix (b f : Int) : (scF b f).lookup ("radix" : Str) = some (.int b) := by
  unfold scF
  rw [lookup_putF, if_neg scF_ne, lookup_putF, if_pos rfl]
theorem scF_multiple (b f : Int) : (scF b f).lookup ("multiple" : Str) = some (.int f) := by
  unfold scF
  rw [lookup_putF, if_pos rfl]
theorem scF_no (b f : Int) {m : Str} (h1 : ¬ m = "multiple") (h2 : ¬ m = "radix") : (scF b f).lookup m = none := by
  unfold scF
  rw [lookup_putF, if_neg h1, lookup_putF, if_neg h2]
  all_goals rfl
def SchOk (b f : Int) : Prop := 2 ≤ b ∧ b ≤ 1000 ∧ 1 ≤ f ∧ f ≤ 1000000

section
variable {K : PySem.W.Frag} {g : Gr} {L : Led} {C : V → Led → Prop} {σ : St}
theorem wc_isi_int {n : Int} (c : C (.bl true) L) : Wp g L (rIsi K [.int n, .ty "int"]) C :=
  .now (fun H _ _ q => ⟨.int n, .ty "int", _, _, true, rfl, .ty _, .base (.int n), kit_ty (by decide +kernel), q⟩) c
theorem wc_isi_bool {n : Int} (c : C (.bl false) L) : Wp g L (rIsi K [.int n, .ty "bool"]) C :=
  .now (fun H _ _ q => ⟨.int n, .ty "bool", _, _, false, rfl, .ty _, .base (.int n), kit_ty (by decide +kernel), q⟩) c
end
theorem op_in_seqK {X : Cx} {Kf : PySem.W.Frag} (hK : X.K = Kf) : OpR X (compareOp .In) (rIn Kf false) := hK ▸ op_in_seq
theorem op_notIn_seqK {X : Cx} {Kf : PySem.W.Frag} (hK : X.K = Kf) : OpR X (compareOp .NotIn) (rIn Kf true) := hK ▸ op_notIn_seq
def sp_Scheme_init (CS : Addr) : Sp := fun vs H Q _ => ∃ (p dx : Addr) (b f : Int), vs = [.ref p, .int b, .int f] ∧ H p = some (.ins CS dx []) ∧ SchOk b f ∧
  ∀ H' : Hp, H' p = some (.ins CS dx (scF b f)) → (∀ q o, H q = some o → q ≠ p → H' q = some o) → Q .non H'
theorem wm_Scheme {CS : Addr} {g : Gr} {L : Led} {C : V → Led → Prop} {σ : St} {E : XK} {tr : TA}
    (h : Wp g L (tr σ) fun vs L1 => ∃ b f : Int, vs = [.int b, .int f] ∧ SchOk b f ∧ ∀ p dx, C (.ref p) (L1 ++ [(p, .ob (.ins CS dx (scF b f)), true)])) : Wp g L (tMake CS (sp_Scheme_init CS) [] E tr σ) C :=
  fun H z Q q => h H z _ fun vs L1 H1 ⟨b, f, e, hs, k⟩ z1 => fun x dx hx hdx hne => by
    subst e
    refine ⟨x, dx, b, f, rfl, upd_same, hs, fun H' h1 h2 => ⟨rfl, q _ _ _ (k x dx) ?_⟩⟩
    refine z1.new (fun c o ho => h2 c o ?_ (ne_of_none ho hx)) hx h1
    rw [upd_ne (ne_of_none ho hx), upd_ne (ne_of_none ho hdx)]
    exact ho

/-- the powers 1, b, .., b ^ k as values -/
def pows (b : Int) : Nat → List V
  | 0 => [.int 1]
  | k + 1 => pows b k ++ [.int (b ^ (k + 1))]
theorem pows_len (b : Int) (k : Nat) : (pows b k).length = k + 1 := by
  induction k with
  | zero => rfl
  | succ k ih => simp [pows, ih]
theorem atI_neg1 {xs : List V} {x : V} : atI (xs ++ [x]) (-1) = some x := by
  unfold atI ixN
  rw [if_neg (by decide), if_pos (by simp; omega)]
  have e : (-1 + ((xs ++ [x]).length : Int)).toNat = xs.length := by simp; omega
  first
    | (rw [e]; simp)
    | (simp; have e2 : (-1 + ((xs.length : Int) + 1)).toNat = xs.length := by omega
       rw [e2]; simp)
theorem pows_last (b : Int) (k : Nat) : atI (pows b k) (-1) = some (.int (b ^ k)) := by
  cases k with
  | zero => rw [show pows b 0 = [] ++ [V.int 1] from rfl, atI_neg1]; simp
  | succ k => exact atI_neg1
theorem pows_get (b : Int) : ∀ (k i : Nat), i ≤ k → (pows b k)[i]? = some (.int (b ^ i))
  | 0, i, h => by
    have : i = 0 := by omega
    subst this
    simp [pows]
  | k + 1, i, h => by
    by_cases e : i = k + 1
    · subst e
      rw [pows, List.getElem?_append_right (by rw [pows_len]; omega), pows_len]
      simp
    · rw [pows, List.getElem?_append_left (by rw [pows_len]; omega)]
      exact pows_get b k i (by omega)

theorem last_map {pre : List Int} {m : Int} : atI ((pre ++ [m]).map V.int) (-1) = some (.int m) := by
  rw [List.map_append]
  exact atI_neg1
theorem cut_butlast (ms : List Int) : cutV (ms.map V.int) none (some (-1)) = ms.dropLast.map V.int := by
  unfold cutV
  have h1 : HT.sIx (ms.map V.int).length 0 none = 0 := rfl
  have h2 : HT.sIx (ms.map V.int).length (ms.map V.int).length (some (-1)) = ms.length - 1 := by
    unfold HT.sIx
    simp
    omega
  rw [h1, h2, List.drop_zero, Nat.sub_zero, List.dropLast_eq_take, List.map_take]
theorem wr_slB {K : PySem.W.Frag} {g : Gr} {L : Led} {C : V → Led → Prop} {a : Addr} {ms : List Int} (s : Seen K g L a (ms.map V.int)) (c : ∀ p, C (.ref p) (L ++ [(p, .ob (.lst (ms.dropLast.map V.int)), true)])) : Wp g L (rSlL K (.ref a) none (some (-1))) C :=
  wr_slL s (by rw [cut_butlast]; exact c)
theorem wmk_Scheme {CS : Addr} {g : Gr} {L : Led} {C : V → Led → Prop} {σ : St} {E : XK} {tk : TA} {perm : List Nat} {n : Nat}
    (h : Wp g L (tk σ) fun zs L1 => zs.length = n ∧ ∃ b f : Int, pick perm zs = [.int b, .int f] ∧ SchOk b f ∧ ∀ p dx, C (.ref p) (L1 ++ [(p, .ob (.ins CS dx (scF b f)), true)])) : Wp g L (tKwC CS (sp_Scheme_init CS) perm n E tk σ) C :=
  fun H z Q q => h H z _ fun zs L1 H1 ⟨el, b, f, e, hs, k⟩ z1 => ⟨el, fun x dx hx hdx hne => by
    rw [e]
    refine ⟨x, dx, b, f, rfl, upd_same, hs, fun H' h1 h2 => ⟨rfl, q _ _ _ (k x dx) ?_⟩⟩
    refine z1.new (fun c o ho => h2 c o ?_ (ne_of_none ho hx)) hx h1
    rw [upd_ne (ne_of_none ho hx), upd_ne (ne_of_none ho hdx)]
    exact ho⟩

theorem prime_at (k : Int) (h0 : 0 ≤ k) (h1 : k < 7) : ∃ q : Int, atI [V.int 2147483647, .int 2147483629, .int 2147483587, .int 2147483579, .int 2147483563, .int 2147483549, .int 2147483543] k = some (.int q) ∧ 1 < q ∧ q ≤ 2147483647 := by
  have h : k = 0 ∨ k = 1 ∨ k = 2 ∨ k = 3 ∨ k = 4 ∨ k = 5 ∨ k = 6 := by omega
  rcases h with rfl | rfl | rfl | rfl | rfl | rfl | rfl <;> exact ⟨_, rfl, by decide, by decide⟩
theorem atI_in {xs : List V} {k : Int} (h0 : 0 ≤ k) (h1 : k < (xs.length : Int)) : ∃ v, atI xs k = some v ∧ v ∈ xs := by
  have hk : k.toNat < xs.length := by omega
  refine ⟨xs[k.toNat], at_of (j := k.toNat) (by omega) (List.getElem?_eq_getElem hk), List.getElem_mem hk⟩
theorem ints_all {ns : List Int} : ∀ v ∈ ns.map V.int, ∃ n : Int, v = .int n := fun v hv => by
  obtain ⟨n, _, e⟩ := List.mem_map.mp hv
  exact ⟨n, e.symm⟩
theorem cut_mem {xs : List V} {lo hi : Option Int} {v : V} (h : v ∈ cutV xs lo hi) : v ∈ xs := List.mem_of_mem_drop (List.mem_of_mem_take h)

section
variable {P : Program} {w : World} {K : PySem.W.Frag} {mg : Str → Option Value} {base : Heap} {CS : Addr}
theorem sc__law_source_of : FnScope ["_law_cell"] ["_law_cell"] (defScope s__law_source_of) := ⟨rfl, rfl, rfl, by decide +kernel, rfl, by decide +kernel, by decide +kernel⟩
def sp__law_source_of (CS : Addr) : Sp := fun vs H Q _ => ∃ n : Int, vs = [.int n] ∧ ∀ (p : Addr) (H' : Hp), H p = none → Same H H' → EntAt (.src 0) H' p → Q (.ref p) H'
theorem wc__law_source_of {CS : Addr} {g : Gr} {L : Led} {C : V → Led → Prop} {E : XK} {n : Int} (c : ∀ p : Addr, C (.ref p) (L ++ [(p, .src 0, true)])) : Wp g L (fun H Q => sp__law_source_of CS [.int n] H Q E) C :=
  fun H z Q q => ⟨n, rfl, fun p H' hn s ⟨o, h1, h2⟩ => q _ _ _ (c p) (z.newE s hn h1 h2)⟩

theorem ok__law_source_of (T : Top K mg CS) : Ok P w K mg base 1 "_law_source_of" s__law_source_of ["_law_cell"] (sp__law_source_of CS) := by
  refine Ok.of T.f__law_source_of sc__law_source_of (fun _ _ _ _ _ _ us hl => match us, hl with | [_], _ => rfl) (fun vs H Q E h => ?_) (fun f cdv A outer s H vs Q E hr h => ?_)
  · obtain ⟨n, rfl, _⟩ := h
    rfl
  · obtain ⟨n, rfl, kk⟩ := h
    refine ⟨_, (pss_one (ps_ret (pe_lst (pa_cons (pe_op op_mul (pv 0) (pe_callTy c_int1 (by rfl) T.b_int (by decide +kernel) (pa_cons (pe_cmpR op_ge (pv 0) (pe_op op_pow pe_int pe_int) (nomark _)) pa_nil))) (pa_cons (pe_op op_mod (pv 0) pe_int) (pa_cons pe_int pa_nil)))))), ?_⟩
    refine run_ws (σ := [some (.int n)]) (K := kR (fun o => (Ent.src 0).Is o)) (L := []) ?_ at_nil (eo_R fun p H' o r n s' hp => kk p H' n s' ⟨o, hp, r⟩)
    refine ws_ret ?_
    refine wp_lst ?_
    refine wa_cons ?_
    refine wp_op ?_
    refine wp_var rfl ?_
    refine wp_cb ?_
    refine wa_cons ?_
    refine wp_op ?_
    refine wp_var rfl ?_
    refine wp_op ?_
    refine wp_c ?_
    refine wp_c ?_
    refine wr_powc (r := 1000000000000000000) (powOk (by decide)) (by decide) ?_
    refine wr0 ?_
    refine wa_nil ?_
    refine wc_intB ?_
    refine wr1 (Or.inr ⟨by split <;> decide, by split <;> decide⟩) ?_
    refine wa_cons ?_
    refine wp_op ?_
    refine wp_var rfl ?_
    refine wp_c ?_
    refine wr_modA (by decide) ?_
    intro y hy0 hy1
    refine wa_cons ?_
    refine wp_c ?_
    refine wa_nil ?_
    refine ⟨by simp, fun p1 => ?_⟩
    exact ⟨_, 0, _, rfl, rfl, _, _, _, rfl, hy0, by omega, by decide, by decide⟩
theorem sc__law_next : FnScope ["_law_source", "_law_many", "_law_prime", "_law_figure", "_law_found"] ["_law_source", "_law_many"] (defScope s__law_next) := ⟨rfl, rfl, rfl, by decide +kernel, rfl, by decide +kernel, by decide +kernel⟩
def sp__law_next (CS : Addr) : Sp := fun vs H Q _ => ∃ (a : Addr) (m : Nat) (many : Int), vs = [.ref a, .int many] ∧ EntAt (.src m) H a ∧ m ≤ 1000000 ∧ (1 ≤ many ∧ many ≤ 10 ^ 100) ∧ ∀ (n : Int) (H' : Hp), (0 ≤ n ∧ n < many) → EntAt (.src (m + 1)) H' a → Exc a H H' → Q (.int n) H'
theorem wc__law_next {CS : Addr} {g : Gr} {L : Led} {C : V → Led → Prop} {E : XK} {a : Addr} {m : Nat} {many : Int} (i : Nat) (h : L[i]? = some (a, .src m, true)) (hm : m ≤ 1000000) (hn : 1 ≤ many ∧ many ≤ 10 ^ 100)
    (c : ∀ n : Int, (0 ≤ n ∧ n < many) → C (.int n) (L.set i (a, .src (m + 1), true))) : Wp g L (fun H Q => sp__law_next CS [.ref a, .int many] H Q E) C :=
  fun H z Q q => ⟨a, m, many, rfl, z.look h, hm, hn, fun n H' hn' he hx => q _ _ _ (c n hn') (z.draw h hx he)⟩

theorem ok__law_next (T : Top K mg CS) : Ok P w K mg base 1 "_law_next" s__law_next ["_law_source", "_law_many"] (sp__law_next CS) := by
  refine Ok.of T.f__law_next sc__law_next (fun _ _ _ _ _ _ us hl => match us, hl with | [_, _], _ => rfl) (fun vs H Q E h => ?_) (fun f cdv A outer s H vs Q E hr h => ?_)
  · obtain ⟨a, m, many, rfl, _⟩ := h
    rfl
  · obtain ⟨a, m, many, rfl, ⟨o, ha, x, y, z, rfl, hy0, hy1, hz0, hz1⟩, hm, hmany, kk⟩ := h
    refine ⟨_, (pss_cons (ps_if (pt_cmpR op_gt (pe_ix ix_list (pv 0) pe_int (fun _ _ => rfl)) pe_int (nomark _)) (pss_cons (ps_set (i := 4) sc__law_next.nd rfl (Or.inl rfl) (pe_op op_mod (pe_ix ix_list (pv 0) pe_int (fun _ _ => rfl)) (pv 1)))
      (pss_cons (ps_asg (pe_op op_fdivW (pe_ix ix_list (pv 0) pe_int (fun _ _ => rfl)) (pv 1)) (pg_sub (pv 0) pe_int set_list))
      (pss_one (ps_ret (pv 4))))) pss_nil)
      (pss_cons (ps_asg (pe_op op_add (pe_ix ix_list (pv 0) pe_int (fun _ _ => rfl)) pe_int) (pg_sub (pv 0) pe_int set_list))
      (pss_cons (ps_set (i := 2) sc__law_next.nd rfl (Or.inl rfl) (pe_ix ix_list (pe_lst (pa_cons pe_int (pa_cons pe_int (pa_cons pe_int (pa_cons pe_int (pa_cons pe_int (pa_cons pe_int (pa_cons pe_int pa_nil)))))))) (pe_op op_mod (pe_ix ix_list (pv 0) pe_int (fun _ _ => rfl)) pe_int) (fun _ _ => rfl)))
      (pss_cons (ps_set (i := 3) sc__law_next.nd rfl (Or.inl rfl) (pe_op op_mod (pe_op op_pow (pe_op op_add (pe_op op_add (pe_ix ix_list (pv 0) pe_int (fun _ _ => rfl)) (pe_op op_mulW pe_int (pe_ix ix_list (pv 0) pe_int (fun _ _ => rfl)))) pe_int) pe_int) (pv 2)))
      (pss_cons (ps_set (i := 3) sc__law_next.nd rfl (Or.inl rfl) (pe_op op_mod (pe_op op_mulW (pe_op op_add (pv 3) (pe_ix ix_list (pv 0) pe_int (fun _ _ => rfl))) (pe_op op_add (pe_op op_fdivW (pv 3) pe_int) pe_int)) (pv 2)))
      (pss_one (ps_ret (pe_op op_mod (pe_op op_fdivW (pv 3) pe_int) (pv 1))))))))), ?_⟩
    refine run_ws (σ := [some (.ref a), some (.int many), none, none, none]) (g := ⟨H, fun c => c = a⟩) (K := kS a (.src (m + 1)) (fun v => ∃ n : Int, v = .int n ∧ 0 ≤ n ∧ n < many)) (L := [(a, .ob (.lst [.int x, .int y, .int z]), true)]) ?_ (at_cons at_nil ha rfl (by simp) (fun _ => .inr rfl)) (eo_S fun v H' ⟨n, e, h1, h2⟩ he hx => e ▸ kk n H' ⟨h1, h2⟩ he hx)
    refine ws_seq ?_
    refine ws_if ?_
    refine wt_test ?_
    refine wp_op ?_
    refine wp_op ?_
    refine wp_var rfl ?_
    refine wp_c ?_
    refine wr_ixL (seen 0 rfl) (rfl) ?_
    refine wp_c ?_
    refine wr0 ?_
    refine ⟨_, rfl, ?_⟩
    refine ifB (fun hc1 => ?_) (fun hc1 => ?_)
    · try simp only [decide_eq_true_eq, decide_eq_false_iff_not, Bool.and_eq_true, Bool.or_eq_true, Bool.not_eq_true', Bool.and_eq_false_iff, Bool.or_eq_false_iff, Bool.not_eq_false', Bool.not_true, Bool.not_false, Bool.false_or, Bool.true_and, Bool.true_or, Bool.false_and, Bool.and_true, Bool.or_false, reduceCtorEq, not_true_eq_false, not_false_eq_true, decide_true, decide_false] at hc1
      refine ws_seq ?_
      refine ws_set ?_
      refine wp_op ?_
      refine wp_op ?_
      refine wp_var rfl ?_
      refine wp_c ?_
      refine wr_ixL (seen 0 rfl) (rfl) ?_
      refine wp_var rfl ?_
      refine wr_modA (by omega) ?_
      intro r hr0 hr1
      refine ws_seq ?_
      refine ws_asg ?_
      refine wp_op ?_
      refine wp_op ?_
      refine wp_var rfl ?_
      refine wp_c ?_
      refine wr_ixL (seen 0 rfl) (rfl) ?_
      refine wp_var rfl ?_
      refine wr1 (by exact divOk (by omega)) ?_
      refine wg_sub ?_
      refine wp_var rfl ?_
      refine wp_c ?_
      refine wr_setL 0 rfl (rfl) ?_
      refine ws_ret ?_
      refine wp_var rfl ?_
      exact ⟨⟨_, rfl, hr0, hr1⟩, 0, _, rfl, _, _, _, rfl, hy0, hy1, hz0, by omega⟩
    · try simp only [decide_eq_true_eq, decide_eq_false_iff_not, Bool.and_eq_true, Bool.or_eq_true, Bool.not_eq_true', Bool.and_eq_false_iff, Bool.or_eq_false_iff, Bool.not_eq_false', Bool.not_true, Bool.not_false, Bool.false_or, Bool.true_and, Bool.true_or, Bool.false_and, Bool.and_true, Bool.or_false, reduceCtorEq, not_true_eq_false, not_false_eq_true, decide_true, decide_false] at hc1
      refine ws_next ?_
      refine ws_seq ?_
      refine ws_asg ?_
      refine wp_op ?_
      refine wp_op ?_
      refine wp_var rfl ?_
      refine wp_c ?_
      refine wr_ixL (seen 0 rfl) (rfl) ?_
      refine wp_c ?_
      refine wr0 ?_
      refine wg_sub ?_
      refine wp_var rfl ?_
      refine wp_c ?_
      refine wr_setL 0 rfl (rfl) ?_
      refine ws_seq ?_
      obtain ⟨q, hq, hq1, hq2⟩ := prime_at ((z + 1) % 7) (by omega) (by omega)
      refine ws_set ?_
      refine wp_op ?_
      refine wp_lst ?_
      refine wa_cons ?_
      refine wp_c ?_
      refine wa_cons ?_
      refine wp_c ?_
      refine wa_cons ?_
      refine wp_c ?_
      refine wa_cons ?_
      refine wp_c ?_
      refine wa_cons ?_
      refine wp_c ?_
      refine wa_cons ?_
      refine wp_c ?_
      refine wa_cons ?_
      refine wp_c ?_
      refine wa_nil ?_
      refine ⟨by simp, fun p2 => ?_⟩
      refine wp_op ?_
      refine wp_op ?_
      refine wp_var rfl ?_
      refine wp_c ?_
      refine wr_ixL (seen 0 rfl) (rfl) ?_
      refine wp_c ?_
      refine wr1 (by (show (0 : Int) < _; omega)) ?_
      refine wr_ixL (seen 1 rfl) (hq) ?_
      refine ws_seq ?_
      refine ws_set ?_
      refine wp_op ?_
      refine wp_op ?_
      refine wp_op ?_
      refine wp_op ?_
      refine wp_op ?_
      refine wp_var rfl ?_
      refine wp_c ?_
      refine wr_ixL (seen 0 rfl) (rfl) ?_
      refine wp_op ?_
      refine wp_c ?_
      refine wp_op ?_
      refine wp_var rfl ?_
      refine wp_c ?_
      refine wr_ixL (seen 0 rfl) (rfl) ?_
      refine wr1 (by exact mulOk (by omega) (by omega)) ?_
      refine wr0 ?_
      refine wp_c ?_
      refine wr0 ?_
      refine wp_c ?_
      refine wr1 (powOk (by omega)) ?_
      refine wp_var rfl ?_
      refine wr_modA (by omega) ?_
      intro f1 hf1 hf2
      refine ws_seq ?_
      refine ws_set ?_
      refine wp_op ?_
      refine wp_op ?_
      refine wp_op ?_
      refine wp_var rfl ?_
      refine wp_op ?_
      refine wp_var rfl ?_
      refine wp_c ?_
      refine wr_ixL (seen 0 rfl) (rfl) ?_
      refine wr0 ?_
      refine wp_op ?_
      refine wp_op ?_
      refine wp_var rfl ?_
      refine wp_c ?_
      refine wr1 (by exact divOk (by omega)) ?_
      refine wp_c ?_
      refine wr0 ?_
      refine wr1 (by exact mulOk (by omega) (by omega)) ?_
      refine wp_var rfl ?_
      refine wr_modA (by omega) ?_
      intro f2 hf3 hf4
      refine ws_ret ?_
      refine wp_op ?_
      refine wp_op ?_
      refine wp_var rfl ?_
      refine wp_c ?_
      refine wr1 (by exact divOk (by omega)) ?_
      refine wp_var rfl ?_
      refine wr_modA (by omega) ?_
      intro r hr0 hr1
      exact ⟨⟨_, rfl, hr0, hr1⟩, 0, _, rfl, _, _, _, rfl, hy0, hy1, by omega, by omega⟩
theorem sc__law_one : FnScope ["_law_source", "_law_options"] ["_law_source", "_law_options"] (defScope s__law_one) := ⟨rfl, rfl, rfl, by decide +kernel, rfl, by decide +kernel, by decide +kernel⟩
def sp__law_one (CS : Addr) : Sp := fun vs H Q _ => ∃ (a q : Addr) (m : Nat) (xs : List V), vs = [.ref a, .ref q] ∧ EntAt (.src m) H a ∧ H q = some (.lst xs) ∧ a ≠ q ∧ m ≤ 1000000 ∧ (1 ≤ xs.length ∧ xs.length ≤ 1000) ∧ ∀ (v : V) (H' : Hp), v ∈ xs → EntAt (.src (m + 1)) H' a → Exc a H H' → Q v H'
theorem wc__law_one {CS : Addr} {g : Gr} {L : Led} {C : V → Led → Prop} {E : XK} {a q : Addr} {m : Nat} {xs : List V} {bo : Bool} {P : Int → Prop} (i j : Nat) (h : L[i]? = some (a, .src m, true)) (h2 : L[j]? = some (q, .ob (.lst xs), bo)) (hij : i ≠ j) (hm : m ≤ 1000000) (hl : 1 ≤ xs.length ∧ xs.length ≤ 1000)
    (hP : ∀ v ∈ xs, ∃ n : Int, v = .int n ∧ P n) (c : ∀ n : Int, P n → C (.int n) (L.set i (a, .src (m + 1), true))) : Wp g L (fun H Q => sp__law_one CS [.ref a, .ref q] H Q E) C :=
  fun H z Q k => ⟨a, q, m, xs, rfl, z.look h, z.get h2, z.ne h h2 hij, hm, hl, fun v H' hv he hx => by
    obtain ⟨n, e, hn⟩ := hP v hv
    subst e
    exact k _ _ _ (c n hn) (z.draw h hx he)⟩

theorem ok__law_one (T : Top K mg CS) : Ok P w K mg base 2 "_law_one" s__law_one ["_law_source", "_law_options"] (sp__law_one CS) := by
  refine Ok.of T.f__law_one sc__law_one (fun _ _ _ _ _ _ us hl => match us, hl with | [_, _], _ => rfl) (fun vs H Q E h => ?_) (fun f cdv A outer s H vs Q E hr h => ?_)
  · obtain ⟨a, q, m, xs, rfl, _⟩ := h
    rfl
  · obtain ⟨a, q, m, xs, rfl, ⟨o, ha, he⟩, hq, hne, hm, hl, kk⟩ := h
    refine ⟨_, (pss_one (ps_ret (pe_ix ix_list (pv 1) (pe_own (ok__law_next T) (hr.mono (by decide)) rfl (pa_cons (pv 0) (pa_cons (pe_callB c_len (by rfl) T.b_len PySem.boot_len (pa_cons (pv 1) pa_nil)) pa_nil))) (fun _ _ => rfl)))), ?_⟩
    refine run_ws (σ := [some (.ref a), some (.ref q)]) (g := ⟨H, fun c => c = a⟩) (K := kM a (.src (m + 1)) 0 (fun v => v ∈ xs)) (L := [(a, .src m, true), (q, .ob (.lst xs), false)]) ?_ (at_cons (at_one hq) ha he (by simpa using hne) (fun _ => .inr rfl)) (eo_M fun v H' r he hx => kk v H' r he hx)
    refine ws_ret ?_
    refine wp_op ?_
    refine wp_var rfl ?_
    refine wp_call ?_
    refine wa_cons ?_
    refine wp_var rfl ?_
    refine wa_cons ?_
    refine wp_cb ?_
    refine wa_cons ?_
    refine wp_var rfl ?_
    refine wa_nil ?_
    refine wc_len (seen 1 rfl) ?_
    refine wa_nil ?_
    refine wc__law_next 0 rfl hm (by omega) ?_
    intro nx hnx
    obtain ⟨v, hv, hvm⟩ := atI_in hnx.1 hnx.2
    refine wr_ixL (seen 1 rfl) (hv) ?_
    exact ⟨hvm, rfl⟩
theorem sc__law_scheme : FnScope ["_law_source", "_law_radix"] ["_law_source"] (defScope s__law_scheme) := ⟨rfl, rfl, rfl, by decide +kernel, rfl, by decide +kernel, by decide +kernel⟩
def sp__law_scheme (CS : Addr) : Sp := fun vs H Q _ => ∃ (a : Addr) (m : Nat), vs = [.ref a] ∧ EntAt (.src m) H a ∧ m ≤ 100000 ∧ ∀ (b f : Int) (p : Addr) (H' : Hp), (2 ≤ b ∧ b ≤ 1000 ∧ 1 ≤ f ∧ f ≤ 1000000) → H p = none → H' p = some (.tup [.int b, .int f]) → EntAt (.src (m + 3)) H' a → Exc a H H' → Q (.ref p) H'
theorem wc__law_scheme {CS : Addr} {g : Gr} {L : Led} {C : V → Led → Prop} {E : XK} {a : Addr} {m : Nat} (i : Nat) (h : L[i]? = some (a, .src m, true)) (hm : m ≤ 100000) (c : ∀ (b f : Int), (2 ≤ b ∧ b ≤ 1000 ∧ 1 ≤ f ∧ f ≤ 1000000) → ∀ p : Addr, C (.ref p) ((L.set i (a, .src (m + 3), true)) ++ [(p, .ob (.tup [.int b, .int f]), true)])) : Wp g L (fun H Q => sp__law_scheme CS [.ref a] H Q E) C := fun H z Q q => ⟨a, m, rfl, z.look h, hm, fun b f p H' hpost hn hp he hx => q _ _ _ (c b f hpost p) (z.draw_new h hx he hn hp)⟩
theorem ok__law_scheme (T : Top K mg CS) : Ok P w K mg base 3 "_law_scheme" s__law_scheme ["_law_source"] (sp__law_scheme CS) := by
  refine Ok.of T.f__law_scheme sc__law_scheme (fun _ _ _ _ _ _ us hl => match us, hl with | [_], _ => rfl) (fun vs H Q E h => ?_) (fun f cdv A outer s H vs Q E hr h => ?_)
  · obtain ⟨a, m, rfl, _⟩ := h
    rfl
  · obtain ⟨a, m, rfl, ⟨o_, ha, he⟩, hm, kk⟩ := h
    refine ⟨_, (pss_cons (ps_set (i := 1) sc__law_scheme.nd rfl (Or.inl rfl) (pe_own (ok__law_one T) (hr.mono (by decide)) rfl (pa_cons (pv 0) (pa_cons (pe_lst (pa_cons pe_int (pa_cons pe_int (pa_cons pe_int (pa_cons pe_int (pa_cons pe_int (pa_cons pe_int (pa_cons pe_int pa_nil)))))))) pa_nil))))
      (pss_one (ps_ret (pe_tup (pa_cons (pv 1) (pa_cons (pe_own (ok__law_one T) (hr.mono (by decide)) rfl (pa_cons (pv 0) (pa_cons (pe_lst (pa_cons pe_int (pa_cons pe_int (pa_cons pe_int (pa_cons pe_int (pa_cons (pe_op op_add pe_int (pe_own (ok__law_next T) (hr.mono (by decide)) rfl (pa_cons (pv 0) (pa_cons pe_int pa_nil)))) (pa_cons (pe_op op_pow pe_int pe_int) pa_nil))))))) pa_nil))) pa_nil)))))), ?_⟩
    refine run_ws (σ := [some (.ref a), none]) (g := ⟨H, fun c => c = a⟩) (K := kDN Ent.src a m 3 (fun o => ∃ (b f : Int), o = (.tup [.int b, .int f]) ∧ (2 ≤ b ∧ b ≤ 1000 ∧ 1 ≤ f ∧ f ≤ 1000000))) (L := [(a, .src m, true)]) ?_ (at_cons at_nil ha he (by simp) (fun _ => .inr rfl)) (eo_DN (fun hk x => src_mono hk x) fun p H' o ⟨b, f, e, hpost⟩ hn hp he hx => kk b f p H' hpost hn (by rw [hp, e]) he hx)
    refine ws_seq ?_
    refine ws_set ?_
    refine wp_call ?_
    refine wa_cons ?_
    refine wp_var rfl ?_
    refine wa_cons ?_
    refine wp_lst ?_
    refine wa_cons ?_
    refine wp_c ?_
    refine wa_cons ?_
    refine wp_c ?_
    refine wa_cons ?_
    refine wp_c ?_
    refine wa_cons ?_
    refine wp_c ?_
    refine wa_cons ?_
    refine wp_c ?_
    refine wa_cons ?_
    refine wp_c ?_
    refine wa_cons ?_
    refine wp_c ?_
    refine wa_nil ?_
    refine ⟨by simp, fun p1 => ?_⟩
    refine wa_nil ?_
    refine wc__law_one (P := fun n => 2 ≤ n ∧ n ≤ 1000) 0 1 rfl rfl (by decide) (by omega) (by simp) (by (intro v hv; simp only [List.mem_cons, List.not_mem_nil, or_false] at hv; repeat' (rcases hv with hv | hv)) <;> exact ⟨_, rfl, by first | omega | decide⟩) ?_
    intro nB hnB
    refine ws_ret ?_
    refine wp_tup ?_
    refine wa_cons ?_
    refine wp_var rfl ?_
    refine wa_cons ?_
    refine wp_call ?_
    refine wa_cons ?_
    refine wp_var rfl ?_
    refine wa_cons ?_
    refine wp_lst ?_
    refine wa_cons ?_
    refine wp_c ?_
    refine wa_cons ?_
    refine wp_c ?_
    refine wa_cons ?_
    refine wp_c ?_
    refine wa_cons ?_
    refine wp_c ?_
    refine wa_cons ?_
    refine wp_op ?_
    refine wp_c ?_
    refine wp_call ?_
    refine wa_cons ?_
    refine wp_var rfl ?_
    refine wa_cons ?_
    refine wp_c ?_
    refine wa_nil ?_
    refine wc__law_next 0 rfl (by omega) (by omega) ?_
    intro n2 hn2
    refine wr0 ?_
    refine wa_cons ?_
    refine wp_op ?_
    refine wp_c ?_
    refine wp_c ?_
    refine wr_powc (r := 1000000) (powOk (by decide)) (by decide) ?_
    refine wa_nil ?_
    refine ⟨by simp, fun p3 => ?_⟩
    refine wa_nil ?_
    refine wc__law_one (P := fun n => 1 ≤ n ∧ n ≤ 1000000) 0 2 rfl rfl (by decide) (by omega) (by simp) (by (intro v hv; simp only [List.mem_cons, List.not_mem_nil, or_false] at hv; repeat' (rcases hv with hv | hv)) <;> exact ⟨_, rfl, by first | omega | decide⟩) ?_
    intro nF hnF
    refine wa_nil ?_
    refine ⟨by simp, fun p4 => ?_⟩
    exact ⟨_, 2, _, rfl, rfl, ⟨_, _, rfl, by omega⟩, 3, by decide, rfl⟩
theorem sc_is_integer : FnScope ["value"] ["value"] (defScope s_is_integer) := ⟨rfl, rfl, rfl, by decide +kernel, rfl, by decide +kernel, by decide +kernel⟩
def sp_is_integer (CS : Addr) : Sp := fun vs H Q _ => ∃ (n : Int), (vs = [.int n]) ∧ ∀ (H' : Hp), Same H H' → Q (.bl true) H'
theorem wc_is_integer {CS : Addr} {g : Gr} {L : Led} {C : V → Led → Prop} {E : XK} {n : Int} (c : C (.bl true) L) : Wp g L (fun H Q => sp_is_integer CS [.int n] H Q E) C := fun H z Q q => ⟨n, rfl, fun H' s' => q _ _ _ (c) (z.same s')⟩
theorem ok_is_integer (T : Top K mg CS) : Ok P w K mg base 1 "is_integer" s_is_integer ["value"] (sp_is_integer CS) := by
  refine Ok.of T.f_is_integer sc_is_integer (fun _ _ _ _ _ _ us hl => match us, hl with | [_], _ => rfl) (fun vs H Q E h => ?_) (fun f cdv A outer s H vs Q E hr h => ?_)
  · obtain ⟨n, rfl, _⟩ := h
    rfl
  · obtain ⟨n, rfl, kk⟩ := h
    refine ⟨_, (pss_one (ps_ret (pe_and (pe_callB call_isi (by rfl) T.b_isinstance (by decide +kernel) (pa_cons (pv 0) (pa_cons (pe_tyint rfl T.b_int) pa_nil))) (pe_one (pe_not (pe_callB call_isi (by rfl) T.b_isinstance (by decide +kernel) (pa_cons (pv 0) (pa_cons (pe_tybool rfl T.b_bool) pa_nil)))))))), ?_⟩
    refine run_ws (σ := [some (.int n)]) (K := kV (fun v => v = (.bl true))) (L := []) ?_ at_nil (eo_V fun v H' e s' => e ▸ kk H' s')
    refine ws_ret ?_
    refine wp_andVP ?_
    refine wp_cb ?_
    refine wa_cons ?_
    refine wp_var rfl ?_
    refine wa_cons ?_
    refine wp_c ?_
    refine wa_nil ?_
    refine wc_isi_int ?_
    refine ⟨_, rfl, ?_⟩
    apply andK
    · intro hb1
      try simp only [decide_eq_true_eq, decide_eq_false_iff_not, Bool.and_eq_true, Bool.or_eq_true, Bool.not_eq_true', Bool.and_eq_false_iff, Bool.or_eq_false_iff, Bool.not_eq_false', Bool.not_true, Bool.not_false, Bool.false_or, Bool.true_and, Bool.true_or, Bool.false_and, Bool.and_true, Bool.or_false, reduceCtorEq, not_true_eq_false, not_false_eq_true, decide_true, decide_false] at hb1
      refine wp_notV ?_
      refine wp_cb ?_
      refine wa_cons ?_
      refine wp_var rfl ?_
      refine wa_cons ?_
      refine wp_c ?_
      refine wa_nil ?_
      refine wc_isi_bool ?_
      refine ⟨_, rfl, ?_⟩
      exact ⟨rfl, rfl⟩
    exact rfl
theorem sc_is_between : FnScope ["value", "low", "high"] ["value", "low", "high"] (defScope s_is_between) := ⟨rfl, rfl, rfl, by decide +kernel, rfl, by decide +kernel, by decide +kernel⟩
def sp_is_between (CS : Addr) : Sp := fun vs H Q _ => ∃ (n lo hi : Int), (vs = [.int n, .int lo, .int hi]) ∧ ∀ (H' : Hp), Same H H' → Q (.bl (decide (lo ≤ n) && decide (n ≤ hi))) H'
theorem wc_is_between {CS : Addr} {g : Gr} {L : Led} {C : V → Led → Prop} {E : XK} {n lo hi : Int} (c : C (.bl (decide (lo ≤ n) && decide (n ≤ hi))) L) : Wp g L (fun H Q => sp_is_between CS [.int n, .int lo, .int hi] H Q E) C := fun H z Q q => ⟨n, lo, hi, rfl, fun H' s' => q _ _ _ (c) (z.same s')⟩
theorem ok_is_between (T : Top K mg CS) : Ok P w K mg base 2 "is_between" s_is_between ["value", "low", "high"] (sp_is_between CS) := by
  refine Ok.of T.f_is_between sc_is_between (fun _ _ _ _ _ _ us hl => match us, hl with | [_, _, _], _ => rfl) (fun vs H Q E h => ?_) (fun f cdv A outer s H vs Q E hr h => ?_)
  · obtain ⟨n, lo, hi, rfl, _⟩ := h
    rfl
  · obtain ⟨n, lo, hi, rfl, kk⟩ := h
    refine ⟨_, (pss_one (ps_ret (pe_and (pe_own (ok_is_integer T) (hr.mono (by decide)) rfl (pa_cons (pv 0) pa_nil)) (pe_one (pe_chain op_le op_le (pv 1) (pv 0) (pv 2)))))), ?_⟩
    refine run_ws (σ := [some (.int n), some (.int lo), some (.int hi)]) (K := kV (fun v => v = (.bl (decide (lo ≤ n) && decide (n ≤ hi))))) (L := []) ?_ at_nil (eo_V fun v H' e s' => e ▸ kk H' s')
    refine ws_ret ?_
    refine wp_andVP ?_
    refine wp_call ?_
    refine wa_cons ?_
    refine wp_var rfl ?_
    refine wa_nil ?_
    refine wc_is_integer ?_
    refine ⟨_, rfl, ?_⟩
    apply andK
    · intro hb1
      try simp only [decide_eq_true_eq, decide_eq_false_iff_not, Bool.and_eq_true, Bool.or_eq_true, Bool.not_eq_true', Bool.and_eq_false_iff, Bool.or_eq_false_iff, Bool.not_eq_false', Bool.not_true, Bool.not_false, Bool.false_or, Bool.true_and, Bool.true_or, Bool.false_and, Bool.and_true, Bool.or_false, reduceCtorEq, not_true_eq_false, not_false_eq_true, decide_true, decide_false] at hb1
      refine wp_chainP ?_
      refine wp_var rfl ?_
      refine wp_var rfl ?_
      refine wr0 ?_
      refine ⟨_, rfl, ?_⟩
      apply andK
      · intro _
        refine wp_var rfl ?_
        refine wr0 ?_
        exact ⟨rfl, rfl⟩
      exact ⟨rfl, rfl⟩
    exact rfl
theorem sc_Scheme_init : FnScope ["self", "base", "factor"] ["self", "base", "factor"] (defScope s_Scheme_init) := ⟨rfl, rfl, rfl, by decide +kernel, rfl, by decide +kernel, by decide +kernel⟩


theorem ok_Scheme_init (T : Top K mg CS) : OkC P w K mg base "Scheme" CS 3 "Scheme.__init__" s_Scheme_init ["self", "base", "factor"] (sp_Scheme_init CS) := by
  refine OkC.of T.f_Scheme_init sc_Scheme_init (fun _ _ _ _ _ _ us hl => match us, hl with | [_, _, _], _ => rfl) (fun vs H Q E h => ?_) (fun f cdv A outer s H vs Q E hr h => ?_)
  · obtain ⟨p, dx, b, f, rfl, _⟩ := h
    rfl
  · obtain ⟨p, dx, b, f, rfl, hp, hs, kk⟩ := h
    unfold SchOk at hs
    refine ⟨_, (pss_cons (ps_if (pt_not (pt_val (pe_own (ok_is_between T) (hr.mono (by decide)) rfl (pa_cons (pv 1) (pa_cons pe_int (pa_cons (pe_const rfl T.c_MOST_BASE) pa_nil)))))) (pss_one ps_never) pss_nil)
      (pss_cons (ps_if (pt_not (pt_val (pe_own (ok_is_between T) (hr.mono (by decide)) rfl (pa_cons (pv 2) (pa_cons pe_int (pa_cons (pe_const rfl T.c_MOST_FACTOR) pa_nil)))))) (pss_one ps_never) pss_nil)
      (pss_cons (ps_fld (pv 0) (pv 1) rfl)
      (pss_one (ps_fld (pv 0) (pv 2) rfl))))), ?_⟩
    refine run_ws (σ := [some (.ref p), some (.int b), some (.int f)]) (g := ⟨H, fun c => c = p⟩) (L := [(p, .ob (.ins CS dx []), true)]) (K := { nx := fun _ L => L = [(p, .ob (.ins CS dx (scF b f)), true)], rt := fun _ _ => False }) ?_ (at_cons at_nil hp rfl (by simp) (fun _ => .inr rfl)) ⟨fun σ L H' e z => ?_, fun _ _ _ e _ => e.elim, fun _ _ _ e _ => e.elim, fun _ _ _ e _ => e.elim⟩
    rotate_left
    · have e : L = [(p, .ob (.ins CS dx (scF b f)), true)] := e
      subst e
      exact kk H' (z.get (i := 0) rfl) fun q o h hn => z.old q o h hn
    refine ws_seq ?_
    refine ws_if ?_
    refine wt_not ?_
    refine wt_B ?_
    refine wp_call ?_
    refine wa_cons ?_
    refine wp_var rfl ?_
    refine wa_cons ?_
    refine wp_c ?_
    refine wa_cons ?_
    refine wp_c ?_
    refine wa_nil ?_
    refine wc_is_between ?_
    refine ⟨_, rfl, ?_⟩
    refine ifB (fun hc1 => ?_) (fun hc1 => ?_)
    · try simp only [decide_eq_true_eq, decide_eq_false_iff_not, Bool.and_eq_true, Bool.or_eq_true, Bool.not_eq_true', Bool.and_eq_false_iff, Bool.or_eq_false_iff, Bool.not_eq_false', Bool.not_true, Bool.not_false, Bool.false_or, Bool.true_and, Bool.true_or, Bool.false_and, Bool.and_true, Bool.or_false, reduceCtorEq, not_true_eq_false, not_false_eq_true, decide_true, decide_false] at hc1
      exact ws_never (by first | omega | (simp at *; done) | (exfalso; omega) | (simp at *; omega))
    · try simp only [decide_eq_true_eq, decide_eq_false_iff_not, Bool.and_eq_true, Bool.or_eq_true, Bool.not_eq_true', Bool.and_eq_false_iff, Bool.or_eq_false_iff, Bool.not_eq_false', Bool.not_true, Bool.not_false, Bool.false_or, Bool.true_and, Bool.true_or, Bool.false_and, Bool.and_true, Bool.or_false, reduceCtorEq, not_true_eq_false, not_false_eq_true, decide_true, decide_false] at hc1
      refine ws_next ?_
      refine ws_seq ?_
      refine ws_if ?_
      refine wt_not ?_
      refine wt_B ?_
      refine wp_call ?_
      refine wa_cons ?_
      refine wp_var rfl ?_
      refine wa_cons ?_
      refine wp_c ?_
      refine wa_cons ?_
      refine wp_c ?_
      refine wa_nil ?_
      refine wc_is_between ?_
      refine ⟨_, rfl, ?_⟩
      refine ifB (fun hc2 => ?_) (fun hc2 => ?_)
      · try simp only [decide_eq_true_eq, decide_eq_false_iff_not, Bool.and_eq_true, Bool.or_eq_true, Bool.not_eq_true', Bool.and_eq_false_iff, Bool.or_eq_false_iff, Bool.not_eq_false', Bool.not_true, Bool.not_false, Bool.false_or, Bool.true_and, Bool.true_or, Bool.false_and, Bool.and_true, Bool.or_false, reduceCtorEq, not_true_eq_false, not_false_eq_true, decide_true, decide_false] at hc2
        exact ws_never (by first | omega | (simp at *; done) | (exfalso; omega) | (simp at *; omega))
      · try simp only [decide_eq_true_eq, decide_eq_false_iff_not, Bool.and_eq_true, Bool.or_eq_true, Bool.not_eq_true', Bool.and_eq_false_iff, Bool.or_eq_false_iff, Bool.not_eq_false', Bool.not_true, Bool.not_false, Bool.false_or, Bool.true_and, Bool.true_or, Bool.false_and, Bool.and_true, Bool.or_false, reduceCtorEq, not_true_eq_false, not_false_eq_true, decide_true, decide_false] at hc2
        refine ws_next ?_
        refine ws_seq ?_
        refine ws_fld 0 T.cl_Scheme T.n_Scheme_radix ?_
        refine wp_var rfl ?_
        refine wp_var rfl ?_
        refine ⟨_, _, _, rfl, rfl, by first | decide | (simp [putF]; done) | (simp [putF]; split <;> simp), ?_⟩
        refine ws_fld 0 T.cl_Scheme T.n_Scheme_multiple ?_
        refine wp_var rfl ?_
        refine wp_var rfl ?_
        refine ⟨_, _, _, rfl, rfl, by first | decide | (simp [putF]; done) | (simp [putF]; split <;> simp), ?_⟩
        exact rfl
theorem sc__law_cell_at : FnScope ["_law_script", "_law_k"] ["_law_script", "_law_k"] (defScope s__law_cell_at) := ⟨rfl, rfl, rfl, by decide +kernel, rfl, by decide +kernel, by decide +kernel⟩
def sp__law_cell_at (K : PySem.W.Frag) (CS : Addr) : Sp := fun vs H Q _ => ∃ (a : Addr) (ns : List Int) (k : Int), vs = [.ref a, .int k] ∧ SqL K H a (ns.map V.int) ∧ 0 ≤ k ∧ ∀ (n : Int) (H' : Hp), Same H H' → Q (.int n) H'
theorem wc__law_cell_at {K : PySem.W.Frag} {CS : Addr} {g : Gr} {L : Led} {C : V → Led → Prop} {E : XK} {a : Addr} {ns : List Int} {k : Int} (s : Seen K g L a (ns.map V.int)) (hk : 0 ≤ k) (c : ∀ n : Int, C (.int n) L) : Wp g L (fun H Q => sp__law_cell_at K CS [.ref a, .int k] H Q E) C :=
  fun H z Q q => ⟨a, ns, k, rfl, s.at_ H z, hk, fun n H' s' => q _ _ _ (c n) (z.same s')⟩

theorem ok__law_cell_at (T : Top K mg CS) : Ok P w K mg base 1 "_law_cell_at" s__law_cell_at ["_law_script", "_law_k"] (sp__law_cell_at K CS) := by
  refine Ok.of T.f__law_cell_at sc__law_cell_at (fun _ _ _ _ _ _ us hl => match us, hl with | [_, _], _ => rfl) (fun vs H Q E h => ?_) (fun f cdv A outer s H vs Q E hr h => ?_)
  · obtain ⟨a, ns, k, rfl, _⟩ := h
    rfl
  · obtain ⟨a, ns, k, rfl, hS0, hk, kk⟩ := h
    have hS : ∀ {L : Led}, Seen K ⟨H, fun _ => False⟩ L a (ns.map V.int) := seen0 hS0 (fun z => z)
    refine ⟨_, (pss_cons (ps_if (pt_cmpR op_lt (pv 1) (pe_callB c_len (by rfl) T.b_len PySem.boot_len (pa_cons (pv 0) pa_nil)) (nomark _)) (pss_one (ps_ret (pe_ix ix_list (pv 0) (pv 1) (fun _ _ => rfl)))) pss_nil)
      (pss_one (ps_ret pe_int))), ?_⟩
    refine run_ws (σ := [some (.ref a), some (.int k)]) (K := kV (fun v => ∃ n : Int, v = .int n)) (L := []) ?_ at_nil (eo_V fun v H' ⟨n, e⟩ s' => e ▸ kk n H' s')
    refine ws_seq ?_
    refine ws_if ?_
    refine wt_test ?_
    refine wp_op ?_
    refine wp_var rfl ?_
    refine wp_cb ?_
    refine wa_cons ?_
    refine wp_var rfl ?_
    refine wa_nil ?_
    refine wc_len hS ?_
    refine wr0 ?_
    refine ⟨_, rfl, ?_⟩
    refine ifB (fun hc1 => ?_) (fun hc1 => ?_)
    · try simp only [decide_eq_true_eq, decide_eq_false_iff_not, Bool.and_eq_true, Bool.or_eq_true, Bool.not_eq_true', Bool.and_eq_false_iff, Bool.or_eq_false_iff, Bool.not_eq_false', Bool.not_true, Bool.not_false, Bool.false_or, Bool.true_and, Bool.true_or, Bool.false_and, Bool.and_true, Bool.or_false, reduceCtorEq, not_true_eq_false, not_false_eq_true, decide_true, decide_false] at hc1
      obtain ⟨v, hv, hvm⟩ := atI_in hk hc1
      obtain ⟨n, rfl⟩ := ints_all v hvm
      refine ws_ret ?_
      refine wp_op ?_
      refine wp_var rfl ?_
      refine wp_var rfl ?_
      refine wr_ixL hS (hv) ?_
      exact ⟨_, rfl⟩
    · try simp only [decide_eq_true_eq, decide_eq_false_iff_not, Bool.and_eq_true, Bool.or_eq_true, Bool.not_eq_true', Bool.and_eq_false_iff, Bool.or_eq_false_iff, Bool.not_eq_false', Bool.not_true, Bool.not_false, Bool.false_or, Bool.true_and, Bool.true_or, Bool.false_and, Bool.and_true, Bool.or_false, reduceCtorEq, not_true_eq_false, not_false_eq_true, decide_true, decide_false] at hc1
      refine ws_next ?_
      refine ws_ret ?_
      refine wp_c ?_
      exact ⟨_, rfl⟩
theorem sc_check_number : FnScope ["number"] ["number"] (defScope s_check_number) := ⟨rfl, rfl, rfl, by decide +kernel, rfl, by decide +kernel, by decide +kernel⟩
def sp_check_number (CS : Addr) : Sp := fun vs H Q _ => ∃ (n : Int), (vs = [.int n]) ∧ (0 ≤ n) ∧ ∀ (H' : Hp), Same H H' → Q .non H'
theorem wc_check_number {CS : Addr} {g : Gr} {L : Led} {C : V → Led → Prop} {E : XK} {n : Int} (hpre : 0 ≤ n) (c : C .non L) : Wp g L (fun H Q => sp_check_number CS [.int n] H Q E) C := fun H z Q q => ⟨n, rfl, hpre, fun H' s' => q _ _ _ (c) (z.same s')⟩
theorem ok_check_number (T : Top K mg CS) : Ok P w K mg base 2 "check_number" s_check_number ["number"] (sp_check_number CS) := by
  refine Ok.of T.f_check_number sc_check_number (fun _ _ _ _ _ _ us hl => match us, hl with | [_], _ => rfl) (fun vs H Q E h => ?_) (fun f cdv A outer s H vs Q E hr h => ?_)
  · obtain ⟨n, rfl, _⟩ := h
    rfl
  · obtain ⟨n, rfl, hpre, kk⟩ := h
    refine ⟨_, (pss_one (ps_if (PW.pt (pw_or (pt_not (pt_val (pe_own (ok_is_integer T) (hr.mono (by decide)) rfl (pa_cons (pv 0) pa_nil)))) (pw_or1 (pt_cmpR op_lt (pv 0) pe_int (nomark _))))) (pss_one ps_never) pss_nil)), ?_⟩
    refine run_ws (σ := [some (.int n)]) (K := kV (fun v => v = .non)) (L := []) ?_ at_nil (eo_V fun v H' e s' => e ▸ kk H' s')
    refine ws_if ?_
    refine wt_orP ?_
    refine wt_not ?_
    refine wt_B ?_
    refine wp_call ?_
    refine wa_cons ?_
    refine wp_var rfl ?_
    refine wa_nil ?_
    refine wc_is_integer ?_
    refine ⟨_, rfl, ?_⟩
    apply andK
    · intro hb1
      try simp only [decide_eq_true_eq, decide_eq_false_iff_not, Bool.and_eq_true, Bool.or_eq_true, Bool.not_eq_true', Bool.and_eq_false_iff, Bool.or_eq_false_iff, Bool.not_eq_false', Bool.not_true, Bool.not_false, Bool.false_or, Bool.true_and, Bool.true_or, Bool.false_and, Bool.and_true, Bool.or_false, reduceCtorEq, not_true_eq_false, not_false_eq_true, decide_true, decide_false] at hb1
      refine wt_test ?_
      refine wp_op ?_
      refine wp_var rfl ?_
      refine wp_c ?_
      refine wr0 ?_
      refine ⟨_, rfl, ?_⟩
      exact ⟨rfl, rfl⟩
    refine ifB (fun hc2 => ?_) (fun hc2 => ?_)
    · try simp only [decide_eq_true_eq, decide_eq_false_iff_not, Bool.and_eq_true, Bool.or_eq_true, Bool.not_eq_true', Bool.and_eq_false_iff, Bool.or_eq_false_iff, Bool.not_eq_false', Bool.not_true, Bool.not_false, Bool.false_or, Bool.true_and, Bool.true_or, Bool.false_and, Bool.and_true, Bool.or_false, reduceCtorEq, not_true_eq_false, not_false_eq_true, decide_true, decide_false] at hc2
      exact ws_never (by first | omega | (simp at *; done) | (exfalso; omega) | (simp at *; omega))
    · try simp only [decide_eq_true_eq, decide_eq_false_iff_not, Bool.and_eq_true, Bool.or_eq_true, Bool.not_eq_true', Bool.and_eq_false_iff, Bool.or_eq_false_iff, Bool.not_eq_false', Bool.not_true, Bool.not_false, Bool.false_or, Bool.true_and, Bool.true_or, Bool.false_and, Bool.and_true, Bool.or_false, reduceCtorEq, not_true_eq_false, not_false_eq_true, decide_true, decide_false] at hc2
      refine ws_next ?_
      exact rfl
theorem sc_Scheme_unit : FnScope ["self", "number", "unit"] ["self", "number"] (defScope s_Scheme_unit) := ⟨rfl, rfl, rfl, by decide +kernel, rfl, by decide +kernel, by decide +kernel⟩
def sp_Scheme_unit (CS : Addr) : Sp := fun vs H Q _ => ∃ (s dx : Addr) (b f : Int) (n : Int), (vs = [.ref s, .int n]) ∧ (H s = some (.ins CS dx (scF b f))) ∧ (SchOk b f ∧ 1 ≤ n ∧ n ≤ 10 ^ 60) ∧ ∀ (H' : Hp), Same H H' → Q (.int (Ma.unitF b n)) H'
theorem wc_Scheme_unit {CS : Addr} {g : Gr} {L : Led} {C : V → Led → Prop} {E : XK} {s dx : Addr} {b f : Int} {n : Int} {bo0 : Bool} (i0 : Nat) (h0 : L[i0]? = some (s, .ob (.ins CS dx (scF b f)), bo0)) (hpre : SchOk b f ∧ 1 ≤ n ∧ n ≤ 10 ^ 60) (c : C (.int (Ma.unitF b n)) L) : Wp g L (fun H Q => sp_Scheme_unit CS [.ref s, .int n] H Q E) C := fun H z Q q => ⟨s, dx, b, f, n, rfl, z.get h0, hpre, fun H' s' => q _ _ _ (c) (z.same s')⟩
theorem ok_Scheme_unit (T : Top K mg CS) : OkM P w K mg base CS 1 "unit" "Scheme.unit" s_Scheme_unit ["self", "number"] (sp_Scheme_unit CS) := by
  refine OkM.of T.f_Scheme_unit sc_Scheme_unit (fun _ _ _ _ _ _ us hl => match us, hl with | [_, _], _ => rfl) (fun vs H Q E h => ?_) (fun f cdv A outer s H vs Q E hr h => ?_)
  · obtain ⟨s, dx, b, f, n, rfl, _⟩ := h
    rfl
  · obtain ⟨s, dx, b, f, n, rfl, hh0, hpre, kk⟩ := h
    have hs := hpre.1
    unfold SchOk at hs
    refine ⟨_, (pss_cons (ps_set (i := 2) sc_Scheme_unit.nd rfl (Or.inl rfl) pe_int)
      (pss_cons (ps_while PassesOwn.never (pt_cmpR op_eq (pe_op op_mod (pv 1) (pe_op op_mulW (pv 2) (pe_fld (pv 0) rfl))) pe_int (nomark _)) (pss_one (ps_set (i := 2) sc_Scheme_unit.nd rfl (Or.inl rfl) (pe_op op_mulW (pv 2) (pe_fld (pv 0) rfl)))))
      (pss_one (ps_ret (pv 2))))), ?_⟩
    refine run_ws (σ := [some (.ref s), some (.int n), none]) (K := kV (fun v => v = (.int (Ma.unitF b n)))) (L := [(s, .ob (.ins CS dx (scF b f)), false)]) ?_ (at_one hh0) (eo_V fun v H' e s' => e ▸ kk H' s')
    refine ws_seq ?_
    refine ws_set ?_
    refine wp_c ?_
    refine ws_seq ?_
    refine ws_whileN (fun k σ L => ∃ u : Int, σ = [some (.ref s), some (.int n), some (.int u)] ∧ L = [(s, .ob (.ins CS dx (scF b f)), false)] ∧ Ma.IsPow b u ∧ u ∣ n ∧ k = (n - u).toNat) ?_ ?_
    · exact ⟨_, 1, rfl, rfl, Ma.IsPow.one b, Int.one_dvd n, rfl⟩
    rintro mm σ L ⟨u, rfl, rfl, hp, hd, hk⟩
    have hu1 := hp.pos (b := b) (by omega)
    have hu2 := Int.le_of_dvd (by omega) hd
    refine wt_test ?_
    refine wp_op ?_
    refine wp_op ?_
    refine wp_var rfl ?_
    refine wp_op ?_
    refine wp_var rfl ?_
    refine wp_fld 0 T.cl_Scheme T.n_Scheme_radix ?_
    refine wp_var rfl ?_
    refine ⟨_, _, _, _, _, rfl, rfl, scF_radix _ _, ?_⟩
    refine wr1 (by exact mulOk (by omega) (by omega)) ?_
    refine wr1 (Int.mul_pos (by omega) (by omega)) ?_
    refine wp_c ?_
    refine wr_eqI ?_
    refine ⟨_, rfl, ?_⟩
    refine ifB (fun hc => ?_) (fun hc => ?_)
    · try simp only [decide_eq_true_eq, decide_eq_false_iff_not, Bool.and_eq_true, Bool.or_eq_true, Bool.not_eq_true', Bool.and_eq_false_iff, Bool.or_eq_false_iff, Bool.not_eq_false', Bool.not_true, Bool.not_false, Bool.false_or, Bool.true_and, Bool.true_or, Bool.false_and, Bool.and_true, Bool.or_false, reduceCtorEq, not_true_eq_false, not_false_eq_true, decide_true, decide_false] at hc
      refine ws_set ?_
      refine wp_op ?_
      refine wp_var rfl ?_
      refine wp_fld 0 T.cl_Scheme T.n_Scheme_radix ?_
      refine wp_var rfl ?_
      refine ⟨_, _, _, _, _, rfl, rfl, scF_radix _ _, ?_⟩
      refine wr1 (by exact mulOk (by omega) (by omega)) ?_
      have h2 : u * 2 ≤ u * b := Int.mul_le_mul_of_nonneg_left (by omega) (by omega)
      have hd2 : u * b ∣ n := Int.dvd_of_emod_eq_zero hc
      have hu3 := Int.le_of_dvd (by omega) hd2
      exact ⟨_, _, by omega, ⟨u * b, rfl, rfl, hp.mul, hd2, rfl⟩, List.prefix_refl _⟩
    · try simp only [decide_eq_true_eq, decide_eq_false_iff_not, Bool.and_eq_true, Bool.or_eq_true, Bool.not_eq_true', Bool.and_eq_false_iff, Bool.or_eq_false_iff, Bool.not_eq_false', Bool.not_true, Bool.not_false, Bool.false_or, Bool.true_and, Bool.true_or, Bool.false_and, Bool.and_true, Bool.or_false, reduceCtorEq, not_true_eq_false, not_false_eq_true, decide_true, decide_false] at hc
      refine ws_ret ?_
      refine wp_var rfl ?_
      refine congrArg V.int (Ma.IsUnit.eq (by omega) (by omega) ⟨hp, hd, fun q => hc (Int.emod_eq_zero_of_dvd q)⟩)
theorem sc_Scheme_parent_of : FnScope ["self", "number", "wide"] ["self", "number"] (defScope s_Scheme_parent_of) := ⟨rfl, rfl, rfl, by decide +kernel, rfl, by decide +kernel, by decide +kernel⟩
def sp_Scheme_parent_of (CS : Addr) : Sp := fun vs H Q _ => ∃ (s dx : Addr) (b f : Int) (n : Int), (vs = [.ref s, .int n]) ∧ (H s = some (.ins CS dx (scF b f))) ∧ (SchOk b f ∧ 0 ≤ n ∧ n ≤ 10 ^ 60) ∧ ∀ (H' : Hp), Same H H' → Q (if n = 0 then .non else (.int (Ma.parF b n))) H'
theorem wc_Scheme_parent_of {CS : Addr} {g : Gr} {L : Led} {C : V → Led → Prop} {E : XK} {s dx : Addr} {b f : Int} {n : Int} {bo0 : Bool} (i0 : Nat) (h0 : L[i0]? = some (s, .ob (.ins CS dx (scF b f)), bo0)) (hpre : SchOk b f ∧ 0 ≤ n ∧ n ≤ 10 ^ 60) (c : C (if n = 0 then .non else (.int (Ma.parF b n))) L) : Wp g L (fun H Q => sp_Scheme_parent_of CS [.ref s, .int n] H Q E) C := fun H z Q q => ⟨s, dx, b, f, n, rfl, z.get h0, hpre, fun H' s' => q _ _ _ (c) (z.same s')⟩
theorem wc_Scheme_parent_of_pos {CS : Addr} {g : Gr} {L : Led} {C : V → Led → Prop} {E : XK} {s dx : Addr} {b f : Int} {n : Int} {bo0 : Bool} (i0 : Nat) (h0 : L[i0]? = some (s, .ob (.ins CS dx (scF b f)), bo0)) (hpre : SchOk b f ∧ 0 ≤ n ∧ n ≤ 10 ^ 60) (hz : ¬ (n = 0)) (c : C (.int (Ma.parF b n)) L) : Wp g L (fun H Q => sp_Scheme_parent_of CS [.ref s, .int n] H Q E) C := wc_Scheme_parent_of i0 h0 hpre (by rw [if_neg hz]; exact c)
theorem wc_Scheme_parent_of_zero {CS : Addr} {g : Gr} {L : Led} {C : V → Led → Prop} {E : XK} {s dx : Addr} {b f : Int} {n : Int} {bo0 : Bool} (i0 : Nat) (h0 : L[i0]? = some (s, .ob (.ins CS dx (scF b f)), bo0)) (hpre : SchOk b f ∧ 0 ≤ n ∧ n ≤ 10 ^ 60) (hz : n = 0) (c : C .non L) : Wp g L (fun H Q => sp_Scheme_parent_of CS [.ref s, .int n] H Q E) C := wc_Scheme_parent_of i0 h0 hpre (by rw [if_pos hz]; exact c)
theorem ok_Scheme_parent_of (T : Top K mg CS) : OkM P w K mg base CS 2 "parent_of" "Scheme.parent_of" s_Scheme_parent_of ["self", "number"] (sp_Scheme_parent_of CS) := by
  refine OkM.of T.f_Scheme_parent_of sc_Scheme_parent_of (fun _ _ _ _ _ _ us hl => match us, hl with | [_, _], _ => rfl) (fun vs H Q E h => ?_) (fun f cdv A outer s H vs Q E hr h => ?_)
  · obtain ⟨s, dx, b, f, n, rfl, _⟩ := h
    rfl
  · obtain ⟨s, dx, b, f, n, rfl, hh0, hpre, kk⟩ := h
    have hs := hpre.1
    unfold SchOk at hs
    refine ⟨_, (pss_cons (ps_if (pt_cmpR op_eq (pv 1) pe_int (nomark _)) (pss_one (ps_ret pe_non)) pss_nil)
      (pss_cons (ps_set (i := 2) sc_Scheme_parent_of.nd rfl (Or.inl rfl) (pe_op op_mulW (pe_om T.cl_Scheme (ok_Scheme_unit T) (hr.mono (by decide)) (pv 0) (pa_cons (pv 1) pa_nil)) (pe_fld (pv 0) rfl)))
      (pss_one (ps_ret (pe_op op_mulW (pe_op op_fdivW (pv 1) (pv 2)) (pv 2)))))), ?_⟩
    refine run_ws (σ := [some (.ref s), some (.int n), none]) (K := kV (fun v => v = (if n = 0 then .non else (.int (Ma.parF b n))))) (L := [(s, .ob (.ins CS dx (scF b f)), false)]) ?_ (at_one hh0) (eo_V fun v H' e s' => e ▸ kk H' s')
    refine ws_seq ?_
    refine ws_if ?_
    refine wt_test ?_
    refine wp_op ?_
    refine wp_var rfl ?_
    refine wp_c ?_
    refine wr_eqI ?_
    refine ⟨_, rfl, ?_⟩
    refine ifB (fun hc1 => ?_) (fun hc1 => ?_)
    · try simp only [decide_eq_true_eq, decide_eq_false_iff_not, Bool.and_eq_true, Bool.or_eq_true, Bool.not_eq_true', Bool.and_eq_false_iff, Bool.or_eq_false_iff, Bool.not_eq_false', Bool.not_true, Bool.not_false, Bool.false_or, Bool.true_and, Bool.true_or, Bool.false_and, Bool.and_true, Bool.or_false, reduceCtorEq, not_true_eq_false, not_false_eq_true, decide_true, decide_false] at hc1
      refine ws_ret ?_
      refine wp_c ?_
      exact (if_pos (by omega)).symm
    · try simp only [decide_eq_true_eq, decide_eq_false_iff_not, Bool.and_eq_true, Bool.or_eq_true, Bool.not_eq_true', Bool.and_eq_false_iff, Bool.or_eq_false_iff, Bool.not_eq_false', Bool.not_true, Bool.not_false, Bool.false_or, Bool.true_and, Bool.true_or, Bool.false_and, Bool.and_true, Bool.or_false, reduceCtorEq, not_true_eq_false, not_false_eq_true, decide_true, decide_false] at hc1
      refine ws_next ?_
      refine ws_seq ?_
      refine ws_set ?_
      refine wp_op ?_
      refine wp_meth 0 ?_
      refine wp_var rfl ?_
      refine ⟨_, _, _, _, rfl, rfl, scF_no _ _ (by decide +kernel) (by decide +kernel), ?_⟩
      refine wa_cons ?_
      refine wp_var rfl ?_
      refine wa_nil ?_
      refine wc_Scheme_unit 0 rfl ⟨by (unfold SchOk; omega), by omega⟩ ?_
      refine wp_fld 0 T.cl_Scheme T.n_Scheme_radix ?_
      refine wp_var rfl ?_
      refine ⟨_, _, _, _, _, rfl, rfl, scF_radix _ _, ?_⟩
      have hu1 := Ma.unitF_pos (b := b) (n := n) (by omega)
      have hu2 := Ma.unitF_le (b := b) (n := n) (by omega)
      refine wr1 (mulOk (by omega) (by omega)) ?_
      refine ws_ret ?_
      refine wp_op ?_
      refine wp_op ?_
      refine wp_var rfl ?_
      refine wp_var rfl ?_
      have hw := Ma.ub_pos (b := b) (n := n) (by omega)
      have hu1 := Ma.unitF_pos (b := b) (n := n) (by omega)
      have hu2 := Ma.unitF_le (b := b) (n := n) (by omega)
      have hw2 : Ma.unitF b n * b ≤ Ma.unitF b n * 1000 := Int.mul_le_mul_of_nonneg_left (by omega) (by omega)
      refine wr1 (divOk (by omega)) ?_
      refine wp_var rfl ?_
      have hq : n / (Ma.unitF b n * b) ≤ n := Int.ediv_le_self _ (by omega)
      have hq0 : 0 ≤ n / (Ma.unitF b n * b) := Int.ediv_nonneg (by omega) (by omega)
      refine wr1 (mulOk (by omega) (by omega)) ?_
      exact (if_neg (by omega)).symm
theorem sc_Scheme_chain : FnScope ["self", "number", "found"] ["self", "number"] (defScope s_Scheme_chain) := ⟨rfl, rfl, rfl, by decide +kernel, rfl, by decide +kernel, by decide +kernel⟩
def sp_Scheme_chain (CS : Addr) : Sp := fun vs H Q _ => ∃ (s dx : Addr) (b f : Int) (n : Int), (vs = [.ref s, .int n]) ∧ (H s = some (.ins CS dx (scF b f))) ∧ (SchOk b f ∧ 0 ≤ n ∧ n ≤ 10 ^ 60) ∧ ∀ (p : Addr) (H' : Hp), H p = none → Same H H' → H' p = some (.lst ((Ma.chainF b n).map V.int)) → Q (.ref p) H'
theorem wc_Scheme_chain {CS : Addr} {g : Gr} {L : Led} {C : V → Led → Prop} {E : XK} {s dx : Addr} {b f : Int} {n : Int} {bo0 : Bool} (i0 : Nat) (h0 : L[i0]? = some (s, .ob (.ins CS dx (scF b f)), bo0)) (hpre : SchOk b f ∧ 0 ≤ n ∧ n ≤ 10 ^ 60) (c : ∀ p : Addr, C (.ref p) (L ++ [(p, .ob (.lst ((Ma.chainF b n).map V.int)), true)])) : Wp g L (fun H Q => sp_Scheme_chain CS [.ref s, .int n] H Q E) C := fun H z Q q => ⟨s, dx, b, f, n, rfl, z.get h0, hpre, fun p H' n s' hp => q _ _ _ (c p) (z.new s' n hp)⟩
theorem ok_Scheme_chain (T : Top K mg CS) : OkM P w K mg base CS 3 "chain" "Scheme.chain" s_Scheme_chain ["self", "number"] (sp_Scheme_chain CS) := by
  refine OkM.of T.f_Scheme_chain sc_Scheme_chain (fun _ _ _ _ _ _ us hl => match us, hl with | [_, _], _ => rfl) (fun vs H Q E h => ?_) (fun f cdv A outer s H vs Q E hr h => ?_)
  · obtain ⟨s, dx, b, f, n, rfl, _⟩ := h
    rfl
  · obtain ⟨s, dx, b, f, n, rfl, hh0, hpre, kk⟩ := h
    have hs := hpre.1
    unfold SchOk at hs
    refine ⟨_, (pss_cons (ps_expr (pe_own (ok_check_number T) (hr.mono (by decide)) rfl (pa_cons (pv 1) pa_nil)))
      (pss_cons (ps_set (i := 2) sc_Scheme_chain.nd rfl (Or.inl rfl) (pe_lst (pa_cons (pv 1) pa_nil)))
      (pss_cons (ps_while PassesOwn.never (pt_cmpR op_gt (pe_ix ix_list (pv 2) (pe_un un_neg pe_int) (fun _ _ => rfl)) pe_int (nomark _)) (pss_one (ps_expr (pe_bm PySem.F.plainAttrs_list PySem.F.slot_list_append PySem.F.type_list_append mt_append (pv 2) (pa_cons (pe_om T.cl_Scheme (ok_Scheme_parent_of T) (hr.mono (by decide)) (pv 0) (pa_cons (pe_ix ix_list (pv 2) (pe_un un_neg pe_int) (fun _ _ => rfl)) pa_nil)) pa_nil)))))
      (pss_one (ps_ret (pv 2)))))), ?_⟩
    refine run_ws (σ := [some (.ref s), some (.int n), none]) (K := kN (.lst ((Ma.chainF b n).map V.int))) (L := [(s, .ob (.ins CS dx (scF b f)), false)]) ?_ (at_one hh0) (eo_N fun p H' n s' hp => kk p H' n s' hp)
    refine ws_seq ?_
    refine ws_drop ?_
    refine wp_call ?_
    refine wa_cons ?_
    refine wp_var rfl ?_
    refine wa_nil ?_
    refine wc_check_number (by omega) ?_
    refine ws_seq ?_
    refine ws_set ?_
    refine wp_lst ?_
    refine wa_cons ?_
    refine wp_var rfl ?_
    refine wa_nil ?_
    refine ⟨by simp, fun p1 => ?_⟩
    refine ws_seq ?_
    refine ws_whileN (fun j σ L => ∃ (p : Addr) (pre : List Int) (m : Int), σ = [some (.ref s), some (.int n), some (.ref p)] ∧ L = [(s, .ob (.ins CS dx (scF b f)), false), (p, .ob (.lst ((pre ++ [m]).map V.int)), true)] ∧ Ma.chainF b n = pre ++ Ma.chainF b m ∧ 0 ≤ m ∧ m ≤ n ∧ j = m.toNat) ?_ ?_
    · exact ⟨_, _, [], n, rfl, rfl, rfl, by omega, by omega, rfl⟩
    rintro mm σ L ⟨p, pre, m, rfl, rfl, hch, hm0, hm1, hj⟩
    refine wt_test ?_
    refine wp_op ?_
    refine wp_op ?_
    refine wp_var rfl ?_
    refine wp_un ?_
    refine wp_c ?_
    refine wu0 ?_
    refine wr_ixL (seen 1 rfl) (last_map) ?_
    refine wp_c ?_
    refine wr0 ?_
    refine ⟨_, rfl, ?_⟩
    refine ifB (fun hc => ?_) (fun hc => ?_)
    · try simp only [decide_eq_true_eq, decide_eq_false_iff_not, Bool.and_eq_true, Bool.or_eq_true, Bool.not_eq_true', Bool.and_eq_false_iff, Bool.or_eq_false_iff, Bool.not_eq_false', Bool.not_true, Bool.not_false, Bool.false_or, Bool.true_and, Bool.true_or, Bool.false_and, Bool.and_true, Bool.or_false, reduceCtorEq, not_true_eq_false, not_false_eq_true, decide_true, decide_false] at hc
      refine ws_drop ?_
      refine wp_bm ?_
      refine wp_var rfl ?_
      refine ⟨ty_list 1 rfl, ?_⟩
      refine wa_cons ?_
      refine wp_meth 0 ?_
      refine wp_var rfl ?_
      refine ⟨_, _, _, _, rfl, rfl, scF_no _ _ (by decide +kernel) (by decide +kernel), ?_⟩
      refine wa_cons ?_
      refine wp_op ?_
      refine wp_var rfl ?_
      refine wp_un ?_
      refine wp_c ?_
      refine wu0 ?_
      refine wr_ixL (seen 1 rfl) (last_map) ?_
      refine wa_nil ?_
      refine wc_Scheme_parent_of_pos 0 rfl ⟨by (unfold SchOk; omega), by omega⟩ (by omega) ?_
      refine wa_nil ?_
      refine wr_app (e := .src 0) 1 rfl (by (have := Ma.chainF_small (b := b) (n := n) (by omega) (by omega) (by omega); rw [hch] at this; simp at this; simp; omega)) ?_
      have hpl := Ma.parF_lt (b := b) (n := m) (by omega) (by omega)
      have hp0 := Ma.parF_nonneg (b := b) (n := m) (by omega) (by omega)
      refine ⟨_, _, ?_, ⟨p, pre ++ [m], Ma.parF b m, rfl, ?_, ?_, hp0, by omega, rfl⟩, List.prefix_refl _⟩
      · omega
      · simp
      · rw [hch, Ma.chainF_pos (b := b) (n := m) (by omega) (by omega)]
        simp
    · try simp only [decide_eq_true_eq, decide_eq_false_iff_not, Bool.and_eq_true, Bool.or_eq_true, Bool.not_eq_true', Bool.and_eq_false_iff, Bool.or_eq_false_iff, Bool.not_eq_false', Bool.not_true, Bool.not_false, Bool.false_or, Bool.true_and, Bool.true_or, Bool.false_and, Bool.and_true, Bool.or_false, reduceCtorEq, not_true_eq_false, not_false_eq_true, decide_true, decide_false] at hc
      refine ws_ret ?_
      refine wp_var rfl ?_
      refine ⟨_, 1, rfl, ?_⟩
      have e : m = 0 := by omega
      subst e
      rw [hch, Ma.chainF_zero]
      rfl
theorem sc__law_number : FnScope ["_law_source", "_law_radix", "_law_one_number", "_law_k"] ["_law_source", "_law_radix"] (defScope s__law_number) := ⟨rfl, rfl, rfl, by decide +kernel, rfl, by decide +kernel, by decide +kernel⟩
def sp__law_number (CS : Addr) : Sp := fun vs H Q _ => ∃ (a : Addr) (m : Nat) (b : Int), vs = [.ref a, .int b] ∧ EntAt (.src m) H a ∧ m ≤ 100000 ∧ (2 ≤ b ∧ b ≤ 1000) ∧ ∀ (r : Int) (H' : Hp), (0 ≤ r ∧ r ≤ 10 ^ 22) → EntAt (.src (m + 3)) H' a → Exc a H H' → Q (.int r) H'
theorem wc__law_number {CS : Addr} {g : Gr} {L : Led} {C : V → Led → Prop} {E : XK} {a : Addr} {m : Nat} {b : Int} (i : Nat) (h : L[i]? = some (a, .src m, true)) (hm : m ≤ 100000) (hpre : 2 ≤ b ∧ b ≤ 1000) (c : ∀ (r : Int), (0 ≤ r ∧ r ≤ 10 ^ 22) → C (.int r) (L.set i (a, .src (m + 3), true))) : Wp g L (fun H Q => sp__law_number CS [.ref a, .int b] H Q E) C := fun H z Q q => ⟨a, m, b, rfl, z.look h, hm, hpre, fun r H' hpost he hx => q _ _ _ (c r hpost) (z.draw h hx he)⟩
theorem ok__law_number (T : Top K mg CS) : Ok P w K mg base 3 "_law_number" s__law_number ["_law_source", "_law_radix"] (sp__law_number CS) := by
  refine Ok.of T.f__law_number sc__law_number (fun _ _ _ _ _ _ us hl => match us, hl with | [_, _], _ => rfl) (fun vs H Q E h => ?_) (fun f cdv A outer s H vs Q E hr h => ?_)
  · obtain ⟨a, m, b, rfl, _⟩ := h
    rfl
  · obtain ⟨a, m, b, rfl, ⟨o_, ha, he⟩, hm, hpre, kk⟩ := h
    refine ⟨_, (pss_cons (ps_set (i := 2) sc__law_number.nd rfl (Or.inl rfl) (pe_own (ok__law_next T) (hr.mono (by decide)) rfl (pa_cons (pv 0) (pa_cons (pe_own (ok__law_one T) (hr.mono (by decide)) rfl (pa_cons (pv 0) (pa_cons (pe_lst (pa_cons pe_int (pa_cons pe_int (pa_cons (pe_op op_pow pe_int pe_int) (pa_cons (pe_op op_pow pe_int pe_int) pa_nil))))) pa_nil))) pa_nil))))
      (pss_cons (ps_for PassesOwn.never rfl (pi_rangeW1 rfl T.b_range (pa_cons (pe_own (ok__law_next T) (hr.mono (by decide)) rfl (pa_cons (pv 0) (pa_cons pe_int pa_nil))) pa_nil)) (pg_name (i := 3) sc__law_number.nd rfl (Or.inl rfl)) (pss_one (ps_if (pt_cmpR op_lt (pe_op op_mulW (pv 2) (pv 1)) (pe_op op_pow pe_int pe_int) (nomark _)) (pss_one (ps_set (i := 2) sc__law_number.nd rfl (Or.inl rfl) (pe_op op_mulW (pv 2) (pv 1)))) pss_nil)))
      (pss_one (ps_ret (pv 2))))), ?_⟩
    refine run_ws (σ := [some (.ref a), some (.int b), none, none]) (g := ⟨H, fun c => c = a⟩) (K := kD Ent.src a m 3 (fun v => ∃ (r : Int), v = (.int r) ∧ (0 ≤ r ∧ r ≤ 10 ^ 22))) (L := [(a, .src m, true)]) ?_ (at_cons at_nil ha he (by simp) (fun _ => .inr rfl)) (eo_D (fun hk x => src_mono hk x) fun v H' ⟨r, e, hpost⟩ he hx => e ▸ kk r H' hpost he hx)
    refine ws_seq ?_
    refine ws_set ?_
    refine wp_call ?_
    refine wa_cons ?_
    refine wp_var rfl ?_
    refine wa_cons ?_
    refine wp_call ?_
    refine wa_cons ?_
    refine wp_var rfl ?_
    refine wa_cons ?_
    refine wp_lst ?_
    refine wa_cons ?_
    refine wp_c ?_
    refine wa_cons ?_
    refine wp_c ?_
    refine wa_cons ?_
    refine wp_op ?_
    refine wp_c ?_
    refine wp_c ?_
    refine wr_powc (r := 1000000) (powOk (by decide)) (by decide) ?_
    refine wa_cons ?_
    refine wp_op ?_
    refine wp_c ?_
    refine wp_c ?_
    refine wr_powc (r := 1000000000000000000000) (powOk (by decide)) (by decide) ?_
    refine wa_nil ?_
    refine ⟨by simp, fun p1 => ?_⟩
    refine wa_nil ?_
    refine wc__law_one (P := fun n => 20 ≤ n ∧ n ≤ 10 ^ 21) 0 1 rfl rfl (by decide) (by omega) (by simp) (by (intro v hv; simp only [List.mem_cons, List.not_mem_nil, or_false] at hv; repeat' (rcases hv with hv | hv)) <;> exact ⟨_, rfl, by first | omega | decide⟩) ?_
    intro n2 hn2
    refine wa_nil ?_
    refine wc__law_next 0 rfl (by omega) (by omega) ?_
    intro n3 hn3
    refine ws_seq ?_
    refine ws_for ?_
    refine wi_rngW1 ?_
    refine wa_cons ?_
    refine wp_call ?_
    refine wa_cons ?_
    refine wp_var rfl ?_
    refine wa_cons ?_
    refine wp_c ?_
    refine wa_nil ?_
    refine wc__law_next 0 rfl (by omega) (by omega) ?_
    intro n4 hn4
    refine wa_nil ?_
    refine ⟨_, rfl, ?_⟩
    refine wf_rngS (fun i vs => ∃ r : Int, ∃ w3 : Option V, vs = [none, none, some (some (.int r)), some w3] ∧ (0 ≤ r ∧ r ≤ 10 ^ 22)) ?_ ?_ ?_
    · exact ⟨[none, none, some _, some _], rfl, _, _, rfl, by omega⟩
    · rintro i t vs hi hx ⟨r, w3, rfl, hI⟩
      refine wg_name ?_
      refine ws_if ?_
      refine wt_test ?_
      refine wp_op ?_
      refine wp_op ?_
      refine wp_var rfl ?_
      refine wp_var rfl ?_
      refine wr1 (by exact mulOk (by omega) (by omega)) ?_
      refine wp_op ?_
      refine wp_c ?_
      refine wp_c ?_
      refine wr_powc (r := 10000000000000000000000) (powOk (by decide)) (by decide) ?_
      refine wr0 ?_
      refine ⟨_, rfl, ?_⟩
      refine ifB (fun hc5 => ?_) (fun hc5 => ?_)
      · try simp only [decide_eq_true_eq, decide_eq_false_iff_not, Bool.and_eq_true, Bool.or_eq_true, Bool.not_eq_true', Bool.and_eq_false_iff, Bool.or_eq_false_iff, Bool.not_eq_false', Bool.not_true, Bool.not_false, Bool.false_or, Bool.true_and, Bool.true_or, Bool.false_and, Bool.and_true, Bool.or_false, reduceCtorEq, not_true_eq_false, not_false_eq_true, decide_true, decide_false] at hc5
        refine ws_set ?_
        refine wp_op ?_
        refine wp_var rfl ?_
        refine wp_var rfl ?_
        refine wr1 (by exact mulOk (by omega) (by omega)) ?_
        exact ⟨[none, none, some _, some _], ⟨rfl, _, _, rfl, by first | omega | (have hp := Int.mul_nonneg (show (0 : Int) ≤ r by omega) (show (0 : Int) ≤ b by omega); omega)⟩, ⟨_, rfl⟩⟩
      · try simp only [decide_eq_true_eq, decide_eq_false_iff_not, Bool.and_eq_true, Bool.or_eq_true, Bool.not_eq_true', Bool.and_eq_false_iff, Bool.or_eq_false_iff, Bool.not_eq_false', Bool.not_true, Bool.not_false, Bool.false_or, Bool.true_and, Bool.true_or, Bool.false_and, Bool.and_true, Bool.or_false, reduceCtorEq, not_true_eq_false, not_false_eq_true, decide_true, decide_false] at hc5
        refine ws_next ?_
        exact ⟨[none, none, some _, some _], ⟨rfl, _, _, rfl, by first | omega | (have hp := Int.mul_nonneg (show (0 : Int) ≤ r by omega) (show (0 : Int) ≤ b by omega); omega)⟩, ⟨_, rfl⟩⟩
    rintro vs ⟨r, w3, rfl, hI⟩
    refine ws_ret ?_
    refine wp_var rfl ?_
    exact ⟨⟨_, rfl, by omega⟩, 3, by decide, rfl⟩
theorem sc__law_unit : FnScope ["_law_radix", "_law_one_number", "_law_unit_here"] ["_law_radix", "_law_one_number"] (defScope s__law_unit) := ⟨rfl, rfl, rfl, by decide +kernel, rfl, by decide +kernel, by decide +kernel⟩
def sp__law_unit (CS : Addr) : Sp := fun vs H Q _ => ∃ (b n : Int), (vs = [.int b, .int n]) ∧ (2 ≤ b ∧ b ≤ 1000 ∧ 1 ≤ n ∧ n ≤ 10 ^ 60) ∧ ∀ (H' : Hp), Same H H' → Q (.int (Ma.unitF b n)) H'
theorem wc__law_unit {CS : Addr} {g : Gr} {L : Led} {C : V → Led → Prop} {E : XK} {b n : Int} (hpre : 2 ≤ b ∧ b ≤ 1000 ∧ 1 ≤ n ∧ n ≤ 10 ^ 60) (c : C (.int (Ma.unitF b n)) L) : Wp g L (fun H Q => sp__law_unit CS [.int b, .int n] H Q E) C := fun H z Q q => ⟨b, n, rfl, hpre, fun H' s' => q _ _ _ (c) (z.same s')⟩
theorem ok__law_unit (T : Top K mg CS) : Ok P w K mg base 1 "_law_unit" s__law_unit ["_law_radix", "_law_one_number"] (sp__law_unit CS) := by
  refine Ok.of T.f__law_unit sc__law_unit (fun _ _ _ _ _ _ us hl => match us, hl with | [_, _], _ => rfl) (fun vs H Q E h => ?_) (fun f cdv A outer s H vs Q E hr h => ?_)
  · obtain ⟨b, n, rfl, _⟩ := h
    rfl
  · obtain ⟨b, n, rfl, hpre, kk⟩ := h
    refine ⟨_, (pss_cons (ps_set (i := 2) sc__law_unit.nd rfl (Or.inl rfl) pe_int)
      (pss_cons (ps_while PassesOwn.never (pt_cmpR op_eq (pe_op op_mod (pe_op op_fdivW (pv 1) (pv 2)) (pv 0)) pe_int (nomark _)) (pss_one (ps_set (i := 2) sc__law_unit.nd rfl (Or.inl rfl) (pe_op op_mulW (pv 2) (pv 0)))))
      (pss_one (ps_ret (pv 2))))), ?_⟩
    refine run_ws (σ := [some (.int b), some (.int n), none]) (K := kV (fun v => v = (.int (Ma.unitF b n)))) (L := []) ?_ at_nil (eo_V fun v H' e s' => e ▸ kk H' s')
    refine ws_seq ?_
    refine ws_set ?_
    refine wp_c ?_
    refine ws_seq ?_
    refine ws_whileS (fun mm vs => ∃ u : Int, vs = [none, none, some (some (.int u))] ∧ (Ma.IsPow b u ∧ u ∣ n) ∧ mm = (n - u).toNat) ?_ ?_
    · exact ⟨_, [none, none, some _], rfl, _, rfl, ⟨Ma.IsPow.one b, Int.one_dvd n⟩, rfl⟩
    rintro mm vs ⟨u, rfl, hI, hmm⟩
    have hu1 := hI.1.pos (b := b) (by omega)
    have hu2 := Int.le_of_dvd (by omega) hI.2
    refine wt_test ?_
    refine wp_op ?_
    refine wp_op ?_
    refine wp_op ?_
    refine wp_var rfl ?_
    refine wp_var rfl ?_
    refine wr1 (by exact divOk (by omega)) ?_
    refine wp_var rfl ?_
    refine wr1 (show (0 : Int) < b by omega) ?_
    refine wp_c ?_
    refine wr_eqI ?_
    refine ⟨_, rfl, ?_⟩
    refine ifB (fun hc => ?_) (fun hc => ?_)
    · try simp only [decide_eq_true_eq, decide_eq_false_iff_not, Bool.and_eq_true, Bool.or_eq_true, Bool.not_eq_true', Bool.and_eq_false_iff, Bool.or_eq_false_iff, Bool.not_eq_false', Bool.not_true, Bool.not_false, Bool.false_or, Bool.true_and, Bool.true_or, Bool.false_and, Bool.and_true, Bool.or_false, reduceCtorEq, not_true_eq_false, not_false_eq_true, decide_true, decide_false] at hc
      have h2 : u * 2 ≤ u * b := Int.mul_le_mul_of_nonneg_left (by omega) (by omega)
      have hd2 : u * b ∣ n := Ma.mod_div hI.2 hc
      have hu3 := Int.le_of_dvd (by omega) hd2
      refine ws_set ?_
      refine wp_op ?_
      refine wp_var rfl ?_
      refine wp_var rfl ?_
      refine wr1 (by exact mulOk (by omega) (by omega)) ?_
      exact ⟨_, [none, none, some _], by omega, ⟨rfl, _, rfl, ⟨hI.1.mul, hd2⟩, rfl⟩, ⟨_, rfl⟩⟩
    · try simp only [decide_eq_true_eq, decide_eq_false_iff_not, Bool.and_eq_true, Bool.or_eq_true, Bool.not_eq_true', Bool.and_eq_false_iff, Bool.or_eq_false_iff, Bool.not_eq_false', Bool.not_true, Bool.not_false, Bool.false_or, Bool.true_and, Bool.true_or, Bool.false_and, Bool.and_true, Bool.or_false, reduceCtorEq, not_true_eq_false, not_false_eq_true, decide_true, decide_false] at hc
      refine ws_ret ?_
      refine wp_var rfl ?_
      refine congrArg V.int (Ma.IsUnit.eq (by omega) (by omega) ⟨hI.1, hI.2, fun q => hc (Ma.div_mod (by omega) hI.2 q)⟩)
theorem sc_Scheme_last_time : FnScope ["self", "number"] ["self", "number"] (defScope s_Scheme_last_time) := ⟨rfl, rfl, rfl, by decide +kernel, rfl, by decide +kernel, by decide +kernel⟩
def sp_Scheme_last_time (CS : Addr) : Sp := fun vs H Q _ => ∃ (s dx : Addr) (b f : Int) (n : Int), (vs = [.ref s, .int n]) ∧ (H s = some (.ins CS dx (scF b f))) ∧ (SchOk b f ∧ 0 ≤ n ∧ n ≤ 10 ^ 60) ∧ ∀ (H' : Hp), Same H H' → Q (if n = 0 then .non else (.int (n + f * Ma.unitF b n))) H'
theorem wc_Scheme_last_time {CS : Addr} {g : Gr} {L : Led} {C : V → Led → Prop} {E : XK} {s dx : Addr} {b f : Int} {n : Int} {bo0 : Bool} (i0 : Nat) (h0 : L[i0]? = some (s, .ob (.ins CS dx (scF b f)), bo0)) (hpre : SchOk b f ∧ 0 ≤ n ∧ n ≤ 10 ^ 60) (c : C (if n = 0 then .non else (.int (n + f * Ma.unitF b n))) L) : Wp g L (fun H Q => sp_Scheme_last_time CS [.ref s, .int n] H Q E) C := fun H z Q q => ⟨s, dx, b, f, n, rfl, z.get h0, hpre, fun H' s' => q _ _ _ (c) (z.same s')⟩
theorem wc_Scheme_last_time_pos {CS : Addr} {g : Gr} {L : Led} {C : V → Led → Prop} {E : XK} {s dx : Addr} {b f : Int} {n : Int} {bo0 : Bool} (i0 : Nat) (h0 : L[i0]? = some (s, .ob (.ins CS dx (scF b f)), bo0)) (hpre : SchOk b f ∧ 0 ≤ n ∧ n ≤ 10 ^ 60) (hz : ¬ (n = 0)) (c : C (.int (n + f * Ma.unitF b n)) L) : Wp g L (fun H Q => sp_Scheme_last_time CS [.ref s, .int n] H Q E) C := wc_Scheme_last_time i0 h0 hpre (by rw [if_neg hz]; exact c)
theorem wc_Scheme_last_time_zero {CS : Addr} {g : Gr} {L : Led} {C : V → Led → Prop} {E : XK} {s dx : Addr} {b f : Int} {n : Int} {bo0 : Bool} (i0 : Nat) (h0 : L[i0]? = some (s, .ob (.ins CS dx (scF b f)), bo0)) (hpre : SchOk b f ∧ 0 ≤ n ∧ n ≤ 10 ^ 60) (hz : n = 0) (c : C .non L) : Wp g L (fun H Q => sp_Scheme_last_time CS [.ref s, .int n] H Q E) C := wc_Scheme_last_time i0 h0 hpre (by rw [if_pos hz]; exact c)
theorem ok_Scheme_last_time (T : Top K mg CS) : OkM P w K mg base CS 3 "last_time" "Scheme.last_time" s_Scheme_last_time ["self", "number"] (sp_Scheme_last_time CS) := by
  refine OkM.of T.f_Scheme_last_time sc_Scheme_last_time (fun _ _ _ _ _ _ us hl => match us, hl with | [_, _], _ => rfl) (fun vs H Q E h => ?_) (fun f cdv A outer s H vs Q E hr h => ?_)
  · obtain ⟨s, dx, b, f, n, rfl, _⟩ := h
    rfl
  · obtain ⟨s, dx, b, f, n, rfl, hh0, hpre, kk⟩ := h
    have hs := hpre.1
    unfold SchOk at hs
    refine ⟨_, (pss_cons (ps_expr (pe_own (ok_check_number T) (hr.mono (by decide)) rfl (pa_cons (pv 1) pa_nil)))
      (pss_one (ps_ret (pe_ifExp (pt_cmpR op_eq (pv 1) pe_int (nomark _)) pe_non (pe_op op_add (pv 1) (pe_op op_mulW (pe_fld (pv 0) rfl) (pe_om T.cl_Scheme (ok_Scheme_unit T) (hr.mono (by decide)) (pv 0) (pa_cons (pv 1) pa_nil)))))))), ?_⟩
    refine run_ws (σ := [some (.ref s), some (.int n)]) (K := kV (fun v => v = (if n = 0 then .non else (.int (n + f * Ma.unitF b n))))) (L := [(s, .ob (.ins CS dx (scF b f)), false)]) ?_ (at_one hh0) (eo_V fun v H' e s' => e ▸ kk H' s')
    refine ws_seq ?_
    refine ws_drop ?_
    refine wp_call ?_
    refine wa_cons ?_
    refine wp_var rfl ?_
    refine wa_nil ?_
    refine wc_check_number (by omega) ?_
    refine ws_ret ?_
    refine wp_if ?_
    refine wt_test ?_
    refine wp_op ?_
    refine wp_var rfl ?_
    refine wp_c ?_
    refine wr_eqI ?_
    refine ⟨_, rfl, ?_⟩
    refine ifB (fun hc1 => ?_) (fun hc1 => ?_)
    · try simp only [decide_eq_true_eq, decide_eq_false_iff_not, Bool.and_eq_true, Bool.or_eq_true, Bool.not_eq_true', Bool.and_eq_false_iff, Bool.or_eq_false_iff, Bool.not_eq_false', Bool.not_true, Bool.not_false, Bool.false_or, Bool.true_and, Bool.true_or, Bool.false_and, Bool.and_true, Bool.or_false, reduceCtorEq, not_true_eq_false, not_false_eq_true, decide_true, decide_false] at hc1
      refine wp_c ?_
      exact (if_pos (by omega)).symm
    · try simp only [decide_eq_true_eq, decide_eq_false_iff_not, Bool.and_eq_true, Bool.or_eq_true, Bool.not_eq_true', Bool.and_eq_false_iff, Bool.or_eq_false_iff, Bool.not_eq_false', Bool.not_true, Bool.not_false, Bool.false_or, Bool.true_and, Bool.true_or, Bool.false_and, Bool.and_true, Bool.or_false, reduceCtorEq, not_true_eq_false, not_false_eq_true, decide_true, decide_false] at hc1
      refine wp_op ?_
      refine wp_var rfl ?_
      refine wp_op ?_
      refine wp_fld 0 T.cl_Scheme T.n_Scheme_multiple ?_
      refine wp_var rfl ?_
      refine ⟨_, _, _, _, _, rfl, rfl, scF_multiple _ _, ?_⟩
      refine wp_meth 0 ?_
      refine wp_var rfl ?_
      refine ⟨_, _, _, _, rfl, rfl, scF_no _ _ (by decide +kernel) (by decide +kernel), ?_⟩
      refine wa_cons ?_
      refine wp_var rfl ?_
      refine wa_nil ?_
      refine wc_Scheme_unit 0 rfl ⟨by (unfold SchOk; omega), by omega⟩ ?_
      have hu1 := Ma.unitF_pos (b := b) (n := n) (by omega)
      have hu2 := Ma.unitF_le (b := b) (n := n) (by omega)
      refine wr1 (mulOk (by omega) (by omega)) ?_
      refine wr0 ?_
      exact (if_neg (by omega)).symm
theorem sc__law_parent : FnScope ["_law_radix", "_law_one_number", "_law_unit_here"] ["_law_radix", "_law_one_number"] (defScope s__law_parent) := ⟨rfl, rfl, rfl, by decide +kernel, rfl, by decide +kernel, by decide +kernel⟩
def sp__law_parent (CS : Addr) : Sp := fun vs H Q _ => ∃ (b n : Int), (vs = [.int b, .int n]) ∧ (2 ≤ b ∧ b ≤ 1000 ∧ 1 ≤ n ∧ n ≤ 10 ^ 60) ∧ ∀ (H' : Hp), Same H H' → Q (.int (Ma.parF b n)) H'
theorem wc__law_parent {CS : Addr} {g : Gr} {L : Led} {C : V → Led → Prop} {E : XK} {b n : Int} (hpre : 2 ≤ b ∧ b ≤ 1000 ∧ 1 ≤ n ∧ n ≤ 10 ^ 60) (c : C (.int (Ma.parF b n)) L) : Wp g L (fun H Q => sp__law_parent CS [.int b, .int n] H Q E) C := fun H z Q q => ⟨b, n, rfl, hpre, fun H' s' => q _ _ _ (c) (z.same s')⟩
theorem ok__law_parent (T : Top K mg CS) : Ok P w K mg base 2 "_law_parent" s__law_parent ["_law_radix", "_law_one_number"] (sp__law_parent CS) := by
  refine Ok.of T.f__law_parent sc__law_parent (fun _ _ _ _ _ _ us hl => match us, hl with | [_, _], _ => rfl) (fun vs H Q E h => ?_) (fun f cdv A outer s H vs Q E hr h => ?_)
  · obtain ⟨b, n, rfl, _⟩ := h
    rfl
  · obtain ⟨b, n, rfl, hpre, kk⟩ := h
    have hu0 := Ma.unitF_pos (b := b) (n := n) (by omega)
    have hu1 := Ma.unitF_le (b := b) (n := n) (by omega)
    have hm0 := Int.emod_nonneg (n / Ma.unitF b n) (show b ≠ 0 by omega)
    have hm1 := Int.emod_lt_of_pos (n / Ma.unitF b n) (show 0 < b by omega)
    refine ⟨_, (pss_cons (ps_set (i := 2) sc__law_parent.nd rfl (Or.inl rfl) (pe_own (ok__law_unit T) (hr.mono (by decide)) rfl (pa_cons (pv 0) (pa_cons (pv 1) pa_nil))))
      (pss_one (ps_ret (pe_op op_sub (pv 1) (pe_op op_mulW (pe_op op_mod (pe_op op_fdivW (pv 1) (pv 2)) (pv 0)) (pv 2)))))), ?_⟩
    refine run_ws (σ := [some (.int b), some (.int n), none]) (K := kV (fun v => v = (.int (Ma.parF b n)))) (L := []) ?_ at_nil (eo_V fun v H' e s' => e ▸ kk H' s')
    refine ws_seq ?_
    refine ws_set ?_
    refine wp_call ?_
    refine wa_cons ?_
    refine wp_var rfl ?_
    refine wa_cons ?_
    refine wp_var rfl ?_
    refine wa_nil ?_
    refine wc__law_unit (by omega) ?_
    refine ws_ret ?_
    refine wp_op ?_
    refine wp_var rfl ?_
    refine wp_op ?_
    refine wp_op ?_
    refine wp_op ?_
    refine wp_var rfl ?_
    refine wp_var rfl ?_
    refine wr1 (by exact divOk (by omega)) ?_
    refine wp_var rfl ?_
    refine wr1 (by (show (0 : Int) < _; omega)) ?_
    refine wp_var rfl ?_
    refine wr1 (by exact mulOk (by omega) (by omega)) ?_
    refine wr0 ?_
    exact congrArg V.int (Ma.par_alt (by omega) (by omega))
theorem sc_Scheme_level : FnScope ["self", "number", "count"] ["self", "number"] (defScope s_Scheme_level) := ⟨rfl, rfl, rfl, by decide +kernel, rfl, by decide +kernel, by decide +kernel⟩
def sp_Scheme_level (CS : Addr) : Sp := fun vs H Q _ => ∃ (s dx : Addr) (b f : Int) (n0 : Int), (vs = [.ref s, .int n0]) ∧ (H s = some (.ins CS dx (scF b f))) ∧ (SchOk b f ∧ 0 ≤ n0 ∧ n0 ≤ 10 ^ 60) ∧ ((n0 = 0) → ∀ H' : Hp, Same H H' → Q .non H') ∧ ∀ n : Int, (1 ≤ n0 ∧ ∃ k : Nat, n = (k : Int) ∧ Ma.unitF b n0 = b ^ k) → ∀ H' : Hp, Same H H' → Q (.int n) H'
theorem wc_Scheme_level {CS : Addr} {g : Gr} {L : Led} {C : V → Led → Prop} {E : XK} {s dx : Addr} {b f : Int} {n0 : Int} {bo0 : Bool} (i0 : Nat) (h0 : L[i0]? = some (s, .ob (.ins CS dx (scF b f)), bo0)) (hpre : SchOk b f ∧ 0 ≤ n0 ∧ n0 ≤ 10 ^ 60) (c1 : (n0 = 0) → C .non L) (c2 : ∀ n : Int, (1 ≤ n0 ∧ ∃ k : Nat, n = (k : Int) ∧ Ma.unitF b n0 = b ^ k) → C (.int n) L) : Wp g L (fun H Q => sp_Scheme_level CS [.ref s, .int n0] H Q E) C := fun H z Q q => ⟨s, dx, b, f, n0, rfl, z.get h0, hpre, fun hn H' s' => q _ _ _ (c1 hn) (z.same s'), fun n hn H' s' => q _ _ _ (c2 n hn) (z.same s')⟩
theorem ok_Scheme_level (T : Top K mg CS) : OkM P w K mg base CS 3 "level" "Scheme.level" s_Scheme_level ["self", "number"] (sp_Scheme_level CS) := by
  refine OkM.of T.f_Scheme_level sc_Scheme_level (fun _ _ _ _ _ _ us hl => match us, hl with | [_, _], _ => rfl) (fun vs H Q E h => ?_) (fun f cdv A outer s H vs Q E hr h => ?_)
  · obtain ⟨s, dx, b, f, n0, rfl, _⟩ := h
    rfl
  · obtain ⟨s, dx, b, f, n0, rfl, hh0, hpre, kk1, kk2⟩ := h
    have hs := hpre.1
    unfold SchOk at hs
    refine ⟨_, (pss_cons (ps_expr (pe_own (ok_check_number T) (hr.mono (by decide)) rfl (pa_cons (pv 1) pa_nil)))
      (pss_cons (ps_if (pt_cmpR op_eq (pv 1) pe_int (nomark _)) (pss_one (ps_ret pe_non)) pss_nil)
      (pss_cons (ps_set (i := 2) sc_Scheme_level.nd rfl (Or.inl rfl) pe_int)
      (pss_cons (ps_while PassesOwn.never (pt_cmpR op_eq (pe_op op_mod (pv 1) (pe_fld (pv 0) rfl)) pe_int (nomark _)) (pss_cons (ps_set (i := 1) sc_Scheme_level.nd rfl (Or.inl rfl) (pe_op op_fdivW (pv 1) (pe_fld (pv 0) rfl)))
      (pss_one (ps_set (i := 2) sc_Scheme_level.nd rfl (Or.inl rfl) (pe_op op_add (pv 2) pe_int)))))
      (pss_one (ps_ret (pv 2))))))), ?_⟩
    refine run_ws (σ := [some (.ref s), some (.int n0), none]) (K := kO (n0 = 0) (fun n => 1 ≤ n0 ∧ ∃ k : Nat, n = (k : Int) ∧ Ma.unitF b n0 = b ^ k)) (L := [(s, .ob (.ins CS dx (scF b f)), false)]) ?_ (at_one hh0) (eo_O kk1 kk2)
    refine ws_seq ?_
    refine ws_drop ?_
    refine wp_call ?_
    refine wa_cons ?_
    refine wp_var rfl ?_
    refine wa_nil ?_
    refine wc_check_number (by omega) ?_
    refine ws_seq ?_
    refine ws_if ?_
    refine wt_test ?_
    refine wp_op ?_
    refine wp_var rfl ?_
    refine wp_c ?_
    refine wr_eqI ?_
    refine ⟨_, rfl, ?_⟩
    refine ifB (fun hc1 => ?_) (fun hc1 => ?_)
    · try simp only [decide_eq_true_eq, decide_eq_false_iff_not, Bool.and_eq_true, Bool.or_eq_true, Bool.not_eq_true', Bool.and_eq_false_iff, Bool.or_eq_false_iff, Bool.not_eq_false', Bool.not_true, Bool.not_false, Bool.false_or, Bool.true_and, Bool.true_or, Bool.false_and, Bool.and_true, Bool.or_false, reduceCtorEq, not_true_eq_false, not_false_eq_true, decide_true, decide_false] at hc1
      refine ws_ret ?_
      refine wp_c ?_
      exact .inl ⟨rfl, by omega⟩
    · try simp only [decide_eq_true_eq, decide_eq_false_iff_not, Bool.and_eq_true, Bool.or_eq_true, Bool.not_eq_true', Bool.and_eq_false_iff, Bool.or_eq_false_iff, Bool.not_eq_false', Bool.not_true, Bool.not_false, Bool.false_or, Bool.true_and, Bool.true_or, Bool.false_and, Bool.and_true, Bool.or_false, reduceCtorEq, not_true_eq_false, not_false_eq_true, decide_true, decide_false] at hc1
      refine ws_next ?_
      refine ws_seq ?_
      refine ws_set ?_
      refine wp_c ?_
      refine ws_seq ?_
      refine ws_whileN (fun j σ L => ∃ (m : Int) (k : Nat), σ = [some (.ref s), some (.int m), some (.int (k : Int))] ∧ L = [(s, .ob (.ins CS dx (scF b f)), false)] ∧ n0 = m * b ^ k ∧ 1 ≤ m ∧ m ≤ n0 ∧ j = m.toNat) ?_ ?_
      · exact ⟨_, n0, 0, rfl, rfl, by simp, by omega, by omega, rfl⟩
      rintro mm σ L ⟨m, k, rfl, rfl, hm, hm1, hm2, hj⟩
      refine wt_test ?_
      refine wp_op ?_
      refine wp_op ?_
      refine wp_var rfl ?_
      refine wp_fld 0 T.cl_Scheme T.n_Scheme_radix ?_
      refine wp_var rfl ?_
      refine ⟨_, _, _, _, _, rfl, rfl, scF_radix _ _, ?_⟩
      refine wr1 (by (show (0 : Int) < _; omega)) ?_
      refine wp_c ?_
      refine wr_eqI ?_
      refine ⟨_, rfl, ?_⟩
      refine ifB (fun hc => ?_) (fun hc => ?_)
      · try simp only [decide_eq_true_eq, decide_eq_false_iff_not, Bool.and_eq_true, Bool.or_eq_true, Bool.not_eq_true', Bool.and_eq_false_iff, Bool.or_eq_false_iff, Bool.not_eq_false', Bool.not_true, Bool.not_false, Bool.false_or, Bool.true_and, Bool.true_or, Bool.false_and, Bool.and_true, Bool.or_false, reduceCtorEq, not_true_eq_false, not_false_eq_true, decide_true, decide_false] at hc
        refine ws_seq ?_
        refine ws_set ?_
        refine wp_op ?_
        refine wp_var rfl ?_
        refine wp_fld 0 T.cl_Scheme T.n_Scheme_radix ?_
        refine wp_var rfl ?_
        refine ⟨_, _, _, _, _, rfl, rfl, scF_radix _ _, ?_⟩
        refine wr1 (by exact divOk (by omega)) ?_
        refine ws_set ?_
        refine wp_op ?_
        refine wp_var rfl ?_
        refine wp_c ?_
        refine wr0 ?_
        have hd := Ma.div_lt (b := b) (n := m) (by omega) hm1 hc
        have e : m = b * (m / b) := by
          have := Int.mul_ediv_add_emod m b
          omega
        refine ⟨_, _, ?_, ⟨m / b, k + 1, rfl, rfl, ?_, by omega, by omega, rfl⟩, List.prefix_refl _⟩
        · omega
        · rw [Int.pow_succ, hm]
          have e3 : m / b * (b ^ k * b) = b * (m / b) * b ^ k := by
            rw [Int.mul_comm b, Int.mul_assoc, Int.mul_comm b (b ^ k)]
          rw [e3, ← e]
      · try simp only [decide_eq_true_eq, decide_eq_false_iff_not, Bool.and_eq_true, Bool.or_eq_true, Bool.not_eq_true', Bool.and_eq_false_iff, Bool.or_eq_false_iff, Bool.not_eq_false', Bool.not_true, Bool.not_false, Bool.false_or, Bool.true_and, Bool.true_or, Bool.false_and, Bool.and_true, Bool.or_false, reduceCtorEq, not_true_eq_false, not_false_eq_true, decide_true, decide_false] at hc
        refine ws_ret ?_
        refine wp_var rfl ?_
        refine .inr ⟨_, rfl, by omega, k, rfl, ?_⟩
        refine ((Ma.IsUnit.eq (by omega) (by omega) ⟨⟨k, rfl⟩, ⟨m, by rw [hm, Int.mul_comm]⟩, ?_⟩)).symm
        rintro ⟨c, hq⟩
        apply hc
        have e : b ^ k * m = b ^ k * (b * c) := by rw [Int.mul_comm, ← hm, hq, Int.mul_assoc]
        have e2 : m = b * c := Int.eq_of_mul_eq_mul_left (by have := Ma.pow_pos (b := b) (by omega) k; omega) e
        rw [e2]
        exact Int.mul_emod_right b c
theorem sc_Scheme_parent : FnScope ["self", "number"] ["self", "number"] (defScope s_Scheme_parent) := ⟨rfl, rfl, rfl, by decide +kernel, rfl, by decide +kernel, by decide +kernel⟩
def sp_Scheme_parent (CS : Addr) : Sp := fun vs H Q _ => ∃ (s dx : Addr) (b f : Int) (n : Int), (vs = [.ref s, .int n]) ∧ (H s = some (.ins CS dx (scF b f))) ∧ (SchOk b f ∧ 0 ≤ n ∧ n ≤ 10 ^ 60) ∧ ∀ (H' : Hp), Same H H' → Q (if n = 0 then .non else (.int (Ma.parF b n))) H'
theorem wc_Scheme_parent {CS : Addr} {g : Gr} {L : Led} {C : V → Led → Prop} {E : XK} {s dx : Addr} {b f : Int} {n : Int} {bo0 : Bool} (i0 : Nat) (h0 : L[i0]? = some (s, .ob (.ins CS dx (scF b f)), bo0)) (hpre : SchOk b f ∧ 0 ≤ n ∧ n ≤ 10 ^ 60) (c : C (if n = 0 then .non else (.int (Ma.parF b n))) L) : Wp g L (fun H Q => sp_Scheme_parent CS [.ref s, .int n] H Q E) C := fun H z Q q => ⟨s, dx, b, f, n, rfl, z.get h0, hpre, fun H' s' => q _ _ _ (c) (z.same s')⟩
theorem wc_Scheme_parent_pos {CS : Addr} {g : Gr} {L : Led} {C : V → Led → Prop} {E : XK} {s dx : Addr} {b f : Int} {n : Int} {bo0 : Bool} (i0 : Nat) (h0 : L[i0]? = some (s, .ob (.ins CS dx (scF b f)), bo0)) (hpre : SchOk b f ∧ 0 ≤ n ∧ n ≤ 10 ^ 60) (hz : ¬ (n = 0)) (c : C (.int (Ma.parF b n)) L) : Wp g L (fun H Q => sp_Scheme_parent CS [.ref s, .int n] H Q E) C := wc_Scheme_parent i0 h0 hpre (by rw [if_neg hz]; exact c)
theorem wc_Scheme_parent_zero {CS : Addr} {g : Gr} {L : Led} {C : V → Led → Prop} {E : XK} {s dx : Addr} {b f : Int} {n : Int} {bo0 : Bool} (i0 : Nat) (h0 : L[i0]? = some (s, .ob (.ins CS dx (scF b f)), bo0)) (hpre : SchOk b f ∧ 0 ≤ n ∧ n ≤ 10 ^ 60) (hz : n = 0) (c : C .non L) : Wp g L (fun H Q => sp_Scheme_parent CS [.ref s, .int n] H Q E) C := wc_Scheme_parent i0 h0 hpre (by rw [if_pos hz]; exact c)
theorem ok_Scheme_parent (T : Top K mg CS) : OkM P w K mg base CS 3 "parent" "Scheme.parent" s_Scheme_parent ["self", "number"] (sp_Scheme_parent CS) := by
  refine OkM.of T.f_Scheme_parent sc_Scheme_parent (fun _ _ _ _ _ _ us hl => match us, hl with | [_, _], _ => rfl) (fun vs H Q E h => ?_) (fun f cdv A outer s H vs Q E hr h => ?_)
  · obtain ⟨s, dx, b, f, n, rfl, _⟩ := h
    rfl
  · obtain ⟨s, dx, b, f, n, rfl, hh0, hpre, kk⟩ := h
    have hs := hpre.1
    unfold SchOk at hs
    refine ⟨_, (pss_cons (ps_expr (pe_own (ok_check_number T) (hr.mono (by decide)) rfl (pa_cons (pv 1) pa_nil)))
      (pss_one (ps_ret (pe_om T.cl_Scheme (ok_Scheme_parent_of T) (hr.mono (by decide)) (pv 0) (pa_cons (pv 1) pa_nil))))), ?_⟩
    refine run_ws (σ := [some (.ref s), some (.int n)]) (K := kV (fun v => v = (if n = 0 then .non else (.int (Ma.parF b n))))) (L := [(s, .ob (.ins CS dx (scF b f)), false)]) ?_ (at_one hh0) (eo_V fun v H' e s' => e ▸ kk H' s')
    refine ws_seq ?_
    refine ws_drop ?_
    refine wp_call ?_
    refine wa_cons ?_
    refine wp_var rfl ?_
    refine wa_nil ?_
    refine wc_check_number (by omega) ?_
    refine ws_ret ?_
    refine wp_meth 0 ?_
    refine wp_var rfl ?_
    refine ⟨_, _, _, _, rfl, rfl, scF_no _ _ (by decide +kernel) (by decide +kernel), ?_⟩
    refine wa_cons ?_
    refine wp_var rfl ?_
    refine wa_nil ?_
    refine wc_Scheme_parent_of 0 rfl hpre ?_
    exact rfl
theorem sc_Scheme_block : FnScope ["self", "number"] ["self", "number"] (defScope s_Scheme_block) := ⟨rfl, rfl, rfl, by decide +kernel, rfl, by decide +kernel, by decide +kernel⟩
def sp_Scheme_block (CS : Addr) : Sp := fun vs H Q _ => ∃ (s dx : Addr) (b f : Int) (n : Int), (vs = [.ref s, .int n]) ∧ (H s = some (.ins CS dx (scF b f))) ∧ (SchOk b f ∧ 0 ≤ n ∧ n ≤ 10 ^ 60) ∧ ∀ (p : Addr) (H' : Hp), H p = none → Same H H' → H' p = some (.tup [.int n, if n = 0 then .non else .int (n + Ma.unitF b n)]) → Q (.ref p) H'
theorem wc_Scheme_block {CS : Addr} {g : Gr} {L : Led} {C : V → Led → Prop} {E : XK} {s dx : Addr} {b f : Int} {n : Int} {bo0 : Bool} (i0 : Nat) (h0 : L[i0]? = some (s, .ob (.ins CS dx (scF b f)), bo0)) (hpre : SchOk b f ∧ 0 ≤ n ∧ n ≤ 10 ^ 60) (c : ∀ p : Addr, C (.ref p) (L ++ [(p, .ob (.tup [.int n, if n = 0 then .non else .int (n + Ma.unitF b n)]), true)])) : Wp g L (fun H Q => sp_Scheme_block CS [.ref s, .int n] H Q E) C := fun H z Q q => ⟨s, dx, b, f, n, rfl, z.get h0, hpre, fun p H' n s' hp => q _ _ _ (c p) (z.new s' n hp)⟩
theorem wc_Scheme_block_pos {CS : Addr} {g : Gr} {L : Led} {C : V → Led → Prop} {E : XK} {s dx : Addr} {b f n : Int} {bo0 : Bool} (i0 : Nat) (h0 : L[i0]? = some (s, .ob (.ins CS dx (scF b f)), bo0)) (hpre : SchOk b f ∧ 0 ≤ n ∧ n ≤ 10 ^ 60) (hz : ¬ n = 0)
    (c : ∀ p : Addr, C (.ref p) (L ++ [(p, .ob (.tup [.int n, .int (n + Ma.unitF b n)]), true)])) : Wp g L (fun H Q => sp_Scheme_block CS [.ref s, .int n] H Q E) C := wc_Scheme_block i0 h0 hpre (by rw [if_neg hz]; exact c)
theorem wc_Scheme_block_zero {CS : Addr} {g : Gr} {L : Led} {C : V → Led → Prop} {E : XK} {s dx : Addr} {b f n : Int} {bo0 : Bool} (i0 : Nat) (h0 : L[i0]? = some (s, .ob (.ins CS dx (scF b f)), bo0)) (hpre : SchOk b f ∧ 0 ≤ n ∧ n ≤ 10 ^ 60) (hz : n = 0)
    (c : ∀ p : Addr, C (.ref p) (L ++ [(p, .ob (.tup [.int n, .non]), true)])) : Wp g L (fun H Q => sp_Scheme_block CS [.ref s, .int n] H Q E) C := wc_Scheme_block i0 h0 hpre (by rw [if_pos hz]; exact c)
theorem ok_Scheme_block (T : Top K mg CS) : OkM P w K mg base CS 3 "block" "Scheme.block" s_Scheme_block ["self", "number"] (sp_Scheme_block CS) := by
  refine OkM.of T.f_Scheme_block sc_Scheme_block (fun _ _ _ _ _ _ us hl => match us, hl with | [_, _], _ => rfl) (fun vs H Q E h => ?_) (fun f cdv A outer s H vs Q E hr h => ?_)
  · obtain ⟨s, dx, b, f, n, rfl, _⟩ := h
    rfl
  · obtain ⟨s, dx, b, f, n, rfl, hh0, hpre, kk⟩ := h
    have hs := hpre.1
    unfold SchOk at hs
    refine ⟨_, (pss_cons (ps_expr (pe_own (ok_check_number T) (hr.mono (by decide)) rfl (pa_cons (pv 1) pa_nil)))
      (pss_one (ps_ret (pe_tup (pa_cons (pv 1) (pa_cons (pe_ifExp (pt_cmpR op_eq (pv 1) pe_int (nomark _)) pe_non (pe_op op_add (pv 1) (pe_om T.cl_Scheme (ok_Scheme_unit T) (hr.mono (by decide)) (pv 0) (pa_cons (pv 1) pa_nil)))) pa_nil)))))), ?_⟩
    refine run_ws (σ := [some (.ref s), some (.int n)]) (K := kN (.tup [.int n, if n = 0 then .non else .int (n + Ma.unitF b n)])) (L := [(s, .ob (.ins CS dx (scF b f)), false)]) ?_ (at_one hh0) (eo_N fun p H' n s' hp => kk p H' n s' hp)
    refine ws_seq ?_
    refine ws_drop ?_
    refine wp_call ?_
    refine wa_cons ?_
    refine wp_var rfl ?_
    refine wa_nil ?_
    refine wc_check_number (by omega) ?_
    refine ws_ret ?_
    refine wp_tup ?_
    refine wa_cons ?_
    refine wp_var rfl ?_
    refine wa_cons ?_
    refine wp_if ?_
    refine wt_test ?_
    refine wp_op ?_
    refine wp_var rfl ?_
    refine wp_c ?_
    refine wr_eqI ?_
    refine ⟨_, rfl, ?_⟩
    refine ifB (fun hc1 => ?_) (fun hc1 => ?_)
    · try simp only [decide_eq_true_eq, decide_eq_false_iff_not, Bool.and_eq_true, Bool.or_eq_true, Bool.not_eq_true', Bool.and_eq_false_iff, Bool.or_eq_false_iff, Bool.not_eq_false', Bool.not_true, Bool.not_false, Bool.false_or, Bool.true_and, Bool.true_or, Bool.false_and, Bool.and_true, Bool.or_false, reduceCtorEq, not_true_eq_false, not_false_eq_true, decide_true, decide_false] at hc1
      refine wp_c ?_
      refine wa_nil ?_
      refine ⟨by simp, fun p2 => ?_⟩
      exact ⟨_, 1, rfl, by first | (rw [if_pos (show n = 0 by omega)]; rfl) | (rw [if_neg (show ¬ n = 0 by omega)]; rfl)⟩
    · try simp only [decide_eq_true_eq, decide_eq_false_iff_not, Bool.and_eq_true, Bool.or_eq_true, Bool.not_eq_true', Bool.and_eq_false_iff, Bool.or_eq_false_iff, Bool.not_eq_false', Bool.not_true, Bool.not_false, Bool.false_or, Bool.true_and, Bool.true_or, Bool.false_and, Bool.and_true, Bool.or_false, reduceCtorEq, not_true_eq_false, not_false_eq_true, decide_true, decide_false] at hc1
      refine wp_op ?_
      refine wp_var rfl ?_
      refine wp_meth 0 ?_
      refine wp_var rfl ?_
      refine ⟨_, _, _, _, rfl, rfl, scF_no _ _ (by decide +kernel) (by decide +kernel), ?_⟩
      refine wa_cons ?_
      refine wp_var rfl ?_
      refine wa_nil ?_
      refine wc_Scheme_unit 0 rfl ⟨by (unfold SchOk; omega), by omega⟩ ?_
      refine wr0 ?_
      refine wa_nil ?_
      refine ⟨by simp, fun p3 => ?_⟩
      exact ⟨_, 1, rfl, by first | (rw [if_pos (show n = 0 by omega)]; rfl) | (rw [if_neg (show ¬ n = 0 by omega)]; rfl)⟩
theorem sc_Scheme_has_in_chain : FnScope ["self", "number", "ancestor"] ["self", "number", "ancestor"] (defScope s_Scheme_has_in_chain) := ⟨rfl, rfl, rfl, by decide +kernel, rfl, by decide +kernel, by decide +kernel⟩
def sp_Scheme_has_in_chain (CS : Addr) : Sp := fun vs H Q _ => ∃ (s dx : Addr) (b f : Int) (n m : Int), (vs = [.ref s, .int n, .int m]) ∧ (H s = some (.ins CS dx (scF b f))) ∧ (SchOk b f ∧ 0 ≤ n ∧ 0 ≤ m ∧ m ≤ 10 ^ 60) ∧ ∀ (H' : Hp), Same H H' → Q (.bl (Ma.inCh b n m)) H'
theorem wc_Scheme_has_in_chain {CS : Addr} {g : Gr} {L : Led} {C : V → Led → Prop} {E : XK} {s dx : Addr} {b f : Int} {n m : Int} {bo0 : Bool} (i0 : Nat) (h0 : L[i0]? = some (s, .ob (.ins CS dx (scF b f)), bo0)) (hpre : SchOk b f ∧ 0 ≤ n ∧ 0 ≤ m ∧ m ≤ 10 ^ 60) (c : C (.bl (Ma.inCh b n m)) L) : Wp g L (fun H Q => sp_Scheme_has_in_chain CS [.ref s, .int n, .int m] H Q E) C := fun H z Q q => ⟨s, dx, b, f, n, m, rfl, z.get h0, hpre, fun H' s' => q _ _ _ (c) (z.same s')⟩
theorem ok_Scheme_has_in_chain (T : Top K mg CS) : OkM P w K mg base CS 3 "has_in_chain" "Scheme.has_in_chain" s_Scheme_has_in_chain ["self", "number", "ancestor"] (sp_Scheme_has_in_chain CS) := by
  refine OkM.of T.f_Scheme_has_in_chain sc_Scheme_has_in_chain (fun _ _ _ _ _ _ us hl => match us, hl with | [_, _, _], _ => rfl) (fun vs H Q E h => ?_) (fun f cdv A outer s H vs Q E hr h => ?_)
  · obtain ⟨s, dx, b, f, n, m, rfl, _⟩ := h
    rfl
  · obtain ⟨s, dx, b, f, n, m, rfl, hh0, hpre, kk⟩ := h
    have hs := hpre.1
    unfold SchOk at hs
    refine ⟨_, (pss_cons (ps_expr (pe_own (ok_check_number T) (hr.mono (by decide)) rfl (pa_cons (pv 1) pa_nil)))
      (pss_cons (ps_expr (pe_own (ok_check_number T) (hr.mono (by decide)) rfl (pa_cons (pv 2) pa_nil)))
      (pss_one (ps_ret (pe_or (pe_cmpR op_eq (pv 2) pe_int (nomark _)) (pe_one (pe_chain op_le op_lt (pv 2) (pv 1) (pe_op op_add (pv 2) (pe_om T.cl_Scheme (ok_Scheme_unit T) (hr.mono (by decide)) (pv 0) (pa_cons (pv 2) pa_nil)))))))))), ?_⟩
    refine run_ws (σ := [some (.ref s), some (.int n), some (.int m)]) (K := kV (fun v => v = (.bl (Ma.inCh b n m)))) (L := [(s, .ob (.ins CS dx (scF b f)), false)]) ?_ (at_one hh0) (eo_V fun v H' e s' => e ▸ kk H' s')
    refine ws_seq ?_
    refine ws_drop ?_
    refine wp_call ?_
    refine wa_cons ?_
    refine wp_var rfl ?_
    refine wa_nil ?_
    refine wc_check_number (by omega) ?_
    refine ws_seq ?_
    refine ws_drop ?_
    refine wp_call ?_
    refine wa_cons ?_
    refine wp_var rfl ?_
    refine wa_nil ?_
    refine wc_check_number (by omega) ?_
    refine ws_ret ?_
    refine wp_orVP ?_
    refine wp_op ?_
    refine wp_var rfl ?_
    refine wp_c ?_
    refine wr_eqI ?_
    refine ⟨_, rfl, ?_⟩
    apply andK
    · intro hb1
      try simp only [decide_eq_true_eq, decide_eq_false_iff_not, Bool.and_eq_true, Bool.or_eq_true, Bool.not_eq_true', Bool.and_eq_false_iff, Bool.or_eq_false_iff, Bool.not_eq_false', Bool.not_true, Bool.not_false, Bool.false_or, Bool.true_and, Bool.true_or, Bool.false_and, Bool.and_true, Bool.or_false, reduceCtorEq, not_true_eq_false, not_false_eq_true, decide_true, decide_false] at hb1
      refine wp_chainP ?_
      refine wp_var rfl ?_
      refine wp_var rfl ?_
      refine wr0 ?_
      refine ⟨_, rfl, ?_⟩
      apply andK
      · intro _
        refine wp_op ?_
        refine wp_var rfl ?_
        refine wp_meth 0 ?_
        refine wp_var rfl ?_
        refine ⟨_, _, _, _, rfl, rfl, scF_no _ _ (by decide +kernel) (by decide +kernel), ?_⟩
        refine wa_cons ?_
        refine wp_var rfl ?_
        refine wa_nil ?_
        refine wc_Scheme_unit 0 rfl ⟨by (unfold SchOk; omega), by omega⟩ ?_
        refine wr0 ?_
        refine wr0 ?_
        exact ⟨rfl, rfl⟩
      exact ⟨rfl, rfl⟩
    exact rfl
theorem sc__law_one_right : FnScope ["_law_scheme_here", "_law_radix", "_law_times", "_law_one_number", "_law_unit_here", "_law_level", "_law_left", "_law_chain", "_law_odd", "_law_one_here"] ["_law_scheme_here", "_law_radix", "_law_times", "_law_one_number"] (defScope s__law_one_right) := ⟨rfl, rfl, rfl, by decide +kernel, rfl, by decide +kernel, by decide +kernel⟩
def sp__law_one_right (CS : Addr) : Sp := fun vs H Q _ => ∃ (s dx : Addr) (b f : Int) (n : Int), (vs = [.ref s, .int b, .int f, .int n]) ∧ (H s = some (.ins CS dx (scF b f))) ∧ (SchOk b f ∧ 1 ≤ n ∧ n ≤ 10 ^ 23) ∧ ∀ (H' : Hp), Same H H' → Q (.bl true) H'
theorem wc__law_one_right {CS : Addr} {g : Gr} {L : Led} {C : V → Led → Prop} {E : XK} {s dx : Addr} {b f : Int} {n : Int} {bo0 : Bool} (i0 : Nat) (h0 : L[i0]? = some (s, .ob (.ins CS dx (scF b f)), bo0)) (hpre : SchOk b f ∧ 1 ≤ n ∧ n ≤ 10 ^ 23) (c : C (.bl true) L) : Wp g L (fun H Q => sp__law_one_right CS [.ref s, .int b, .int f, .int n] H Q E) C := fun H z Q q => ⟨s, dx, b, f, n, rfl, z.get h0, hpre, fun H' s' => q _ _ _ (c) (z.same s')⟩
theorem ok__law_one_right (T : Top K mg CS) : Ok P w K mg base 4 "_law_one_right" s__law_one_right ["_law_scheme_here", "_law_radix", "_law_times", "_law_one_number"] (sp__law_one_right CS) := by
  refine Ok.of T.f__law_one_right sc__law_one_right (fun _ _ _ _ _ _ us hl => match us, hl with | [_, _, _, _], _ => rfl) (fun vs H Q E h => ?_) (fun f cdv A outer s H vs Q E hr h => ?_)
  · obtain ⟨s, dx, b, f, n, rfl, _⟩ := h
    rfl
  · obtain ⟨s, dx, b, f, n, rfl, hh0, hpre, kk⟩ := h
    have hs := hpre.1
    unfold SchOk at hs
    have hu1 := Ma.unitF_pos (b := b) (n := n) (by omega)
    have hu2 := Ma.unitF_le (b := b) (n := n) (by omega)
    obtain ⟨ju, hju⟩ : Ma.IsPow b (Ma.unitF b n) := Ma.unitN_pow b _ _
    refine ⟨_, (pss_cons (ps_set (i := 4) sc__law_one_right.nd rfl (Or.inl rfl) (pe_own (ok__law_unit T) (hr.mono (by decide)) rfl (pa_cons (pv 1) (pa_cons (pv 3) pa_nil))))
      (pss_cons (ps_set (i := 5) sc__law_one_right.nd rfl (Or.inl rfl) pe_int)
      (pss_cons (ps_set (i := 6) sc__law_one_right.nd rfl (Or.inl rfl) (pv 4))
      (pss_cons (ps_while PassesOwn.never (pt_cmpR op_gt (pv 6) pe_int (nomark _)) (pss_cons (ps_set (i := 6) sc__law_one_right.nd rfl (Or.inl rfl) (pe_op op_fdivW (pv 6) (pv 1)))
      (pss_one (ps_set (i := 5) sc__law_one_right.nd rfl (Or.inl rfl) (pe_op op_add (pv 5) pe_int)))))
      (pss_cons (ps_set (i := 7) sc__law_one_right.nd rfl (Or.inr rfl) (pe_lst (pa_cons (pv 3) pa_nil)))
      (pss_cons (ps_while PassesOwn.never (pt_cmpR op_gt (pe_ix ix_list (pv 7) (pe_un un_neg pe_int) (fun _ _ => rfl)) pe_int (nomark _)) (pss_one (ps_expr (pe_bm PySem.F.plainAttrs_list PySem.F.slot_list_append PySem.F.type_list_append mt_append (pv 7) (pa_cons (pe_own (ok__law_parent T) (hr.mono (by decide)) rfl (pa_cons (pv 1) (pa_cons (pe_ix ix_list (pv 7) (pe_un un_neg pe_int) (fun _ _ => rfl)) pa_nil))) pa_nil)))))
      (pss_cons (ps_if (PW.pt (pw_or (pt_cmpR op_ne (pe_om T.cl_Scheme (ok_Scheme_level T) (hr.mono (by decide)) (pv 0) (pa_cons (pv 3) pa_nil)) (pv 5) (nomark _)) (pw_or (pt_cmpR op_ne (pe_om T.cl_Scheme (ok_Scheme_parent T) (hr.mono (by decide)) (pv 0) (pa_cons (pv 3) pa_nil)) (pe_ix ix_list (pv 7) pe_int (fun _ _ => rfl)) (nomark _)) (pw_or1 (pt_cmpR (op_neD hr.units) (pe_om T.cl_Scheme (ok_Scheme_chain T) (hr.mono (by decide)) (pv 0) (pa_cons (pv 3) pa_nil)) (pv 7) (nomark _)))))) (pss_one (ps_ret pe_bl)) pss_nil)
      (pss_cons (ps_expr (pe_bm PySem.F.plainAttrs_list PySem.F.slot_list_append PySem.F.type_list_append mt_append (pe_om T.cl_Scheme (ok_Scheme_chain T) (hr.mono (by decide)) (pv 0) (pa_cons (pv 3) pa_nil)) (pa_cons pe_non pa_nil)))
      (pss_cons (ps_if (PW.pt (pw_or (pt_cmpR (op_neD hr.units) (pe_kwM (ks := ["number"]) [0] T.cl_Scheme (ok_Scheme_chain T) (hr.mono (by decide)) (pv 0) (pk_cons (pv 3) pk_nil) (fun _ _ _ _ _ _ _ ws hl => match ws, hl with | [_], _ => rfl)) (pv 7) (nomark _)) (pw_or1 (pt_cmpR (op_neD hr.units) (pe_om T.cl_Scheme (ok_Scheme_block T) (hr.mono (by decide)) (pv 0) (pa_cons (pv 3) pa_nil)) (pe_tup (pa_cons (pv 3) (pa_cons (pe_op op_add (pv 3) (pv 4)) pa_nil))) (nomark _))))) (pss_one (ps_ret pe_bl)) pss_nil)
      (pss_cons (ps_if (pt_not (pt_val (pe_callB (cr_all rfl) (by rfl) T.b_all (by decide +kernel) (pa_cons (pe_lc (own := [("_law_one_here", 9)]) rfl sc__law_one_right.nd (pi_list (pv 7)) (blkOk_by (N := ["_law_scheme_here", "_law_radix", "_law_times", "_law_one_number", "_law_unit_here", "_law_level", "_law_left", "_law_chain", "_law_odd", "_law_one_here"]) (sc := defScope s__law_one_right) (by decide +kernel)) (fun _ _ _ _ _ => (pg_name (i := 9) sc__law_one_right.nd rfl (Or.inl rfl))) (fun _ _ _ _ _ => pts_nil) (fun _ _ _ _ _ => (pe_cmpR op_isBl (pe_om T.cl_Scheme (ok_Scheme_has_in_chain T) (hr.mono (by decide)) (pv 0) (pa_cons (pv 3) (pa_cons (pv 9) pa_nil))) pe_bl (nomark _)))) pa_nil)))) (pss_one (ps_ret pe_bl)) pss_nil)
      (pss_cons (ps_setLc (i := 8) (own := [("_law_one_here", 9)]) rfl sc__law_one_right.nd rfl rfl (sw_true rfl rfl rfl (by decide +kernel)) (pi_list (pv 7)) (blkOk_by (N := ["_law_scheme_here", "_law_radix", "_law_times", "_law_one_number", "_law_unit_here", "_law_level", "_law_left", "_law_chain", "_law_odd", "_law_one_here"]) (sc := defScope s__law_one_right) (by decide +kernel)) (fun _ _ _ _ _ => (pg_name (i := 9) sc__law_one_right.nd rfl (Or.inl rfl))) (fun _ _ _ _ _ => (pts_one (pt_cmpR (op_notIn_seqK (Kf := K) rfl) (pe_op op_add (pv 9) pe_int) (pv 7) (by rfl)))) (fun _ _ _ _ _ => (pe_op op_add (pv 9) pe_int)))
      (pss_cons (ps_if (pt_cmpR (op_neD hr.units) (pe_lc (own := [("_law_one_here", 9)]) rfl sc__law_one_right.nd (pi_list (pv 8)) (blkOk_by (N := ["_law_scheme_here", "_law_radix", "_law_times", "_law_one_number", "_law_unit_here", "_law_level", "_law_left", "_law_chain", "_law_odd", "_law_one_here"]) (sc := defScope s__law_one_right) (by decide +kernel)) (fun _ _ _ _ _ => (pg_name (i := 9) sc__law_one_right.nd rfl (Or.inl rfl))) (fun _ _ _ _ _ => (pts_one (pt_cmpR op_notBl (pe_om T.cl_Scheme (ok_Scheme_has_in_chain T) (hr.mono (by decide)) (pv 0) (pa_cons (pv 3) (pa_cons (pv 9) pa_nil))) pe_bl (nomark _)))) (fun _ _ _ _ _ => (pv 9))) (pe_lst pa_nil) (nomark _)) (pss_one (ps_ret pe_bl)) pss_nil)
      (pss_one (ps_ret (pe_cmpR op_eq (pe_om T.cl_Scheme (ok_Scheme_last_time T) (hr.mono (by decide)) (pv 0) (pa_cons (pv 3) pa_nil)) (pe_op op_add (pv 3) (pe_op op_mulW (pv 2) (pv 4))) (nomark _)))))))))))))))), ?_⟩
    refine run_ws (σ := [some (.ref s), some (.int b), some (.int f), some (.int n), none, none, none, none, none, none]) (K := kV (fun v => v = (.bl true))) (L := [(s, .ob (.ins CS dx (scF b f)), false)]) ?_ (at_one hh0) (eo_V fun v H' e s' => e ▸ kk H' s')
    refine ws_seq ?_
    refine ws_set ?_
    refine wp_call ?_
    refine wa_cons ?_
    refine wp_var rfl ?_
    refine wa_cons ?_
    refine wp_var rfl ?_
    refine wa_nil ?_
    refine wc__law_unit (by omega) ?_
    refine ws_nf (σ' := [_, _, _, _, _, _, _, _, _, _]) (L' := [_]) rfl rfl ?_
    refine ws_seq ?_
    refine ws_set ?_
    refine wp_c ?_
    refine ws_nf (σ' := [_, _, _, _, _, _, _, _, _, _]) (L' := [_]) rfl rfl ?_
    refine ws_seq ?_
    refine ws_set ?_
    refine wp_var rfl ?_
    refine ws_nf (σ' := [_, _, _, _, _, _, _, _, _, _]) (L' := [_]) rfl rfl ?_
    refine ws_seq ?_
    refine ws_whileS (fun mm vs => ∃ lv : Int, ∃ x : Int, vs = [none, none, none, none, none, some (some (.int lv)), some (some (.int x)), none, none, none] ∧ (1 ≤ x ∧ 0 ≤ lv ∧ ∃ j : Nat, x = b ^ j ∧ Ma.unitF b n = b ^ (lv.toNat + j)) ∧ mm = x.toNat) ?_ ?_
    · exact ⟨_, [none, none, none, none, none, some _, some _, none, none, none], rfl, _, _, rfl, ⟨by omega, by omega, ju, hju, by rw [show (0 : Int).toNat = 0 from rfl, Nat.zero_add]; exact hju⟩, rfl⟩
    rintro mm vs ⟨lv, x, rfl, ⟨hx1, hl0, jx, hxj, hxu⟩, hmm⟩
    refine wt_test ?_
    refine wp_op ?_
    refine wp_var rfl ?_
    refine wp_c ?_
    refine wr0 ?_
    refine ⟨_, rfl, ?_⟩
    refine ifB (fun hc => ?_) (fun hc => ?_)
    · try simp only [decide_eq_true_eq, decide_eq_false_iff_not, Bool.and_eq_true, Bool.or_eq_true, Bool.not_eq_true', Bool.and_eq_false_iff, Bool.or_eq_false_iff, Bool.not_eq_false', Bool.not_true, Bool.not_false, Bool.false_or, Bool.true_and, Bool.true_or, Bool.false_and, Bool.and_true, Bool.or_false, reduceCtorEq, not_true_eq_false, not_false_eq_true, decide_true, decide_false] at hc
      obtain ⟨iq, rfl, hq1, hq2, hq3⟩ := Ma.lev_left (by omega) hxj hc
      refine ws_seq ?_
      refine ws_set ?_
      refine wp_op ?_
      refine wp_var rfl ?_
      refine wp_var rfl ?_
      refine wr1 (by exact divOk (by omega)) ?_
      refine ws_nf (σ' := [_, _, _, _, _, _, _, _, _, _]) (L' := [_]) rfl rfl ?_
      refine ws_set ?_
      refine wp_op ?_
      refine wp_var rfl ?_
      refine wp_c ?_
      refine wr0 ?_
      exact ⟨_, [none, none, none, none, none, some _, some _, none, none, none], by omega, ⟨rfl, _, _, rfl, ⟨hq2, by omega, iq, hq1, by rw [hxu]; congr 1; omega⟩, rfl⟩, ⟨_, rfl⟩⟩
    · try simp only [decide_eq_true_eq, decide_eq_false_iff_not, Bool.and_eq_true, Bool.or_eq_true, Bool.not_eq_true', Bool.and_eq_false_iff, Bool.or_eq_false_iff, Bool.not_eq_false', Bool.not_true, Bool.not_false, Bool.false_or, Bool.true_and, Bool.true_or, Bool.false_and, Bool.and_true, Bool.or_false, reduceCtorEq, not_true_eq_false, not_false_eq_true, decide_true, decide_false] at hc
      have hul := Ma.lev_done (by omega) hxj hxu hc
      refine ws_nf (σ' := [_, _, _, _, _, _, _, _, _, _]) (L' := [_]) rfl rfl ?_
      refine ws_seq ?_
      refine ws_set ?_
      refine wp_lst ?_
      refine wa_cons ?_
      refine wp_var rfl ?_
      refine wa_nil ?_
      refine ⟨by simp, fun p1 => ?_⟩
      refine ws_nf (σ' := [_, _, _, _, _, _, _, _, _, _]) (L' := [_, _]) rfl rfl ?_
      refine ws_seq ?_
      refine ws_whileA 1 rfl (fun mj vs e => ∃ pre : List Int, ∃ y : Int, vs = [none, none, none, none, none, none, none, none, none, none] ∧ e = .ob (.lst ((pre ++ [y]).map V.int)) ∧ (Ma.chainF b n = pre ++ Ma.chainF b y ∧ 0 ≤ y ∧ y ≤ n) ∧ mj = y.toNat) ?_ ?_
      · exact ⟨_, [none, none, none, none, none, none, none, none, none, none], rfl, [], n, rfl, rfl, ⟨rfl, by omega, by omega⟩, rfl⟩
      rintro mj vs e ⟨pre, y, rfl, rfl, hI, hmm⟩
      refine wt_test ?_
      refine wp_op ?_
      refine wp_op ?_
      refine wp_var rfl ?_
      refine wp_un ?_
      refine wp_c ?_
      refine wu0 ?_
      refine wr_ixL (seen 1 rfl) (last_map) ?_
      refine wp_c ?_
      refine wr0 ?_
      refine ⟨_, rfl, ?_⟩
      refine ifB (fun hc2 => ?_) (fun hc2 => ?_)
      · try simp only [decide_eq_true_eq, decide_eq_false_iff_not, Bool.and_eq_true, Bool.or_eq_true, Bool.not_eq_true', Bool.and_eq_false_iff, Bool.or_eq_false_iff, Bool.not_eq_false', Bool.not_true, Bool.not_false, Bool.false_or, Bool.true_and, Bool.true_or, Bool.false_and, Bool.and_true, Bool.or_false, reduceCtorEq, not_true_eq_false, not_false_eq_true, decide_true, decide_false] at hc2
        have hp1 := Ma.parF_nonneg (b := b) (n := y) (by omega) (by omega)
        have hp2 := Ma.parF_lt (b := b) (n := y) (by omega) (by omega)
        refine ws_drop ?_
        refine wp_bm ?_
        refine wp_var rfl ?_
        refine ⟨ty_list 1 rfl, ?_⟩
        refine wa_cons ?_
        refine wp_call ?_
        refine wa_cons ?_
        refine wp_var rfl ?_
        refine wa_cons ?_
        refine wp_op ?_
        refine wp_var rfl ?_
        refine wp_un ?_
        refine wp_c ?_
        refine wu0 ?_
        refine wr_ixL (seen 1 rfl) (last_map) ?_
        refine wa_nil ?_
        refine wc__law_parent (by omega) ?_
        refine wa_nil ?_
        refine wr_app (e := .src 0) 1 rfl (by (first | (have := Ma.chainF_small (b := b) (n := n) (by omega) (by omega) (by omega); rw [hI.1] at this; simp at this; simp; omega) | (rw [List.length_map]; have := Ma.chainF_small (b := b) (n := n) (by omega) (by omega) (by omega); omega))) ?_
        rw [app_ints]
        exact ⟨_, [none, none, none, none, none, none, none, none, none, none], _, by omega, ⟨rfl, _, _, rfl, rfl, ⟨by rw [hI.1, Ma.chainF_pos (by omega) (by omega)]; simp, hp1, by omega⟩, rfl⟩, ⟨_, rfl⟩⟩
      · try simp only [decide_eq_true_eq, decide_eq_false_iff_not, Bool.and_eq_true, Bool.or_eq_true, Bool.not_eq_true', Bool.and_eq_false_iff, Bool.or_eq_false_iff, Bool.not_eq_false', Bool.not_true, Bool.not_false, Bool.false_or, Bool.true_and, Bool.true_or, Bool.false_and, Bool.and_true, Bool.or_false, reduceCtorEq, not_true_eq_false, not_false_eq_true, decide_true, decide_false] at hc2
        have hy0 : y = 0 := by omega
        subst hy0
        have hch : pre ++ [0] = Ma.chainF b n := by rw [hI.1, Ma.chainF_zero]
        rw [hch]
        refine ws_nf (σ' := [_, _, _, _, _, _, _, _, _, _]) (L' := [_, _]) rfl rfl ?_
        refine ws_seq ?_
        refine ws_if ?_
        refine wt_or ?_
        refine wt_test ?_
        refine wp_op ?_
        refine wp_meth 0 ?_
        refine wp_var rfl ?_
        refine ⟨_, _, _, _, rfl, rfl, scF_no _ _ (by decide +kernel) (by decide +kernel), ?_⟩
        refine wa_cons ?_
        refine wp_var rfl ?_
        refine wa_nil ?_
        refine wc_Scheme_level 0 rfl ⟨by (unfold SchOk; omega), by omega⟩ ?_ ?_
        · intro hNV
          exfalso
          omega
        · intro vV hVV
          obtain ⟨hV1, kV, rfl, hkV⟩ := hVV
          have hlv := Ma.lev_eq (by omega) hkV hul
          refine wp_var rfl ?_
          refine wr_neI ?_
          refine ⟨_, rfl, ?_⟩
          refine ifB (fun hb2 => ?_) (fun hb2 => ?_)
          · try simp only [decide_eq_true_eq, decide_eq_false_iff_not, Bool.and_eq_true, Bool.or_eq_true, Bool.not_eq_true', Bool.and_eq_false_iff, Bool.or_eq_false_iff, Bool.not_eq_false', Bool.not_true, Bool.not_false, Bool.false_or, Bool.true_and, Bool.true_or, Bool.false_and, Bool.and_true, Bool.or_false, reduceCtorEq, not_true_eq_false, not_false_eq_true, decide_true, decide_false] at hb2
            all_goals
              exfalso
              first
                | omega
                | exact hb2 rfl
                | simp_all
          · try simp only [decide_eq_true_eq, decide_eq_false_iff_not, Bool.and_eq_true, Bool.or_eq_true, Bool.not_eq_true', Bool.and_eq_false_iff, Bool.or_eq_false_iff, Bool.not_eq_false', Bool.not_true, Bool.not_false, Bool.false_or, Bool.true_and, Bool.true_or, Bool.false_and, Bool.and_true, Bool.or_false, reduceCtorEq, not_true_eq_false, not_false_eq_true, decide_true, decide_false] at hb2
            refine wt_or ?_
            refine wt_test ?_
            refine wp_op ?_
            refine wp_meth 0 ?_
            refine wp_var rfl ?_
            refine ⟨_, _, _, _, rfl, rfl, scF_no _ _ (by decide +kernel) (by decide +kernel), ?_⟩
            refine wa_cons ?_
            refine wp_var rfl ?_
            refine wa_nil ?_
            refine wc_Scheme_parent_pos 0 rfl ⟨by (unfold SchOk; omega), by omega⟩ (by omega) ?_
            refine wp_op ?_
            refine wp_var rfl ?_
            refine wp_c ?_
            refine wr_ixL (seen 1 rfl) (Ma.chain_ix1 (by omega) (by omega)) ?_
            refine wr_neI ?_
            refine ⟨_, rfl, ?_⟩
            refine ifB (fun hb3 => ?_) (fun hb3 => ?_)
            · try simp only [decide_eq_true_eq, decide_eq_false_iff_not, Bool.and_eq_true, Bool.or_eq_true, Bool.not_eq_true', Bool.and_eq_false_iff, Bool.or_eq_false_iff, Bool.not_eq_false', Bool.not_true, Bool.not_false, Bool.false_or, Bool.true_and, Bool.true_or, Bool.false_and, Bool.and_true, Bool.or_false, reduceCtorEq, not_true_eq_false, not_false_eq_true, decide_true, decide_false] at hb3
              all_goals
                exfalso
                first
                  | omega
                  | exact hb3 rfl
                  | simp_all
            · try simp only [decide_eq_true_eq, decide_eq_false_iff_not, Bool.and_eq_true, Bool.or_eq_true, Bool.not_eq_true', Bool.and_eq_false_iff, Bool.or_eq_false_iff, Bool.not_eq_false', Bool.not_true, Bool.not_false, Bool.false_or, Bool.true_and, Bool.true_or, Bool.false_and, Bool.and_true, Bool.or_false, reduceCtorEq, not_true_eq_false, not_false_eq_true, decide_true, decide_false] at hb3
              refine wt_test ?_
              refine wp_op ?_
              refine wp_meth 0 ?_
              refine wp_var rfl ?_
              refine ⟨_, _, _, _, rfl, rfl, scF_no _ _ (by decide +kernel) (by decide +kernel), ?_⟩
              refine wa_cons ?_
              refine wp_var rfl ?_
              refine wa_nil ?_
              refine wc_Scheme_chain 0 rfl ⟨by (unfold SchOk; omega), by omega⟩ ?_
              intro p4
              refine wp_var rfl ?_
              refine wr_neLI (seen 2 rfl) (seen 1 rfl) ?_
              refine ⟨_, rfl, ?_⟩
              refine ifB (fun hc5 => ?_) (fun hc5 => ?_)
              · try simp only [decide_eq_true_eq, decide_eq_false_iff_not, Bool.and_eq_true, Bool.or_eq_true, Bool.not_eq_true', Bool.and_eq_false_iff, Bool.or_eq_false_iff, Bool.not_eq_false', Bool.not_true, Bool.not_false, Bool.false_or, Bool.true_and, Bool.true_or, Bool.false_and, Bool.and_true, Bool.or_false, reduceCtorEq, not_true_eq_false, not_false_eq_true, decide_true, decide_false] at hc5
                all_goals
                  exfalso
                  first
                    | omega
                    | exact hc5 rfl
                    | simp_all
              · try simp only [decide_eq_true_eq, decide_eq_false_iff_not, Bool.and_eq_true, Bool.or_eq_true, Bool.not_eq_true', Bool.and_eq_false_iff, Bool.or_eq_false_iff, Bool.not_eq_false', Bool.not_true, Bool.not_false, Bool.false_or, Bool.true_and, Bool.true_or, Bool.false_and, Bool.and_true, Bool.or_false, reduceCtorEq, not_true_eq_false, not_false_eq_true, decide_true, decide_false] at hc5
                refine ws_next ?_
                refine ws_seq ?_
                refine ws_drop ?_
                refine wp_bm ?_
                refine wp_meth 0 ?_
                refine wp_var rfl ?_
                refine ⟨_, _, _, _, rfl, rfl, scF_no _ _ (by decide +kernel) (by decide +kernel), ?_⟩
                refine wa_cons ?_
                refine wp_var rfl ?_
                refine wa_nil ?_
                refine wc_Scheme_chain 0 rfl ⟨by (unfold SchOk; omega), by omega⟩ ?_
                intro p6
                refine ⟨ty_list 3 rfl, ?_⟩
                refine wa_cons ?_
                refine wp_c ?_
                refine wa_nil ?_
                refine wr_app (e := .src 0) 3 rfl (by (first | (have := Ma.chainF_small (b := b) (n := n) (by omega) (by omega) (by omega); rw [hI.1] at this; simp at this; simp; omega) | (rw [List.length_map]; have := Ma.chainF_small (b := b) (n := n) (by omega) (by omega) (by omega); omega))) ?_
                refine ws_seq ?_
                refine ws_if ?_
                refine wt_or ?_
                refine wt_test ?_
                refine wp_op ?_
                refine wp_kwM 0 ?_
                refine wp_var rfl ?_
                refine ⟨_, _, _, _, rfl, rfl, scF_no _ _ (by decide +kernel) (by decide +kernel), ?_⟩
                refine wa_cons ?_
                refine wp_var rfl ?_
                refine wa_nil ?_
                refine ⟨rfl, ?_⟩
                refine wc_Scheme_chain 0 rfl ⟨by (unfold SchOk; omega), by omega⟩ ?_
                intro p7
                refine wp_var rfl ?_
                refine wr_neLI (seen 4 rfl) (seen 1 rfl) ?_
                refine ⟨_, rfl, ?_⟩
                refine ifB (fun hb8 => ?_) (fun hb8 => ?_)
                · try simp only [decide_eq_true_eq, decide_eq_false_iff_not, Bool.and_eq_true, Bool.or_eq_true, Bool.not_eq_true', Bool.and_eq_false_iff, Bool.or_eq_false_iff, Bool.not_eq_false', Bool.not_true, Bool.not_false, Bool.false_or, Bool.true_and, Bool.true_or, Bool.false_and, Bool.and_true, Bool.or_false, reduceCtorEq, not_true_eq_false, not_false_eq_true, decide_true, decide_false] at hb8
                  all_goals
                    exfalso
                    first
                      | exact hb8 rfl
                      | (simp [PyData.eqv, PyData.eqvAll] at hb8; done)
                · try simp only [decide_eq_true_eq, decide_eq_false_iff_not, Bool.and_eq_true, Bool.or_eq_true, Bool.not_eq_true', Bool.and_eq_false_iff, Bool.or_eq_false_iff, Bool.not_eq_false', Bool.not_true, Bool.not_false, Bool.false_or, Bool.true_and, Bool.true_or, Bool.false_and, Bool.and_true, Bool.or_false, reduceCtorEq, not_true_eq_false, not_false_eq_true, decide_true, decide_false] at hb8
                  refine wt_test ?_
                  refine wp_op ?_
                  refine wp_meth 0 ?_
                  refine wp_var rfl ?_
                  refine ⟨_, _, _, _, rfl, rfl, scF_no _ _ (by decide +kernel) (by decide +kernel), ?_⟩
                  refine wa_cons ?_
                  refine wp_var rfl ?_
                  refine wa_nil ?_
                  refine wc_Scheme_block_pos 0 rfl ⟨by (unfold SchOk; omega), by omega⟩ (by omega) ?_
                  intro p9
                  refine wp_tup ?_
                  refine wa_cons ?_
                  refine wp_var rfl ?_
                  refine wa_cons ?_
                  refine wp_op ?_
                  refine wp_var rfl ?_
                  refine wp_var rfl ?_
                  refine wr0 ?_
                  refine wa_nil ?_
                  refine ⟨by simp, fun p10 => ?_⟩
                  refine wr_neD (dp_tup (seenT 5 rfl) (dps_cons dp_int (dps_cons dp_int dps_nil))) (dp_tup (seenT 6 rfl) (dps_cons dp_int (dps_cons dp_int dps_nil))) rfl rfl ?_
                  refine ⟨_, rfl, ?_⟩
                  refine ifB (fun hc11 => ?_) (fun hc11 => ?_)
                  · try simp only [decide_eq_true_eq, decide_eq_false_iff_not, Bool.and_eq_true, Bool.or_eq_true, Bool.not_eq_true', Bool.and_eq_false_iff, Bool.or_eq_false_iff, Bool.not_eq_false', Bool.not_true, Bool.not_false, Bool.false_or, Bool.true_and, Bool.true_or, Bool.false_and, Bool.and_true, Bool.or_false, reduceCtorEq, not_true_eq_false, not_false_eq_true, decide_true, decide_false] at hc11
                    all_goals
                      exfalso
                      first
                        | exact hc11 rfl
                        | (simp [PyData.eqv, PyData.eqvAll] at hc11; done)
                  · try simp only [decide_eq_true_eq, decide_eq_false_iff_not, Bool.and_eq_true, Bool.or_eq_true, Bool.not_eq_true', Bool.and_eq_false_iff, Bool.or_eq_false_iff, Bool.not_eq_false', Bool.not_true, Bool.not_false, Bool.false_or, Bool.true_and, Bool.true_or, Bool.false_and, Bool.and_true, Bool.or_false, reduceCtorEq, not_true_eq_false, not_false_eq_true, decide_true, decide_false] at hc11
                    refine ws_next ?_
                    refine ws_seq ?_
                    refine ws_if ?_
                    refine wt_not ?_
                    refine wt_B ?_
                    refine wp_cb ?_
                    refine wa_cons ?_
                    refine wp_lc ?_
                    refine wi_list ?_
                    refine wp_var rfl ?_
                    refine ⟨_, _, rfl, (seen 1 rfl), ?_⟩
                    refine lc_Im V.bl (fun m => Ma.inCh b n m) (seen 1 rfl) (by (have := Ma.chainF_small (b := b) (n := n) (by omega) (by omega) (by omega); omega)) ?_ ?_
                    · intro m hx D acc
                      have hm1 := Ma.chain_nonneg (b := b) (by omega) _ _ (Nat.le_refl _) (by omega) m hx
                      refine wt_yes ?_
                      refine ⟨rfl, ?_⟩
                      refine ifT rfl ?_
                      refine wp_op ?_
                      refine wp_meth 0 ?_
                      refine wp_var rfl ?_
                      refine ⟨_, _, _, _, rfl, rfl, scF_no _ _ (by decide +kernel) (by decide +kernel), ?_⟩
                      refine wa_cons ?_
                      refine wp_var rfl ?_
                      refine wa_cons ?_
                      refine wp_var rfl ?_
                      refine wa_nil ?_
                      refine wc_Scheme_has_in_chain 0 rfl ⟨by (unfold SchOk; omega), by omega⟩ ?_
                      refine wp_c ?_
                      refine wr_is_True ?_
                      exact ⟨by simp, by first | exact List.prefix_refl _ | exact ⟨_, rfl⟩⟩
                    intro p12
                    refine wa_nil ?_
                    refine wc_all (seen 7 rfl) ?_
                    refine ⟨_, rfl, ?_⟩
                    refine ifB (fun hc13 => ?_) (fun hc13 => ?_)
                    · try simp only [decide_eq_true_eq, decide_eq_false_iff_not, Bool.and_eq_true, Bool.or_eq_true, Bool.not_eq_true', Bool.and_eq_false_iff, Bool.or_eq_false_iff, Bool.not_eq_false', Bool.not_true, Bool.not_false, Bool.false_or, Bool.true_and, Bool.true_or, Bool.false_and, Bool.and_true, Bool.or_false, reduceCtorEq, not_true_eq_false, not_false_eq_true, decide_true, decide_false] at hc13
                      all_goals
                        rw [Ma.has_all (by omega) (by omega)] at hc13
                        cases hc13
                    · try simp only [decide_eq_true_eq, decide_eq_false_iff_not, Bool.and_eq_true, Bool.or_eq_true, Bool.not_eq_true', Bool.and_eq_false_iff, Bool.or_eq_false_iff, Bool.not_eq_false', Bool.not_true, Bool.not_false, Bool.false_or, Bool.true_and, Bool.true_or, Bool.false_and, Bool.and_true, Bool.or_false, reduceCtorEq, not_true_eq_false, not_false_eq_true, decide_true, decide_false] at hc13
                      refine ws_next ?_
                      refine ws_seq ?_
                      refine ws_set ?_
                      refine wp_lc ?_
                      refine wi_list ?_
                      refine wp_var rfl ?_
                      refine ⟨_, _, rfl, (seen 1 rfl), ?_⟩
                      refine lc_It V.int (fun m => !decide (m + 1 ∈ Ma.chainF b n)) (fun m => m + 1) (seen 1 rfl) (by (have := Ma.chainF_small (b := b) (n := n) (by omega) (by omega) (by omega); omega)) ?_ ?_
                      · intro m hx D acc
                        have hm1 := Ma.chain_nonneg (b := b) (by omega) _ _ (Nat.le_refl _) (by omega) m hx
                        refine wt_test ?_
                        refine wp_op ?_
                        refine wp_op ?_
                        refine wp_var rfl ?_
                        refine wp_c ?_
                        refine wr0 ?_
                        refine wp_var rfl ?_
                        refine wr_notinI (seen 1 rfl) ?_
                        refine ⟨_, rfl, ?_⟩
                        refine ⟨rfl, ?_⟩
                        refine ifB (fun hc => ?_) (fun hc => ?_)
                        · try simp only [decide_eq_true_eq, decide_eq_false_iff_not, Bool.and_eq_true, Bool.or_eq_true, Bool.not_eq_true', Bool.and_eq_false_iff, Bool.or_eq_false_iff, Bool.not_eq_false', Bool.not_true, Bool.not_false, Bool.false_or, Bool.true_and, Bool.true_or, Bool.false_and, Bool.and_true, Bool.or_false, reduceCtorEq, not_true_eq_false, not_false_eq_true, decide_true, decide_false] at hc
                          refine wp_op ?_
                          refine wp_var rfl ?_
                          refine wp_c ?_
                          refine wr0 ?_
                          exact ⟨rfl, by first | exact List.prefix_refl _ | exact ⟨_, rfl⟩⟩
                        · first | exact List.prefix_refl _ | exact ⟨_, rfl⟩
                      intro p14
                      have hodd : ∀ m ∈ ((Ma.chainF b n).filter (fun m => !decide (m + 1 ∈ Ma.chainF b n))).map (fun m => m + 1), (0 ≤ m ∧ m ≤ 10 ^ 24) ∧ m ∉ Ma.chainF b n := fun m hm => by
                        obtain ⟨y, hy, rfl⟩ := List.mem_map.mp hm
                        obtain ⟨hy1, hy2⟩ := List.mem_filter.mp hy
                        have h0 := Ma.chain_nonneg (b := b) (by omega) _ _ (Nat.le_refl _) (show 0 ≤ n by omega) y hy1
                        exact ⟨⟨by omega, by omega⟩, by simpa using hy2⟩
                      refine ws_nf (σ' := [_, _, _, _, _, _, _, _, _, _]) (L' := [_, _, _, _, _, _, _, _, _]) rfl rfl ?_
                      refine ws_seq ?_
                      refine ws_if ?_
                      refine wt_test ?_
                      refine wp_op ?_
                      refine wp_lc ?_
                      refine wi_list ?_
                      refine wp_var rfl ?_
                      refine ⟨_, _, rfl, (seen 8 rfl), ?_⟩
                      refine lc_If (fun m => Ma.inCh b n m) (seen 8 rfl) (by (rw [List.length_map]; have h1 := List.length_filter_le (fun m => !decide (m + 1 ∈ Ma.chainF b n)) (Ma.chainF b n); have := Ma.chainF_small (b := b) (n := n) (by omega) (by omega) (by omega); omega)) ?_ ?_
                      · intro m hx D acc
                        have hm1 := hodd m hx
                        refine wt_test ?_
                        refine wp_op ?_
                        refine wp_meth 0 ?_
                        refine wp_var rfl ?_
                        refine ⟨_, _, _, _, rfl, rfl, scF_no _ _ (by decide +kernel) (by decide +kernel), ?_⟩
                        refine wa_cons ?_
                        refine wp_var rfl ?_
                        refine wa_cons ?_
                        refine wp_var rfl ?_
                        refine wa_nil ?_
                        refine wc_Scheme_has_in_chain 0 rfl ⟨by (unfold SchOk; omega), by omega⟩ ?_
                        refine wp_c ?_
                        refine wr_isnot_False ?_
                        refine ⟨_, rfl, ?_⟩
                        refine ⟨rfl, ?_⟩
                        refine ifB (fun hc => ?_) (fun hc => ?_)
                        · try simp only [decide_eq_true_eq, decide_eq_false_iff_not, Bool.and_eq_true, Bool.or_eq_true, Bool.not_eq_true', Bool.and_eq_false_iff, Bool.or_eq_false_iff, Bool.not_eq_false', Bool.not_true, Bool.not_false, Bool.false_or, Bool.true_and, Bool.true_or, Bool.false_and, Bool.and_true, Bool.or_false, reduceCtorEq, not_true_eq_false, not_false_eq_true, decide_true, decide_false] at hc
                          refine wp_var rfl ?_
                          exact ⟨rfl, by first | exact List.prefix_refl _ | exact ⟨_, rfl⟩⟩
                        · first | exact List.prefix_refl _ | exact ⟨_, rfl⟩
                      intro p15
                      refine wp_lst ?_
                      refine wa_nil ?_
                      refine ⟨by simp, fun p16 => ?_⟩
                      refine wr_neLI (ns := []) (seen 9 rfl) (seen 10 rfl) ?_
                      refine ⟨_, rfl, ?_⟩
                      refine ifB (fun hc17 => ?_) (fun hc17 => ?_)
                      · try simp only [decide_eq_true_eq, decide_eq_false_iff_not, Bool.and_eq_true, Bool.or_eq_true, Bool.not_eq_true', Bool.and_eq_false_iff, Bool.or_eq_false_iff, Bool.not_eq_false', Bool.not_true, Bool.not_false, Bool.false_or, Bool.true_and, Bool.true_or, Bool.false_and, Bool.and_true, Bool.or_false, reduceCtorEq, not_true_eq_false, not_false_eq_true, decide_true, decide_false] at hc17
                        all_goals
                          exact absurd (Ma.odd_nil (by omega) (by omega) (fun m hm => ⟨(hodd m hm).1.1, (hodd m hm).2⟩)) hc17
                      · try simp only [decide_eq_true_eq, decide_eq_false_iff_not, Bool.and_eq_true, Bool.or_eq_true, Bool.not_eq_true', Bool.and_eq_false_iff, Bool.or_eq_false_iff, Bool.not_eq_false', Bool.not_true, Bool.not_false, Bool.false_or, Bool.true_and, Bool.true_or, Bool.false_and, Bool.and_true, Bool.or_false, reduceCtorEq, not_true_eq_false, not_false_eq_true, decide_true, decide_false] at hc17
                        refine ws_next ?_
                        refine ws_ret ?_
                        refine wp_op ?_
                        refine wp_meth 0 ?_
                        refine wp_var rfl ?_
                        refine ⟨_, _, _, _, rfl, rfl, scF_no _ _ (by decide +kernel) (by decide +kernel), ?_⟩
                        refine wa_cons ?_
                        refine wp_var rfl ?_
                        refine wa_nil ?_
                        refine wc_Scheme_last_time_pos 0 rfl ⟨by (unfold SchOk; omega), by omega⟩ (by omega) ?_
                        refine wp_op ?_
                        refine wp_var rfl ?_
                        refine wp_op ?_
                        refine wp_var rfl ?_
                        refine wp_var rfl ?_
                        refine wr1 (by exact mulOk (by omega) (by omega)) ?_
                        refine wr0 ?_
                        refine wr_eqI ?_
                        exact congrArg V.bl (decide_eq_true rfl)
theorem sc_Scheme_base : FnScope ["self"] ["self"] (defScope s_Scheme_base) := ⟨rfl, rfl, rfl, by decide +kernel, rfl, by decide +kernel, by decide +kernel⟩
def sp_Scheme_base (CS : Addr) : Sp := fun vs H Q _ => ∃ (s dx : Addr) (b f : Int), (vs = [.ref s]) ∧ (H s = some (.ins CS dx (scF b f))) ∧ ∀ (H' : Hp), Same H H' → Q (.int b) H'
theorem wc_Scheme_base {CS : Addr} {g : Gr} {L : Led} {C : V → Led → Prop} {E : XK} {s dx : Addr} {b f : Int} {bo0 : Bool} (i0 : Nat) (h0 : L[i0]? = some (s, .ob (.ins CS dx (scF b f)), bo0)) (c : C (.int b) L) : Wp g L (fun H Q => sp_Scheme_base CS [.ref s] H Q E) C := fun H z Q q => ⟨s, dx, b, f, rfl, z.get h0, fun H' s' => q _ _ _ (c) (z.same s')⟩
theorem ok_Scheme_base (T : Top K mg CS) : OkM P w K mg base CS 1 "base" "Scheme.base" s_Scheme_base ["self"] (sp_Scheme_base CS) := by
  refine OkM.of T.f_Scheme_base sc_Scheme_base (fun _ _ _ _ _ _ us hl => match us, hl with | [_], _ => rfl) (fun vs H Q E h => ?_) (fun f cdv A outer s H vs Q E hr h => ?_)
  · obtain ⟨s, dx, b, f, rfl, _⟩ := h
    rfl
  · obtain ⟨s, dx, b, f, rfl, hh0, kk⟩ := h
    refine ⟨_, (pss_one (ps_ret (pe_fld (pv 0) rfl))), ?_⟩
    refine run_ws (σ := [some (.ref s)]) (K := kV (fun v => v = (.int b))) (L := [(s, .ob (.ins CS dx (scF b f)), false)]) ?_ (at_one hh0) (eo_V fun v H' e s' => e ▸ kk H' s')
    refine ws_ret ?_
    refine wp_fld 0 T.cl_Scheme T.n_Scheme_radix ?_
    refine wp_var rfl ?_
    refine ⟨_, _, _, _, _, rfl, rfl, scF_radix _ _, ?_⟩
    exact rfl
theorem sc_Scheme_factor : FnScope ["self"] ["self"] (defScope s_Scheme_factor) := ⟨rfl, rfl, rfl, by decide +kernel, rfl, by decide +kernel, by decide +kernel⟩
def sp_Scheme_factor (CS : Addr) : Sp := fun vs H Q _ => ∃ (s dx : Addr) (b f : Int), (vs = [.ref s]) ∧ (H s = some (.ins CS dx (scF b f))) ∧ ∀ (H' : Hp), Same H H' → Q (.int f) H'
theorem wc_Scheme_factor {CS : Addr} {g : Gr} {L : Led} {C : V → Led → Prop} {E : XK} {s dx : Addr} {b f : Int} {bo0 : Bool} (i0 : Nat) (h0 : L[i0]? = some (s, .ob (.ins CS dx (scF b f)), bo0)) (c : C (.int f) L) : Wp g L (fun H Q => sp_Scheme_factor CS [.ref s] H Q E) C := fun H z Q q => ⟨s, dx, b, f, rfl, z.get h0, fun H' s' => q _ _ _ (c) (z.same s')⟩
theorem ok_Scheme_factor (T : Top K mg CS) : OkM P w K mg base CS 1 "factor" "Scheme.factor" s_Scheme_factor ["self"] (sp_Scheme_factor CS) := by
  refine OkM.of T.f_Scheme_factor sc_Scheme_factor (fun _ _ _ _ _ _ us hl => match us, hl with | [_], _ => rfl) (fun vs H Q E h => ?_) (fun f cdv A outer s H vs Q E hr h => ?_)
  · obtain ⟨s, dx, b, f, rfl, _⟩ := h
    rfl
  · obtain ⟨s, dx, b, f, rfl, hh0, kk⟩ := h
    refine ⟨_, (pss_one (ps_ret (pe_fld (pv 0) rfl))), ?_⟩
    refine run_ws (σ := [some (.ref s)]) (K := kV (fun v => v = (.int f))) (L := [(s, .ob (.ins CS dx (scF b f)), false)]) ?_ (at_one hh0) (eo_V fun v H' e s' => e ▸ kk H' s')
    refine ws_ret ?_
    refine wp_fld 0 T.cl_Scheme T.n_Scheme_multiple ?_
    refine wp_var rfl ?_
    refine ⟨_, _, _, _, _, rfl, rfl, scF_multiple _ _, ?_⟩
    exact rfl
theorem sc_Scheme_eq : FnScope ["self", "other"] ["self", "other"] (defScope s_Scheme_eq) := ⟨rfl, rfl, rfl, by decide +kernel, rfl, by decide +kernel, by decide +kernel⟩
def sp_Scheme_eq (CS : Addr) : Sp := fun vs H Q _ => ∃ (s dx : Addr) (b f : Int) (s2 dx2 : Addr) (b2 f2 : Int), (vs = [.ref s, .ref s2]) ∧ (H s = some (.ins CS dx (scF b f))) ∧ (H s2 = some (.ins CS dx2 (scF b2 f2))) ∧ ∀ (H' : Hp), Same H H' → Q (.bl (decide (b = b2) && decide (f = f2))) H'
theorem wc_Scheme_eq {CS : Addr} {g : Gr} {L : Led} {C : V → Led → Prop} {E : XK} {s dx : Addr} {b f : Int} {s2 dx2 : Addr} {b2 f2 : Int} {bo0 bo1 : Bool} (i0 : Nat) (h0 : L[i0]? = some (s, .ob (.ins CS dx (scF b f)), bo0)) (i1 : Nat) (h1 : L[i1]? = some (s2, .ob (.ins CS dx2 (scF b2 f2)), bo1)) (c : C (.bl (decide (b = b2) && decide (f = f2))) L) : Wp g L (fun H Q => sp_Scheme_eq CS [.ref s, .ref s2] H Q E) C := fun H z Q q => ⟨s, dx, b, f, s2, dx2, b2, f2, rfl, z.get h0, z.get h1, fun H' s' => q _ _ _ (c) (z.same s')⟩
def PScheme (fs : List (Str × V)) : Prop := ∃ b f : Int, SchOk b f ∧ fs = scF b f
theorem sp_same_Scheme {CS : Addr} : ∀ (a b dx dy : Addr) (fs : List (Str × V)) (H : Hp) (Q : VK) (E : XK), PScheme fs → H a = some (.ins CS dx fs) → H b = some (.ins CS dy fs) → (∀ H', Ext H H' → Q (.bl true) H') → sp_Scheme_eq CS [.ref a, .ref b] H Q E :=
  fun a b dx dy fs H Q E ⟨b', f', hs, e⟩ h1 h2 q => ⟨a, dx, b', f', b, dy, b', f', rfl, e ▸ h1, e ▸ h2, fun H' s => by simpa using q H' s⟩

theorem ok_Scheme_eq (T : Top K mg CS) : OkM P w K mg base CS 1 "__eq__" "Scheme.__eq__" s_Scheme_eq ["self", "other"] (sp_Scheme_eq CS) := by
  refine OkM.of T.f_Scheme_eq sc_Scheme_eq (fun _ _ _ _ _ _ us hl => match us, hl with | [_, _], _ => rfl) (fun vs H Q E h => ?_) (fun f cdv A outer s H vs Q E hr h => ?_)
  · obtain ⟨s, dx, b, f, s2, dx2, b2, f2, rfl, _⟩ := h
    rfl
  · obtain ⟨s, dx, b, f, s2, dx2, b2, f2, rfl, hh0, hh1, kk⟩ := h
    refine ⟨_, (pss_one (ps_ret (pe_and (pe_callB (c_isC T.is_Scheme) (by rfl) T.b_isinstance (by decide +kernel) (pa_cons (pv 1) (pa_cons (pe_cls rfl T.m_Scheme) pa_nil))) (pe_one (pe_cmpR (op_eqD hr.units) (pe_tup (pa_cons (pe_fld (pv 0) rfl) (pa_cons (pe_fld (pv 0) rfl) pa_nil))) (pe_tup (pa_cons (pe_fld (pv 1) rfl) (pa_cons (pe_fld (pv 1) rfl) pa_nil))) (nomark _)))))), ?_⟩
    refine run_ws (σ := [some (.ref s), some (.ref s2)]) (K := kV (fun v => v = (.bl (decide (b = b2) && decide (f = f2))))) (L := [(s, .ob (.ins CS dx (scF b f)), false), (s2, .ob (.ins CS dx2 (scF b2 f2)), false)]) ?_ (at_consF (at_one hh1) hh0 rfl (by simp)) (eo_V fun v H' e s' => e ▸ kk H' s')
    refine ws_ret ?_
    refine wp_andV ?_
    refine wp_cb ?_
    refine wa_cons ?_
    refine wp_var rfl ?_
    refine wa_cons ?_
    refine wp_c ?_
    refine wa_nil ?_
    refine wc_isC 1 rfl ?_
    refine ⟨_, rfl, ?_⟩
    refine ifT (by first | rfl | (simp; done) | (simp [*]; done)) ?_
    refine wp_op ?_
    refine wp_tup ?_
    refine wa_cons ?_
    refine wp_fld 0 T.cl_Scheme T.n_Scheme_radix ?_
    refine wp_var rfl ?_
    refine ⟨_, _, _, _, _, rfl, rfl, scF_radix _ _, ?_⟩
    refine wa_cons ?_
    refine wp_fld 0 T.cl_Scheme T.n_Scheme_multiple ?_
    refine wp_var rfl ?_
    refine ⟨_, _, _, _, _, rfl, rfl, scF_multiple _ _, ?_⟩
    refine wa_nil ?_
    refine ⟨by simp, fun p2 => ?_⟩
    refine wp_tup ?_
    refine wa_cons ?_
    refine wp_fld 1 T.cl_Scheme T.n_Scheme_radix ?_
    refine wp_var rfl ?_
    refine ⟨_, _, _, _, _, rfl, rfl, scF_radix _ _, ?_⟩
    refine wa_cons ?_
    refine wp_fld 1 T.cl_Scheme T.n_Scheme_multiple ?_
    refine wp_var rfl ?_
    refine ⟨_, _, _, _, _, rfl, rfl, scF_multiple _ _, ?_⟩
    refine wa_nil ?_
    refine ⟨by simp, fun p3 => ?_⟩
    refine wr_eqD (dp_tup (seenT 2 rfl) (dps_cons dp_int (dps_cons dp_int dps_nil))) (dp_tup (seenT 3 rfl) (dps_cons dp_int (dps_cons dp_int dps_nil))) rfl rfl ?_
    exact congrArg V.bl (by rw [Bool.eq_iff_iff]; simp [PyData.eqv, PyData.eqvAll])
theorem sc_law : FnScope ["_law_script", "_law_cell", "_law_source", "_law_scheme_here", "_law_k", "_law_radix", "_law_times", "_law_one_number"] ["_law_script"] (defScope s_law) := ⟨rfl, rfl, rfl, by decide +kernel, rfl, by decide +kernel, by decide +kernel⟩
def sp_law (K : PySem.W.Frag) : Sp := fun vs H Q _ => ∃ (a : Addr) (ns : List Int), vs = [.ref a] ∧ SqL K H a (ns.map V.int) ∧ ns.length ≤ 63 ∧ ∀ H', Q (.bl true) H'

theorem ok_law {f : Addr} {fd : FuncData} (F : Fun K "law" "law" s_law f fd) (T : Top K mg CS) : FnOk P w K mg base CX0 5 f fd ["_law_script"] (sp_law K) := by
  refine F.ok sc_law (fun vs H Q E h => ?_) (fun cdv A outer s H vs Q E hr h => ?_)
  · obtain ⟨a, ns, rfl, _⟩ := h
    rfl
  · obtain ⟨a, ns, rfl, hS0', hlen, kk⟩ := h
    have hS : ∀ {L : Led}, Seen K ⟨H, fun _ => False⟩ L a (ns.map V.int) := seen0 hS0' (fun z => z)
    have hS0 : ∀ {L : Led}, Seen K ⟨H, fun _ => False⟩ L a (ns.map V.int) := hS
    refine ⟨_, (pss_cons (ps_for PassesOwn.never rfl (pi_list (pe_op op_cat (pe_lst (pa_cons (pe_own (ok__law_cell_at T) (hr.mono (by decide)) rfl (pa_cons (pv 0) (pa_cons pe_int pa_nil))) pa_nil)) (pe_slice sl_list (pv 0) (po_some pe_int) (po_some pe_int)))) (pg_name (i := 1) sc_law.nd rfl (Or.inl rfl)) (pss_cons (ps_set (i := 2) sc_law.nd rfl (Or.inl rfl) (pe_own (ok__law_source_of T) (hr.mono (by decide)) rfl (pa_cons (pv 1) pa_nil)))
      (pss_cons (ps_asg (pe_own (ok__law_scheme T) (hr.mono (by decide)) rfl (pa_cons (pv 2) pa_nil)) (pg_tup rfl (pgs_cons (pg_name (i := 5) sc_law.nd rfl (Or.inl rfl)) (pgs_cons (pg_name (i := 6) sc_law.nd rfl (Or.inl rfl)) pgs_nil))))
      (pss_cons (ps_set (i := 3) sc_law.nd rfl (Or.inl rfl) (pe_oc (ok_Scheme_init T) (hr.mono (by decide)) rfl (pa_cons (pv 5) (pa_cons (pv 6) pa_nil))))
      (pss_cons (ps_for PassesOwn.never rfl (pi_rangeW1 rfl T.b_range (pa_cons pe_int pa_nil)) (pg_name (i := 4) sc_law.nd rfl (Or.inl rfl)) (pss_cons (ps_set (i := 7) sc_law.nd rfl (Or.inl rfl) (pe_op op_add pe_int (pe_own (ok__law_number T) (hr.mono (by decide)) rfl (pa_cons (pv 2) (pa_cons (pv 5) pa_nil)))))
      (pss_cons (ps_if (pt_cmpR op_gt (pe_own (ok__law_next T) (hr.mono (by decide)) rfl (pa_cons (pv 2) (pa_cons pe_int pa_nil))) pe_int (nomark _)) (pss_one (ps_set (i := 7) sc_law.nd rfl (Or.inl rfl) (pe_callB (c_max2 rfl) (by rfl) T.b_max (by decide +kernel) (pa_cons pe_int (pa_cons (pe_op op_sub (pv 7) pe_int) pa_nil))))) pss_nil)
      (pss_one (ps_if (pt_not (pt_val (pe_own (ok__law_one_right T) (hr.mono (by decide)) rfl (pa_cons (pv 3) (pa_cons (pv 5) (pa_cons (pv 6) (pa_cons (pv 7) pa_nil))))))) (pss_one (ps_ret pe_bl)) pss_nil)))))
      (pss_cons (ps_if (pt_cmpR (op_neD hr.units) (pe_tup (pa_cons (pe_om T.cl_Scheme (ok_Scheme_level T) (hr.mono (by decide)) (pv 3) (pa_cons pe_int pa_nil)) (pa_cons (pe_om T.cl_Scheme (ok_Scheme_parent T) (hr.mono (by decide)) (pv 3) (pa_cons pe_int pa_nil)) (pa_cons (pe_om T.cl_Scheme (ok_Scheme_last_time T) (hr.mono (by decide)) (pv 3) (pa_cons pe_int pa_nil)) pa_nil)))) (pe_tup (pa_cons pe_non (pa_cons pe_non (pa_cons pe_non pa_nil)))) (nomark _)) (pss_one (ps_ret pe_bl)) pss_nil)
      (pss_cons (ps_if (pt_cmpR (op_neD hr.units) (pe_om T.cl_Scheme (ok_Scheme_chain T) (hr.mono (by decide)) (pv 3) (pa_cons pe_int pa_nil)) (pe_lst (pa_cons pe_int pa_nil)) (nomark _)) (pss_one (ps_ret pe_bl)) pss_nil)
      (pss_cons (ps_if (PW.pt (pw_or (pt_cmpR (op_neD hr.units) (pe_om T.cl_Scheme (ok_Scheme_block T) (hr.mono (by decide)) (pv 3) (pa_cons pe_int pa_nil)) (pe_tup (pa_cons pe_int (pa_cons pe_non pa_nil))) (nomark _)) (pw_or1 (pt_cmpR op_notBl (pe_kwM (ks := ["ancestor", "number"]) [1, 0] T.cl_Scheme (ok_Scheme_has_in_chain T) (hr.mono (by decide)) (pv 3) (pk_cons pe_int (pk_cons (pv 7) pk_nil)) (fun _ _ _ _ _ _ _ ws hl => match ws, hl with | [_, _], _ => rfl)) pe_bl (nomark _))))) (pss_one (ps_ret pe_bl)) pss_nil)
      (pss_cons (ps_if (PW.pt (pw_or (pt_cmpR (op_neD hr.units) (pe_tup (pa_cons (pe_om0 T.cl_Scheme (ok_Scheme_base T) (hr.mono (by decide)) (pv 3)) (pa_cons (pe_om0 T.cl_Scheme (ok_Scheme_factor T) (hr.mono (by decide)) (pv 3)) pa_nil))) (pe_tup (pa_cons (pv 5) (pa_cons (pv 6) pa_nil))) (nomark _)) (pw_or1 (pt_cmpR (op_neO (ok_Scheme_eq T) T.ne_Scheme (hr.mono (by decide))) (pe_kwC (ks := ["factor", "base"]) [1, 0] (ok_Scheme_init T) (hr.mono (by decide)) rfl (pk_cons (pv 6) (pk_cons (pv 5) pk_nil)) (fun _ _ _ _ _ _ _ ws hl => match ws, hl with | [_, _], _ => rfl)) (pv 3) (nomark _))))) (pss_one (ps_ret pe_bl)) pss_nil)
      (pss_cons (ps_if (PW.pt (pw_or (pt_cmpR op_isN' (pe_kwM (ks := ["number"]) [0] T.cl_Scheme (ok_Scheme_level T) (hr.mono (by decide)) (pv 3) (pk_cons (pv 7) pk_nil) (fun _ _ _ _ _ _ _ ws hl => match ws, hl with | [_], _ => rfl)) pe_non (nomark _)) (pw_or1 (pt_cmpR op_isN' (pe_kwM (ks := ["number"]) [0] T.cl_Scheme (ok_Scheme_parent T) (hr.mono (by decide)) (pv 3) (pk_cons (pv 7) pk_nil) (fun _ _ _ _ _ _ _ ws hl => match ws, hl with | [_], _ => rfl)) pe_non (nomark _))))) (pss_one (ps_ret pe_bl)) pss_nil)
      (pss_one (ps_if (PW.pt (pw_or (pt_cmpR op_ne (pe_ix ix_tup (pe_kwM (ks := ["number"]) [0] T.cl_Scheme (ok_Scheme_block T) (hr.mono (by decide)) (pv 3) (pk_cons (pv 7) pk_nil) (fun _ _ _ _ _ _ _ ws hl => match ws, hl with | [_], _ => rfl)) pe_int (fun _ _ => rfl)) (pv 7) (nomark _)) (pw_or1 (pt_cmpR op_le (pe_kwM (ks := ["number"]) [0] T.cl_Scheme (ok_Scheme_last_time T) (hr.mono (by decide)) (pv 3) (pk_cons (pv 7) pk_nil) (fun _ _ _ _ _ _ _ ws hl => match ws, hl with | [_], _ => rfl)) (pv 7) (nomark _))))) (pss_one (ps_ret pe_bl)) pss_nil))))))))))))
      (pss_one (ps_ret pe_bl))), ?_⟩
    refine run_ws (σ := [some (.ref a), none, none, none, none, none, none, none]) (K := kV (fun v => v = .bl true)) (L := []) ?_ at_nil (eo_V fun v H' e s' => e ▸ kk H')
    refine ws_seq ?_
    refine ws_for ?_
    refine wi_list ?_
    refine wp_op ?_
    refine wp_lst ?_
    refine wa_cons ?_
    refine wp_call ?_
    refine wa_cons ?_
    refine wp_var rfl ?_
    refine wa_cons ?_
    refine wp_c ?_
    refine wa_nil ?_
    refine wc__law_cell_at hS0 (by decide) ?_
    intro n0
    refine wa_nil ?_
    refine ⟨by simp, fun p1 => ?_⟩
    refine wp_sl ?_
    refine wp_var rfl ?_
    refine wo_some ?_
    refine wp_c ?_
    refine ⟨_, rfl, ?_⟩
    refine wo_some ?_
    refine wp_c ?_
    refine ⟨_, rfl, ?_⟩
    refine wr_slL hS ?_
    intro p2
    refine wr_cat 0 1 rfl rfl (by (first | (simp; done) | (simp; have := cutV_length (ns.map V.int) (some 1) (some 8); simp at this; omega))) ?_
    intro p3
    refine ⟨_, _, rfl, (seen 2 rfl), ?_⟩
    refine wf_listS (seen 2 rfl) (fun i vs => ∃ w1 : Option V, ∃ w2 : Option V, ∃ w3 : Option V, ∃ w4 : Option V, ∃ w5 : Option V, ∃ w6 : Option V, ∃ w7 : Option V, vs = [none, some w1, some w2, some w3, some w4, some w5, some w6, some w7]) ?_ ?_ ?_
    · exact ⟨[none, some _, some _, some _, some _, some _, some _, some _], rfl, _, _, _, _, _, _, _, rfl⟩
    · rintro i x vs hx ⟨w1, w2, w3, w4, w5, w6, w7, rfl⟩
      obtain ⟨c, rfl⟩ : ∃ c : Int, x = .int c := by
        rcases List.mem_append.mp (List.mem_of_getElem? hx) with h | h
        · exact ⟨n0, by simpa using h⟩
        · exact ints_all x (cut_mem h)
      refine wg_name ?_
      refine ws_eq (σ' := [_, _, _, _, _, _, _, _]) rfl ?_
      refine ws_seq ?_
      refine ws_set ?_
      refine wp_call ?_
      refine wa_cons ?_
      refine wp_var rfl ?_
      refine wa_nil ?_
      refine wc__law_source_of ?_
      intro p4
      refine ws_nf (σ' := [_, _, _, _, _, _, _, _]) (L' := [_, _, _, _]) rfl rfl ?_
      refine ws_seq ?_
      refine ws_asg ?_
      refine wp_call ?_
      refine wa_cons ?_
      refine wp_var rfl ?_
      refine wa_nil ?_
      refine wc__law_scheme 3 rfl (by decide) ?_
      intro bS fS hbfS
      intro p5
      refine wg_tup (seenT 4 rfl) rfl ?_
      refine wgs_cons (wg_name ?_)
      refine wgs_cons (wg_name ?_)
      refine wgs_nil ?_
      refine ws_nf (σ' := [_, _, _, _, _, _, _, _]) (L' := [_, _, _, _, _]) rfl rfl ?_
      refine ws_seq ?_
      refine ws_set ?_
      refine wm_Scheme ?_
      refine wa_cons ?_
      refine wp_var rfl ?_
      refine wa_cons ?_
      refine wp_var rfl ?_
      refine wa_nil ?_
      refine ⟨_, _, rfl, by (unfold SchOk; omega), fun p6 dp6 => ?_⟩
      refine ws_nf (σ' := [_, _, _, _, _, _, _, _]) (L' := [_, _, _, _, _, _]) rfl rfl ?_
      refine ws_seq ?_
      refine ws_for ?_
      refine wi_rngW1 ?_
      refine wa_cons ?_
      refine wp_c ?_
      refine wa_nil ?_
      refine ⟨_, rfl, ?_⟩
      refine wf_rngD Ent.src src_le 3 4 (fun i vs => ∃ w4 : Option V, ∃ w7 : Option V, vs = [none, none, none, none, some w4, none, none, some w7] ∧ (0 < i → ∃ z : Int, w7 = some (.int z) ∧ 1 ≤ z ∧ z ≤ 10 ^ 23)) rfl ?_ ?_ ?_
      · exact ⟨[none, none, none, none, some _, none, none, some _], rfl, _, _, rfl, fun h => absurd h (by decide)⟩
      · rintro i k vs hi hx ⟨w4, w7, rfl, hI⟩
        refine wg_name ?_
        refine ws_eq (σ' := [_, _, _, _, _, _, _, _]) rfl ?_
        refine ws_seq ?_
        refine ws_set ?_
        refine wp_op ?_
        refine wp_c ?_
        refine wp_call ?_
        refine wa_cons ?_
        refine wp_var rfl ?_
        refine wa_cons ?_
        refine wp_var rfl ?_
        refine wa_nil ?_
        refine wc__law_number 3 rfl (by omega) (by omega) ?_
        intro rN hrN
        refine wr0 ?_
        refine ws_nf (σ' := [_, _, _, _, _, _, _, _]) (L' := [_, _, _, _, _, _]) rfl rfl ?_
        refine ws_seq ?_
        refine ws_if ?_
        refine wt_test ?_
        refine wp_op ?_
        refine wp_call ?_
        refine wa_cons ?_
        refine wp_var rfl ?_
        refine wa_cons ?_
        refine wp_c ?_
        refine wa_nil ?_
        refine wc__law_next 3 rfl (by omega) (by omega) ?_
        intro nT hnT
        refine wp_c ?_
        refine wr0 ?_
        refine ⟨_, rfl, ?_⟩
        refine ifB (fun hc7 => ?_) (fun hc7 => ?_)
        · try simp only [decide_eq_true_eq, decide_eq_false_iff_not, Bool.and_eq_true, Bool.or_eq_true, Bool.not_eq_true', Bool.and_eq_false_iff, Bool.or_eq_false_iff, Bool.not_eq_false', Bool.not_true, Bool.not_false, Bool.false_or, Bool.true_and, Bool.true_or, Bool.false_and, Bool.and_true, Bool.or_false, reduceCtorEq, not_true_eq_false, not_false_eq_true, decide_true, decide_false] at hc7
          refine ws_set ?_
          refine wp_cb ?_
          refine wa_cons ?_
          refine wp_c ?_
          refine wa_cons ?_
          refine wp_op ?_
          refine wp_var rfl ?_
          refine wp_c ?_
          refine wr0 ?_
          refine wa_nil ?_
          refine wc_max2 ?_
          refine ws_if ?_
          refine wt_not ?_
          refine wt_B ?_
          refine wp_call ?_
          refine wa_cons ?_
          refine wp_var rfl ?_
          refine wa_cons ?_
          refine wp_var rfl ?_
          refine wa_cons ?_
          refine wp_var rfl ?_
          refine wa_cons ?_
          refine wp_var rfl ?_
          refine wa_nil ?_
          refine wc__law_one_right 5 rfl ⟨by (unfold SchOk; omega), by omega⟩ ?_
          refine ⟨_, rfl, ?_⟩
          refine ifF (by first | rfl | (simp; done) | (simp [*]; done)) ?_
          refine ws_next ?_
          exact ⟨[none, none, none, none, some _, none, none, some _], ⟨rfl, _, _, rfl, fun _ => ⟨_, rfl, by omega, by omega⟩⟩, 4, by decide, ⟨_, rfl⟩⟩
        · try simp only [decide_eq_true_eq, decide_eq_false_iff_not, Bool.and_eq_true, Bool.or_eq_true, Bool.not_eq_true', Bool.and_eq_false_iff, Bool.or_eq_false_iff, Bool.not_eq_false', Bool.not_true, Bool.not_false, Bool.false_or, Bool.true_and, Bool.true_or, Bool.false_and, Bool.and_true, Bool.or_false, reduceCtorEq, not_true_eq_false, not_false_eq_true, decide_true, decide_false] at hc7
          refine ws_next ?_
          refine ws_if ?_
          refine wt_not ?_
          refine wt_B ?_
          refine wp_call ?_
          refine wa_cons ?_
          refine wp_var rfl ?_
          refine wa_cons ?_
          refine wp_var rfl ?_
          refine wa_cons ?_
          refine wp_var rfl ?_
          refine wa_cons ?_
          refine wp_var rfl ?_
          refine wa_nil ?_
          refine wc__law_one_right 5 rfl ⟨by (unfold SchOk; omega), by omega⟩ ?_
          refine ⟨_, rfl, ?_⟩
          refine ifF (by first | rfl | (simp; done) | (simp [*]; done)) ?_
          refine ws_next ?_
          exact ⟨[none, none, none, none, some _, none, none, some _], ⟨rfl, _, _, rfl, fun _ => ⟨_, rfl, by omega, by omega⟩⟩, 4, by decide, ⟨_, rfl⟩⟩
      rintro vs ⟨w4, w7, rfl, hI⟩
      obtain ⟨z9, hw9, hz1, hz2⟩ := hI (by decide)
      subst hw9
      refine ws_nf (σ' := [_, _, _, _, _, _, _, _]) (L' := [_, _, _, _, _, _]) rfl rfl ?_
      refine ws_seq ?_
      refine ws_if ?_
      refine wt_test ?_
      refine wp_op ?_
      refine wp_tup ?_
      refine wa_cons ?_
      refine wp_meth 5 ?_
      refine wp_var rfl ?_
      refine ⟨_, _, _, _, rfl, rfl, scF_no _ _ (by decide +kernel) (by decide +kernel), ?_⟩
      refine wa_cons ?_
      refine wp_c ?_
      refine wa_nil ?_
      refine wc_Scheme_level 5 rfl ⟨by (unfold SchOk; omega), by omega⟩ ?_ ?_
      · intro hNA
        refine wa_cons ?_
        refine wp_meth 5 ?_
        refine wp_var rfl ?_
        refine ⟨_, _, _, _, rfl, rfl, scF_no _ _ (by decide +kernel) (by decide +kernel), ?_⟩
        refine wa_cons ?_
        refine wp_c ?_
        refine wa_nil ?_
        refine wc_Scheme_parent_zero 5 rfl ⟨by (unfold SchOk; omega), by omega⟩ rfl ?_
        refine wa_cons ?_
        refine wp_meth 5 ?_
        refine wp_var rfl ?_
        refine ⟨_, _, _, _, rfl, rfl, scF_no _ _ (by decide +kernel) (by decide +kernel), ?_⟩
        refine wa_cons ?_
        refine wp_c ?_
        refine wa_nil ?_
        refine wc_Scheme_last_time_zero 5 rfl ⟨by (unfold SchOk; omega), by omega⟩ rfl ?_
        refine wa_nil ?_
        refine ⟨by simp, fun p8 => ?_⟩
        refine wp_tup ?_
        refine wa_cons ?_
        refine wp_c ?_
        refine wa_cons ?_
        refine wp_c ?_
        refine wa_cons ?_
        refine wp_c ?_
        refine wa_nil ?_
        refine ⟨by simp, fun p9 => ?_⟩
        refine wr_neD (dp_tup (seenT 6 rfl) (dps_cons dp_non (dps_cons dp_non (dps_cons dp_non dps_nil)))) (dp_tup (seenT 7 rfl) (dps_cons dp_non (dps_cons dp_non (dps_cons dp_non dps_nil)))) rfl rfl ?_
        refine ⟨_, rfl, ?_⟩
        refine ifB (fun hc10 => ?_) (fun hc10 => ?_)
        · try simp only [decide_eq_true_eq, decide_eq_false_iff_not, Bool.and_eq_true, Bool.or_eq_true, Bool.not_eq_true', Bool.and_eq_false_iff, Bool.or_eq_false_iff, Bool.not_eq_false', Bool.not_true, Bool.not_false, Bool.false_or, Bool.true_and, Bool.true_or, Bool.false_and, Bool.and_true, Bool.or_false, reduceCtorEq, not_true_eq_false, not_false_eq_true, decide_true, decide_false] at hc10
          all_goals
            exfalso
            first
              | (simp [PyData.eqv, PyData.eqvAll] at hc10; done)
              | (simp [PyData.eqv, PyData.eqvAll, Ma.inCh] at hc10; done)
              | exact hc10 rfl
        · try simp only [decide_eq_true_eq, decide_eq_false_iff_not, Bool.and_eq_true, Bool.or_eq_true, Bool.not_eq_true', Bool.and_eq_false_iff, Bool.or_eq_false_iff, Bool.not_eq_false', Bool.not_true, Bool.not_false, Bool.false_or, Bool.true_and, Bool.true_or, Bool.false_and, Bool.and_true, Bool.or_false, reduceCtorEq, not_true_eq_false, not_false_eq_true, decide_true, decide_false] at hc10
          refine ws_next ?_
          refine ws_seq ?_
          refine ws_if ?_
          refine wt_test ?_
          refine wp_op ?_
          refine wp_meth 5 ?_
          refine wp_var rfl ?_
          refine ⟨_, _, _, _, rfl, rfl, scF_no _ _ (by decide +kernel) (by decide +kernel), ?_⟩
          refine wa_cons ?_
          refine wp_c ?_
          refine wa_nil ?_
          refine wc_Scheme_chain 5 rfl ⟨by (unfold SchOk; omega), by omega⟩ ?_
          intro p11
          refine wp_lst ?_
          refine wa_cons ?_
          refine wp_c ?_
          refine wa_nil ?_
          refine ⟨by simp, fun p12 => ?_⟩
          refine wr_neLI (ns := [_]) (seen 8 rfl) (seen 9 rfl) ?_
          refine ⟨_, rfl, ?_⟩
          refine ifB (fun hc13 => ?_) (fun hc13 => ?_)
          · try simp only [decide_eq_true_eq, decide_eq_false_iff_not, Bool.and_eq_true, Bool.or_eq_true, Bool.not_eq_true', Bool.and_eq_false_iff, Bool.or_eq_false_iff, Bool.not_eq_false', Bool.not_true, Bool.not_false, Bool.false_or, Bool.true_and, Bool.true_or, Bool.false_and, Bool.and_true, Bool.or_false, reduceCtorEq, not_true_eq_false, not_false_eq_true, decide_true, decide_false] at hc13
            all_goals
              exact absurd (Ma.chainF_zero _) hc13
          · try simp only [decide_eq_true_eq, decide_eq_false_iff_not, Bool.and_eq_true, Bool.or_eq_true, Bool.not_eq_true', Bool.and_eq_false_iff, Bool.or_eq_false_iff, Bool.not_eq_false', Bool.not_true, Bool.not_false, Bool.false_or, Bool.true_and, Bool.true_or, Bool.false_and, Bool.and_true, Bool.or_false, reduceCtorEq, not_true_eq_false, not_false_eq_true, decide_true, decide_false] at hc13
            refine ws_next ?_
            refine ws_seq ?_
            refine ws_if ?_
            refine wt_or ?_
            refine wt_test ?_
            refine wp_op ?_
            refine wp_meth 5 ?_
            refine wp_var rfl ?_
            refine ⟨_, _, _, _, rfl, rfl, scF_no _ _ (by decide +kernel) (by decide +kernel), ?_⟩
            refine wa_cons ?_
            refine wp_c ?_
            refine wa_nil ?_
            refine wc_Scheme_block_zero 5 rfl ⟨by (unfold SchOk; omega), by omega⟩ rfl ?_
            intro p14
            refine wp_tup ?_
            refine wa_cons ?_
            refine wp_c ?_
            refine wa_cons ?_
            refine wp_c ?_
            refine wa_nil ?_
            refine ⟨by simp, fun p15 => ?_⟩
            refine wr_neD (dp_tup (seenT 10 rfl) (dps_cons dp_int (dps_cons dp_non dps_nil))) (dp_tup (seenT 11 rfl) (dps_cons dp_int (dps_cons dp_non dps_nil))) rfl rfl ?_
            refine ⟨_, rfl, ?_⟩
            refine ifB (fun hb16 => ?_) (fun hb16 => ?_)
            · try simp only [decide_eq_true_eq, decide_eq_false_iff_not, Bool.and_eq_true, Bool.or_eq_true, Bool.not_eq_true', Bool.and_eq_false_iff, Bool.or_eq_false_iff, Bool.not_eq_false', Bool.not_true, Bool.not_false, Bool.false_or, Bool.true_and, Bool.true_or, Bool.false_and, Bool.and_true, Bool.or_false, reduceCtorEq, not_true_eq_false, not_false_eq_true, decide_true, decide_false] at hb16
              all_goals
                exfalso
                first
                  | (simp [PyData.eqv, PyData.eqvAll] at hb16; done)
                  | (simp [PyData.eqv, PyData.eqvAll, Ma.inCh] at hb16; done)
                  | exact hb16 rfl
            · try simp only [decide_eq_true_eq, decide_eq_false_iff_not, Bool.and_eq_true, Bool.or_eq_true, Bool.not_eq_true', Bool.and_eq_false_iff, Bool.or_eq_false_iff, Bool.not_eq_false', Bool.not_true, Bool.not_false, Bool.false_or, Bool.true_and, Bool.true_or, Bool.false_and, Bool.and_true, Bool.or_false, reduceCtorEq, not_true_eq_false, not_false_eq_true, decide_true, decide_false] at hb16
              refine wt_test ?_
              refine wp_op ?_
              refine wp_kwM 5 ?_
              refine wp_var rfl ?_
              refine ⟨_, _, _, _, rfl, rfl, scF_no _ _ (by decide +kernel) (by decide +kernel), ?_⟩
              refine wa_cons ?_
              refine wp_c ?_
              refine wa_cons ?_
              refine wp_var rfl ?_
              refine wa_nil ?_
              refine ⟨rfl, ?_⟩
              refine wc_Scheme_has_in_chain 5 rfl ⟨by (unfold SchOk; omega), by omega⟩ ?_
              refine wp_c ?_
              refine wr_isnot_True ?_
              refine ⟨_, rfl, ?_⟩
              refine ifB (fun hc17 => ?_) (fun hc17 => ?_)
              · try simp only [decide_eq_true_eq, decide_eq_false_iff_not, Bool.and_eq_true, Bool.or_eq_true, Bool.not_eq_true', Bool.and_eq_false_iff, Bool.or_eq_false_iff, Bool.not_eq_false', Bool.not_true, Bool.not_false, Bool.false_or, Bool.true_and, Bool.true_or, Bool.false_and, Bool.and_true, Bool.or_false, reduceCtorEq, not_true_eq_false, not_false_eq_true, decide_true, decide_false] at hc17
                all_goals
                  exfalso
                  first
                    | (simp [PyData.eqv, PyData.eqvAll] at hc17; done)
                    | (simp [PyData.eqv, PyData.eqvAll, Ma.inCh] at hc17; done)
                    | exact hc17 rfl
              · try simp only [decide_eq_true_eq, decide_eq_false_iff_not, Bool.and_eq_true, Bool.or_eq_true, Bool.not_eq_true', Bool.and_eq_false_iff, Bool.or_eq_false_iff, Bool.not_eq_false', Bool.not_true, Bool.not_false, Bool.false_or, Bool.true_and, Bool.true_or, Bool.false_and, Bool.and_true, Bool.or_false, reduceCtorEq, not_true_eq_false, not_false_eq_true, decide_true, decide_false] at hc17
                refine ws_next ?_
                refine ws_seq ?_
                refine ws_if ?_
                refine wt_or ?_
                refine wt_test ?_
                refine wp_op ?_
                refine wp_tup ?_
                refine wa_cons ?_
                refine wp_meth 5 ?_
                refine wp_var rfl ?_
                refine ⟨_, _, _, _, rfl, rfl, scF_no _ _ (by decide +kernel) (by decide +kernel), ?_⟩
                refine wa_nil ?_
                refine wc_Scheme_base 5 rfl ?_
                refine wa_cons ?_
                refine wp_meth 5 ?_
                refine wp_var rfl ?_
                refine ⟨_, _, _, _, rfl, rfl, scF_no _ _ (by decide +kernel) (by decide +kernel), ?_⟩
                refine wa_nil ?_
                refine wc_Scheme_factor 5 rfl ?_
                refine wa_nil ?_
                refine ⟨by simp, fun p18 => ?_⟩
                refine wp_tup ?_
                refine wa_cons ?_
                refine wp_var rfl ?_
                refine wa_cons ?_
                refine wp_var rfl ?_
                refine wa_nil ?_
                refine ⟨by simp, fun p19 => ?_⟩
                refine wr_neD (dp_tup (seenT 12 rfl) (dps_cons dp_int (dps_cons dp_int dps_nil))) (dp_tup (seenT 13 rfl) (dps_cons dp_int (dps_cons dp_int dps_nil))) rfl rfl ?_
                refine ⟨_, rfl, ?_⟩
                refine ifB (fun hb20 => ?_) (fun hb20 => ?_)
                · try simp only [decide_eq_true_eq, decide_eq_false_iff_not, Bool.and_eq_true, Bool.or_eq_true, Bool.not_eq_true', Bool.and_eq_false_iff, Bool.or_eq_false_iff, Bool.not_eq_false', Bool.not_true, Bool.not_false, Bool.false_or, Bool.true_and, Bool.true_or, Bool.false_and, Bool.and_true, Bool.or_false, reduceCtorEq, not_true_eq_false, not_false_eq_true, decide_true, decide_false] at hb20
                  all_goals
                    exfalso
                    first
                      | (simp [PyData.eqv, PyData.eqvAll] at hb20; done)
                      | (simp [PyData.eqv, PyData.eqvAll, Ma.inCh] at hb20; done)
                      | exact hb20 rfl
                · try simp only [decide_eq_true_eq, decide_eq_false_iff_not, Bool.and_eq_true, Bool.or_eq_true, Bool.not_eq_true', Bool.and_eq_false_iff, Bool.or_eq_false_iff, Bool.not_eq_false', Bool.not_true, Bool.not_false, Bool.false_or, Bool.true_and, Bool.true_or, Bool.false_and, Bool.and_true, Bool.or_false, reduceCtorEq, not_true_eq_false, not_false_eq_true, decide_true, decide_false] at hb20
                  refine wt_test ?_
                  refine wp_op ?_
                  refine wmk_Scheme ?_
                  refine wa_cons ?_
                  refine wp_var rfl ?_
                  refine wa_cons ?_
                  refine wp_var rfl ?_
                  refine wa_nil ?_
                  refine ⟨rfl, _, _, rfl, by (unfold SchOk; omega), fun p21 dp21 => ?_⟩
                  refine wp_var rfl ?_
                  refine wr_ownO 14 5 rfl rfl ?_
                  refine wc_Scheme_eq 14 rfl 5 rfl ?_
                  refine ⟨_, rfl, ?_⟩
                  refine ⟨_, rfl, ?_⟩
                  refine ifB (fun hc22 => ?_) (fun hc22 => ?_)
                  · try simp only [decide_eq_true_eq, decide_eq_false_iff_not, Bool.and_eq_true, Bool.or_eq_true, Bool.not_eq_true', Bool.and_eq_false_iff, Bool.or_eq_false_iff, Bool.not_eq_false', Bool.not_true, Bool.not_false, Bool.false_or, Bool.true_and, Bool.true_or, Bool.false_and, Bool.and_true, Bool.or_false, reduceCtorEq, not_true_eq_false, not_false_eq_true, decide_true, decide_false] at hc22
                    all_goals
                      exfalso
                      first
                        | (simp [PyData.eqv, PyData.eqvAll] at hc22; done)
                        | (simp [PyData.eqv, PyData.eqvAll, Ma.inCh] at hc22; done)
                        | exact hc22 rfl
                  · try simp only [decide_eq_true_eq, decide_eq_false_iff_not, Bool.and_eq_true, Bool.or_eq_true, Bool.not_eq_true', Bool.and_eq_false_iff, Bool.or_eq_false_iff, Bool.not_eq_false', Bool.not_true, Bool.not_false, Bool.false_or, Bool.true_and, Bool.true_or, Bool.false_and, Bool.and_true, Bool.or_false, reduceCtorEq, not_true_eq_false, not_false_eq_true, decide_true, decide_false] at hc22
                    refine ws_next ?_
                    refine ws_seq ?_
                    refine ws_if ?_
                    refine wt_or ?_
                    refine wt_test ?_
                    refine wp_op ?_
                    refine wp_kwM 5 ?_
                    refine wp_var rfl ?_
                    refine ⟨_, _, _, _, rfl, rfl, scF_no _ _ (by decide +kernel) (by decide +kernel), ?_⟩
                    refine wa_cons ?_
                    refine wp_var rfl ?_
                    refine wa_nil ?_
                    refine ⟨rfl, ?_⟩
                    refine wc_Scheme_level 5 rfl ⟨by (unfold SchOk; omega), by omega⟩ ?_ ?_
                    · intro hNB
                      exfalso
                      omega
                    · intro vB hVB
                      refine wp_c ?_
                      refine wr_isN ?_
                      refine ⟨_, rfl, ?_⟩
                      refine ifF (by first | rfl | (simp; done) | (simp [*]; done)) ?_
                      refine wt_test ?_
                      refine wp_op ?_
                      refine wp_kwM 5 ?_
                      refine wp_var rfl ?_
                      refine ⟨_, _, _, _, rfl, rfl, scF_no _ _ (by decide +kernel) (by decide +kernel), ?_⟩
                      refine wa_cons ?_
                      refine wp_var rfl ?_
                      refine wa_nil ?_
                      refine ⟨rfl, ?_⟩
                      refine wc_Scheme_parent_pos 5 rfl ⟨by (unfold SchOk; omega), by omega⟩ (by omega) ?_
                      refine wp_c ?_
                      refine wr_isN ?_
                      refine ⟨_, rfl, ?_⟩
                      refine ifF (by first | rfl | (simp; done) | (simp [*]; done)) ?_
                      refine ws_next ?_
                      refine ws_if ?_
                      refine wt_or ?_
                      refine wt_test ?_
                      refine wp_op ?_
                      refine wp_op ?_
                      refine wp_kwM 5 ?_
                      refine wp_var rfl ?_
                      refine ⟨_, _, _, _, rfl, rfl, scF_no _ _ (by decide +kernel) (by decide +kernel), ?_⟩
                      refine wa_cons ?_
                      refine wp_var rfl ?_
                      refine wa_nil ?_
                      refine ⟨rfl, ?_⟩
                      refine wc_Scheme_block_pos 5 rfl ⟨by (unfold SchOk; omega), by omega⟩ (by omega) ?_
                      intro p23
                      refine wp_c ?_
                      refine wr_ixT (seenT 15 rfl) (rfl) ?_
                      refine wp_var rfl ?_
                      refine wr_neI ?_
                      refine ⟨_, rfl, ?_⟩
                      refine ifB (fun hb24 => ?_) (fun hb24 => ?_)
                      · try simp only [decide_eq_true_eq, decide_eq_false_iff_not, Bool.and_eq_true, Bool.or_eq_true, Bool.not_eq_true', Bool.and_eq_false_iff, Bool.or_eq_false_iff, Bool.not_eq_false', Bool.not_true, Bool.not_false, Bool.false_or, Bool.true_and, Bool.true_or, Bool.false_and, Bool.and_true, Bool.or_false, reduceCtorEq, not_true_eq_false, not_false_eq_true, decide_true, decide_false] at hb24
                        all_goals
                          exfalso
                          have hu9 := Ma.unitF_pos (b := bS) (n := z9) (by omega)
                          have : 1 * 1 ≤ fS * Ma.unitF bS z9 := Int.mul_le_mul (by omega) hu9 (by omega) (by omega)
                          first | omega | simp_all
                      · try simp only [decide_eq_true_eq, decide_eq_false_iff_not, Bool.and_eq_true, Bool.or_eq_true, Bool.not_eq_true', Bool.and_eq_false_iff, Bool.or_eq_false_iff, Bool.not_eq_false', Bool.not_true, Bool.not_false, Bool.false_or, Bool.true_and, Bool.true_or, Bool.false_and, Bool.and_true, Bool.or_false, reduceCtorEq, not_true_eq_false, not_false_eq_true, decide_true, decide_false] at hb24
                        refine wt_test ?_
                        refine wp_op ?_
                        refine wp_kwM 5 ?_
                        refine wp_var rfl ?_
                        refine ⟨_, _, _, _, rfl, rfl, scF_no _ _ (by decide +kernel) (by decide +kernel), ?_⟩
                        refine wa_cons ?_
                        refine wp_var rfl ?_
                        refine wa_nil ?_
                        refine ⟨rfl, ?_⟩
                        refine wc_Scheme_last_time_pos 5 rfl ⟨by (unfold SchOk; omega), by omega⟩ (by omega) ?_
                        refine wp_var rfl ?_
                        refine wr0 ?_
                        refine ⟨_, rfl, ?_⟩
                        refine ifB (fun hc25 => ?_) (fun hc25 => ?_)
                        · try simp only [decide_eq_true_eq, decide_eq_false_iff_not, Bool.and_eq_true, Bool.or_eq_true, Bool.not_eq_true', Bool.and_eq_false_iff, Bool.or_eq_false_iff, Bool.not_eq_false', Bool.not_true, Bool.not_false, Bool.false_or, Bool.true_and, Bool.true_or, Bool.false_and, Bool.and_true, Bool.or_false, reduceCtorEq, not_true_eq_false, not_false_eq_true, decide_true, decide_false] at hc25
                          all_goals
                            exfalso
                            have hu9 := Ma.unitF_pos (b := bS) (n := z9) (by omega)
                            have : 1 * 1 ≤ fS * Ma.unitF bS z9 := Int.mul_le_mul (by omega) hu9 (by omega) (by omega)
                            first | omega | simp_all
                        · try simp only [decide_eq_true_eq, decide_eq_false_iff_not, Bool.and_eq_true, Bool.or_eq_true, Bool.not_eq_true', Bool.and_eq_false_iff, Bool.or_eq_false_iff, Bool.not_eq_false', Bool.not_true, Bool.not_false, Bool.false_or, Bool.true_and, Bool.true_or, Bool.false_and, Bool.and_true, Bool.or_false, reduceCtorEq, not_true_eq_false, not_false_eq_true, decide_true, decide_false] at hc25
                          refine ws_next ?_
                          exact ⟨[none, some _, some _, some _, some _, some _, some _, some _], ⟨rfl, _, _, _, _, _, _, _, rfl⟩, ⟨_, rfl⟩⟩
      · intro vA hVA
        exfalso
        have := hVA.1
        omega
    rintro vs ⟨w1, w2, w3, w4, w5, w6, w7, rfl⟩
    refine ws_nf (σ' := [_, _, _, _, _, _, _, _]) (L' := [_, _, _]) rfl rfl ?_
    refine ws_ret ?_
    refine wp_c ?_
    exact rfl
end
theorem top_mk {K : PySem.W.Frag} {h : Heap} {mg : Str → Option Value} {c_sc : Addr} (X : K.In h) (G : h.Ns mainGlobals mg)
    (aScheme : PySem.W.nsIn K mainGlobals "Scheme" = some (some (.ref c_sc)))
    (b_all : PySem.W.nsIn K mainGlobals "all" = some none)
    (b_bool : PySem.W.nsIn K mainGlobals "bool" = some none)
    (b_int : PySem.W.nsIn K mainGlobals "int" = some none)
    (b_isinstance : PySem.W.nsIn K mainGlobals "isinstance" = some none)
    (b_len : PySem.W.nsIn K mainGlobals "len" = some none)
    (b_max : PySem.W.nsIn K mainGlobals "max" = some none)
    (b_range : PySem.W.nsIn K mainGlobals "range" = some none)
    (c_MOST_BASE : ∃ t, PySem.W.nsIn K mainGlobals "MOST_BASE" = some (some (.int 1000 t)))
    (c_MOST_FACTOR : ∃ t, PySem.W.nsIn K mainGlobals "MOST_FACTOR" = some (some (.int 1000000 t)))
    (pgScheme : PySem.W.plainGet K c_sc Str.empty = true) (hdScheme : PySem.W.hasDictIn K c_sc = true) (poScheme : PySem.W.plainOver K c_sc = true) (saScheme : PySem.W.findIn K (.ref c_sc) "__setattr__" = some (some (.builtin "object.__setattr__")))
    (n_Scheme_radix : PySem.W.findIn K (.ref c_sc) "radix" = some none)
    (n_Scheme_multiple : PySem.W.findIn K (.ref c_sc) "multiple" = some none)
    (neaScheme : PySem.W.findIn K (.ref c_sc) "__ne__" = some (some (.builtin "object.__ne__"))) (nebScheme : PySem.W.mroIn K c_sc (.type "object") = some true)
    (isaScheme : PySem.W.findIn K (.ref c_sc) "__class__" = some (some (.builtin "object.__class__"))) (isbScheme : PySem.W.specialIn K (.builtin "object.__class__") "__get__" = some (some (.builtin "getset_descriptor.__get__"))) (iscScheme : PySem.W.takesIn K (.builtin "object.__class__") = some true) (isdScheme : PySem.W.mroIn K c_sc (.type "object") = some true)
    (f__law_source_of : TopFn K mg "_law_source_of" s__law_source_of)
    (f__law_next : TopFn K mg "_law_next" s__law_next)
    (f__law_one : TopFn K mg "_law_one" s__law_one)
    (f__law_scheme : TopFn K mg "_law_scheme" s__law_scheme)
    (f_is_integer : TopFn K mg "is_integer" s_is_integer)
    (f_is_between : TopFn K mg "is_between" s_is_between)
    (f_Scheme_init : mg "Scheme" = some (.ref c_sc) → InitFn K mg "Scheme" c_sc "Scheme.__init__" s_Scheme_init)
    (f__law_cell_at : TopFn K mg "_law_cell_at" s__law_cell_at)
    (f_check_number : TopFn K mg "check_number" s_check_number)
    (f_Scheme_unit : MethFn K c_sc "unit" "Scheme.unit" s_Scheme_unit)
    (f_Scheme_parent_of : MethFn K c_sc "parent_of" "Scheme.parent_of" s_Scheme_parent_of)
    (f_Scheme_chain : MethFn K c_sc "chain" "Scheme.chain" s_Scheme_chain)
    (f__law_number : TopFn K mg "_law_number" s__law_number)
    (f__law_unit : TopFn K mg "_law_unit" s__law_unit)
    (f_Scheme_last_time : MethFn K c_sc "last_time" "Scheme.last_time" s_Scheme_last_time)
    (f__law_parent : TopFn K mg "_law_parent" s__law_parent)
    (f_Scheme_level : MethFn K c_sc "level" "Scheme.level" s_Scheme_level)
    (f_Scheme_parent : MethFn K c_sc "parent" "Scheme.parent" s_Scheme_parent)
    (f_Scheme_block : MethFn K c_sc "block" "Scheme.block" s_Scheme_block)
    (f_Scheme_has_in_chain : MethFn K c_sc "has_in_chain" "Scheme.has_in_chain" s_Scheme_has_in_chain)
    (f__law_one_right : TopFn K mg "_law_one_right" s__law_one_right)
    (f_Scheme_base : MethFn K c_sc "base" "Scheme.base" s_Scheme_base)
    (f_Scheme_factor : MethFn K c_sc "factor" "Scheme.factor" s_Scheme_factor)
    (f_Scheme_eq : MethFn K c_sc "__eq__" "Scheme.__eq__" s_Scheme_eq)
    (f_law : TopFn K mg "law" s_law) : Top K mg c_sc :=
  ⟨PySem.W.mg_none_of X G b_all, PySem.W.mg_none_of X G b_bool, PySem.W.mg_none_of X G b_int, PySem.W.mg_none_of X G b_isinstance, PySem.W.mg_none_of X G b_len, PySem.W.mg_none_of X G b_max, PySem.W.mg_none_of X G b_range, (by obtain ⟨t, h⟩ := c_MOST_BASE; exact ⟨t, PySem.W.mg_of X G h⟩), (by obtain ⟨t, h⟩ := c_MOST_FACTOR; exact ⟨t, PySem.W.mg_of X G h⟩), ⟨pgScheme, hdScheme, poScheme, saScheme⟩, n_Scheme_radix, n_Scheme_multiple, ⟨neaScheme, nebScheme⟩, PySem.W.mg_of X G aScheme, ⟨⟨pgScheme, hdScheme, poScheme, saScheme⟩, isaScheme, isbScheme, iscScheme, isdScheme, if_pos (beq_self_eq_true _)⟩, f__law_source_of, f__law_next, f__law_one, f__law_scheme, f_is_integer, f_is_between, (f_Scheme_init (PySem.W.mg_of X G aScheme)), f__law_cell_at, f_check_number, f_Scheme_unit, f_Scheme_parent_of, f_Scheme_chain, f__law_number, f__law_unit, f_Scheme_last_time, f__law_parent, f_Scheme_level, f_Scheme_parent, f_Scheme_block, f_Scheme_has_in_chain, f__law_one_right, f_Scheme_base, f_Scheme_factor, f_Scheme_eq, f_law⟩
theorem all_mk {l : PySem.W.OpenLaw} {w : World} {K : PySem.W.Frag} {mg : Str → Option Value} {fa CS : Addr} (hfa : mg "law" = some (.ref fa)) (T : Top K mg CS) :
    ∃ fd : FuncData, (∀ (s : Shared) (v : Value), BindsTo s fd ⟨[v], []⟩ [("_law_script", v)]) ∧ ∀ base : Heap, K.In base → base.Ns mainGlobals mg → FnOk l.prog w K mg base CX0 5 fa fd ["_law_script"] (sp_law K) := by
  obtain ⟨f, fd, h1, F⟩ := T.f_law.ex
  have e := hfa.symm.trans h1
  cases e
  have ok := fun base => ok_law (P := l.prog) (w := w) (base := base) F T
  obtain ⟨oc, od, kV, doc, pm, an, cdv, ct, osl, rfl, lk, hcd⟩ := F.ex
  exact ⟨_, fun s v => .of_eq rfl, fun base _ _ => ok base⟩
theorem walk {l : PySem.W.OpenLaw} {q : Program} {loose : List Str} {XP : (Str → Option Value) → Heap → Prop} {YP : World → Heap → Prop} {d : DefRec} {K : Params → PySem.W.Frag} (hn : l.most = some 63) (hdf : d.params.defaults = [])
    (hY : ∀ (w : World) (h : Heap), YP w h → (K w.params).In h)
    (F : ∀ (w : World) (mg : Str → Option Value) (fa : Addr) (h : Heap), (K w.params).In h → h.Ns mainGlobals mg → mg d.name = some (.ref fa) →
      ∃ fd : FuncData, (∀ (s : Shared) (u : Value), BindsTo s fd ⟨[u], []⟩ [("_law_script", u)]) ∧ ∀ base : Heap, (K w.params).In base → base.Ns mainGlobals mg → FnOk l.prog w (K w.params) mg base CX0 5 fa fd ["_law_script"] (sp_law (K w.params))) :
    PySem.W.WalkO q loose XP YP l.row.toRowW d [] (fun f vs => PySem.call f vs) :=
  L2.walk_of (n := 63) (k := 5) (x := "_law_script") (CX := fun _ => CX0) (sp := fun w => sp_law (K w.params)) hn (by decide) hdf ⟨rfl, by decide, by decide⟩ hY F (fun _ _ a ns hl _ hS => ⟨a, ns, rfl, hS, hl, fun _ => rfl⟩) fun _ _ _ _ _ z => z
end Sn
open PySem PySem.W PyProof.Rows
set_option maxRecDepth 100000 in
set_option maxHeartbeats 0 in
theorem PySem.Challenge.cw_snapdigits_k01_levels_parents_and_chains_holds : PySem.Challenge.rw_snapdigits_k01_levels_parents_and_chains.Holds := by
  w_on; o_law; k_head; (case hw => w_witness2)
  k_fill
  refine Sn.walk (l := PySem.Challenge.rw_snapdigits_k01_levels_parents_and_chains) rfl rfl (fun w h Y => PySem.W.kIn_of Y) ?F
  case F =>
    intro w mg fa h KX G hmg
    refine' Sn.all_mk hmg (Sn.top_mk KX G ?aScheme ?b_all ?b_bool ?b_int ?b_isinstance ?b_len ?b_max ?b_range ?c_MOST_BASE ?c_MOST_FACTOR ?pgScheme ?hdScheme ?poScheme ?saScheme ?n_Scheme_radix ?n_Scheme_multiple ?neaScheme ?nebScheme ?isaScheme ?isbScheme ?iscScheme ?isdScheme ?f__law_source_of ?f__law_next ?f__law_one ?f__law_scheme ?f_is_integer ?f_is_between ?f_Scheme_init ?f__law_cell_at ?f_check_number ?f_Scheme_unit ?f_Scheme_parent_of ?f_Scheme_chain ?f__law_number ?f__law_unit ?f_Scheme_last_time ?f__law_parent ?f_Scheme_level ?f_Scheme_parent ?f_Scheme_block ?f_Scheme_has_in_chain ?f__law_one_right ?f_Scheme_base ?f_Scheme_factor ?f_Scheme_eq ?f_law)
    (case aScheme => (k_is))
    (case b_all => (k_is))
    (case b_bool => (k_is))
    (case b_int => (k_is))
    (case b_isinstance => (k_is))
    (case b_len => (k_is))
    (case b_max => (k_is))
    (case b_range => (k_is))
    (case c_MOST_BASE => (exact ⟨_, by k_is⟩))
    (case c_MOST_FACTOR => (exact ⟨_, by k_is⟩))
    (case pgScheme => (k_is))
    (case hdScheme => (k_is))
    (case poScheme => (k_is))
    (case saScheme => (k_is))
    (case n_Scheme_radix => (k_is))
    (case n_Scheme_multiple => (k_is))
    (case neaScheme => (k_is))
    (case nebScheme => (k_is))
    (case isaScheme => (k_is))
    (case isbScheme => (k_is))
    (case iscScheme => (k_is))
    (case isdScheme => (k_is))
    (case f__law_source_of => (refine' Kr.topFn_mk KX G ?a ?l ?c ?k; (case a => k_is); (case l => k_is); (case c => k_is); (case k => k_is)))
    (case f__law_next => (refine' Kr.topFn_mk KX G ?a ?l ?c ?k; (case a => k_is); (case l => k_is); (case c => k_is); (case k => k_is)))
    (case f__law_one => (refine' Kr.topFn_mk KX G ?a ?l ?c ?k; (case a => k_is); (case l => k_is); (case c => k_is); (case k => k_is)))
    (case f__law_scheme => (refine' Kr.topFn_mk KX G ?a ?l ?c ?k; (case a => k_is); (case l => k_is); (case c => k_is); (case k => k_is)))
    (case f_is_integer => (refine' Kr.topFn_mk KX G ?a ?l ?c ?k; (case a => k_is); (case l => k_is); (case c => k_is); (case k => k_is)))
    (case f_is_between => (refine' Kr.topFn_mk KX G ?a ?l ?c ?k; (case a => k_is); (case l => k_is); (case c => k_is); (case k => k_is)))
    (case f_Scheme_init => (intro hC; refine' Kr.initFn_mk hC ?m ?kc ?a ?i ?l ?c ?k; (case m => k_is); (case kc => k_is); (case a => k_is); (case i => k_is); (case l => k_is); (case c => k_is); (case k => k_is)))
    (case f__law_cell_at => (refine' Kr.topFn_mk KX G ?a ?l ?c ?k; (case a => k_is); (case l => k_is); (case c => k_is); (case k => k_is)))
    (case f_check_number => (refine' Kr.topFn_mk KX G ?a ?l ?c ?k; (case a => k_is); (case l => k_is); (case c => k_is); (case k => k_is)))
    (case f_Scheme_unit => (refine' Kr.methFn_mk ?a ?i ?l ?c ?k; (case a => k_is); (case i => k_is); (case l => k_is); (case c => k_is); (case k => k_is)))
    (case f_Scheme_parent_of => (refine' Kr.methFn_mk ?a ?i ?l ?c ?k; (case a => k_is); (case i => k_is); (case l => k_is); (case c => k_is); (case k => k_is)))
    (case f_Scheme_chain => (refine' Kr.methFn_mk ?a ?i ?l ?c ?k; (case a => k_is); (case i => k_is); (case l => k_is); (case c => k_is); (case k => k_is)))
    (case f__law_number => (refine' Kr.topFn_mk KX G ?a ?l ?c ?k; (case a => k_is); (case l => k_is); (case c => k_is); (case k => k_is)))
    (case f__law_unit => (refine' Kr.topFn_mk KX G ?a ?l ?c ?k; (case a => k_is); (case l => k_is); (case c => k_is); (case k => k_is)))
    (case f_Scheme_last_time => (refine' Kr.methFn_mk ?a ?i ?l ?c ?k; (case a => k_is); (case i => k_is); (case l => k_is); (case c => k_is); (case k => k_is)))
    (case f__law_parent => (refine' Kr.topFn_mk KX G ?a ?l ?c ?k; (case a => k_is); (case l => k_is); (case c => k_is); (case k => k_is)))
    (case f_Scheme_level => (refine' Kr.methFn_mk ?a ?i ?l ?c ?k; (case a => k_is); (case i => k_is); (case l => k_is); (case c => k_is); (case k => k_is)))
    (case f_Scheme_parent => (refine' Kr.methFn_mk ?a ?i ?l ?c ?k; (case a => k_is); (case i => k_is); (case l => k_is); (case c => k_is); (case k => k_is)))
    (case f_Scheme_block => (refine' Kr.methFn_mk ?a ?i ?l ?c ?k; (case a => k_is); (case i => k_is); (case l => k_is); (case c => k_is); (case k => k_is)))
    (case f_Scheme_has_in_chain => (refine' Kr.methFn_mk ?a ?i ?l ?c ?k; (case a => k_is); (case i => k_is); (case l => k_is); (case c => k_is); (case k => k_is)))
    (case f__law_one_right => (refine' Kr.topFn_mk KX G ?a ?l ?c ?k; (case a => k_is); (case l => k_is); (case c => k_is); (case k => k_is)))
    (case f_Scheme_base => (refine' Kr.methFn_mk ?a ?i ?l ?c ?k; (case a => k_is); (case i => k_is); (case l => k_is); (case c => k_is); (case k => k_is)))
    (case f_Scheme_factor => (refine' Kr.methFn_mk ?a ?i ?l ?c ?k; (case a => k_is); (case i => k_is); (case l => k_is); (case c => k_is); (case k => k_is)))
    (case f_Scheme_eq => (refine' Kr.methFn_mk ?a ?i ?l ?c ?k; (case a => k_is); (case i => k_is); (case l => k_is); (case c => k_is); (case k => k_is)))
    (case f_law => (refine' Kr.topFn_mk KX G ?a ?l ?c ?k; (case a => k_is); (case l => k_is); (case c => k_is); (case k => k_is)))
#print axioms PySem.Challenge.cw_snapdigits_k01_levels_parents_and_chains_holds
