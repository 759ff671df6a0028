import PyProof.Rows.All
import Wide.All
import OpenK.AllK
import Wide.FinOn
import HandS.ForMost
import HandS.Wide
import HandS.IsInst
import HandS.SortInts
import HandS.Style
import HandS.Defaults
import HandS.MakeKw
import HandS.Zip
import HandS.Flow
import HandS.SortKw
import HandS.SetFor
import HandS.Strs
import HandS.Conv
import HandS.Codes
import HandS.MakeKwOnly
import HandS.WideBits
import KE.DataMinMax
import KE.SortData
import KE.KSortedM
import HandS.Deep
import HandS.NoneIn
import PySem.Challenge.RW_snapdigits_k23_widest_gaps
set_option Elab.async false
set_option linter.all false
set_option maxRecDepth 100000
set_option maxHeartbeats 1000000
/-! ### range over ints of any size -/
namespace L2
open PySem PySem.Spec PyProof.Rows
theorem turn_long {P : Program} {w : World} {K : PySem.W.Frag} {tg : Expr} (it : Addr) (lo : Int) (n : Nat) : Turn P w K tg (Itr lo n) [it] it (fun i h => IsLongIter h it (lo + (i : Nat) * 1) ((n : Int) - (i : Nat)) 1) where
  mem := by simp
  obj := fun i h st b hb => by
    have e : b = it := by simpa using hb
    subst e
    exact ⟨_, st, fun v z => by
      have z' : Data.fields _ = Data.cell v := z
      cases z'⟩
  keep := fun i h h' st k => k it (by simp) _ st
  item := by
    intro X hP hw hK hc i pins s σ H E I hf st hg
    subst hP hw hK
    obtain ⟨f0, f1, f2, f3, f4, f5⟩ := hf it (by simp)
    have W := Walks.longrange (prog := X.prog) (w := X.w) (I.ok.hd hc) it lo 1 n
    refine W.item i s _ _ hg st fun v h' tk hv st' kk => ?_
    obtain ⟨t, rfl⟩ := hv
    have I1 : Inv X pins σ H { s with heap := h', toks := tk } := I.turned (fun b o hb e => kk b o (by simpa using hb) e) f0 f1 f3 f4 f5
    refine ⟨_, rfl, go_of (s := { s with heap := h', toks := tk }) (n := "longrange_iterator") st' rfl rfl (by decide) ⟨.int (lo + i), H, I1, ⟨t, ?_⟩, ⟨rfl, rfl⟩, st', fun b hb => (hf b hb).1⟩⟩
    rw [Int.mul_one]
  done := by
    intro X hP hw hK hc i pins s σ H E I hf st hg
    subst hP hw hK
    obtain ⟨f0, f1, f2, f3, f4, f5⟩ := hf it (by simp)
    exact wpAny_pyNext_long_end (I.ok.hd hc) st (by have : n ≤ i := hg; omega) fun h' eb => ⟨rfl, I.turned (t' := s.toks) (fun b o hb e => eb b o hb e) f0 f1 f3 f4 f5⟩
  self := fun _ _ _ _ _ st h => wpAny_pyIter_longiter st h
section
variable {X : Cx} {tg : Expr}
theorem range_itW {pins : List (Addr × Obj)} {σ : St} {H : Hp} {s : Shared} {R : It → Hp → Prop} {E : Value → Shared → Prop} {lo hi : Int} {t u v : Tok} {tk : Nat} (I : Inv X pins σ H s)
    (q : R (Itr lo (hi - lo).toNat) H) : wpAny (model X.prog X.w) X.A (pyIter (.ref s.heap.objs.size)) (PIE X pins σ tg R) E { s with heap := s.heap.push { cls := .type "range", data := .fields #[.int lo t, .int hi u, .int 1 v] }, toks := tk } := by
  have I1 : Inv X pins σ H { s with heap := s.heap.push { cls := .type "range", data := .fields #[.int lo t, .int hi u, .int 1 v] }, toks := tk } := I.kept fun b o e => Heap.get?_push_of_some _ e
  have e1 : lo + ((0 : Nat) : Int) * 1 = lo := by simp
  have e2 : (((hi - lo).toNat : Nat) : Int) - ((0 : Nat) : Int) = Builtin.Range.rangeSize lo hi 1 := by rw [rangeSize_one]; split <;> omega
  cases hsm : Builtin.Range.small lo hi 1 with
  | true =>
    refine wpAny_pyIter_range (IsRange.new ..) hsm ?_
    refine ⟨(s.heap.push { cls := .type "range", data := .fields #[.int lo t, .int hi u, .int 1 v] }).objs.size, [(s.heap.push { cls := .type "range", data := .fields #[.int lo t, .int hi u, .int 1 v] }).objs.size], _, _, H, rfl,
      I1.kept (t' := tk) fun b o e => Heap.get?_push_of_some _ e, turn_range _ lo (hi - lo).toNat, ?_, fun b hb => ?_, q⟩
    · show IsRangeIter _ _ (lo + ((0 : Nat) : Int) * 1) ((((hi - lo).toNat : Nat) : Int) - ((0 : Nat) : Int)) 1
      rw [e1, e2]
      exact Heap.get?_push_size _ rfl
    · have e : b = (s.heap.push { cls := .type "range", data := .fields #[.int lo t, .int hi u, .int 1 v] }).objs.size := by simpa using hb
      subst e
      exact I1.fpOk (Nat.le_refl _) (I1.hok.fresh (Nat.le_refl _))
  | false =>
    refine wpAny_pyIter_longrange (IsRange.new ..) hsm ?_
    refine ⟨(s.heap.push { cls := .type "range", data := .fields #[.int lo t, .int hi u, .int 1 v] }).objs.size, [(s.heap.push { cls := .type "range", data := .fields #[.int lo t, .int hi u, .int 1 v] }).objs.size], _, _, H, rfl,
      I1.kept (t' := tk) fun b o e => Heap.get?_push_of_some _ e, turn_long _ lo (hi - lo).toNat, ?_, fun b hb => ?_, q⟩
    · show IsLongIter _ _ (lo + ((0 : Nat) : Int) * 1) ((((hi - lo).toNat : Nat) : Int) - ((0 : Nat) : Int)) 1
      rw [e1, e2]
      exact Heap.get?_push_size _ rfl
    · have e : b = (s.heap.push { cls := .type "range", data := .fields #[.int lo t, .int hi u, .int 1 v] }).objs.size := by simpa using hb
      subst e
      exact I1.fpOk (Nat.le_refl _) (I1.hok.fresh (Nat.le_refl _))
def iRngW (ta : TA) : TI := fun σ H R => ta σ H fun vs H1 => ∃ i j : Int, vs = [.int i, .int j] ∧ R (Itr i (j - i).toNat) H1
theorem pi_rangeW {a b : Expr} {ta : TA} {p pos : Pos} (hg : Gl X "range") (hm : X.mg "range" = none) (ha : PA X [a, b] ta) (hs : starEach [a, b] X.env = [(false, eval a X.env), (false, eval b X.env)] := by rfl) (hs2 : starEach [b] X.env = [(false, eval b X.env)] := by rfl) :
    PI X tg (.Call (.Name "range" p) [a, b] [] pos) (iRngW ta) := by
  refine ⟨fun pins s σ H R I h => ?_⟩
  refine Call_ (ld_blt I hg hm boot_range (PyProof.Rows.callWith_type1 (thn (ha.run pos pins s σ H _ I h) fun us s1 ⟨vs, H1, I1, r1, q1⟩ => ?_) (by rw [hs, hs2]) (by rw [hs2]; rfl)))
  obtain ⟨i, j, e, q⟩ := q1
  subst e
  cases r1 with
  | cons r rr =>
    cases rr with
    | cons r' rr =>
      cases rr
      obtain ⟨t, rfl⟩ := r
      obtain ⟨t', rfl⟩ := r'
      exact call_range_2 (range_itW I1 q)
def iRngW1 (ta : TA) : TI := fun σ H R => ta σ H fun vs H1 => ∃ j : Int, vs = [.int j] ∧ R (Itr 0 j.toNat) H1
theorem pi_rangeW1 {a : Expr} {ta : TA} {p pos : Pos} (hg : Gl X "range") (hm : X.mg "range" = none) (ha : PA X [a] ta) (hs : starEach [a] X.env = [(false, eval a X.env)] := by rfl) : PI X tg (.Call (.Name "range" p) [a] [] pos) (iRngW1 ta) := by
  refine ⟨fun pins s σ H R I h => ?_⟩
  refine Call_ (ld_blt I hg hm boot_range (PyProof.Rows.callWith_type1 (thn (ha.run pos pins s σ H _ I h) fun us s1 ⟨vs, H1, I1, r1, q1⟩ => ?_) hs rfl))
  obtain ⟨j, e, q⟩ := q1
  subst e
  cases r1 with
  | cons r rr =>
    cases rr
    obtain ⟨t, rfl⟩ := r
    exact call_range_1 (range_itW I1 (by simpa using q))
end
end L2
namespace Kr
open PySem L2

/-! ### a ledger: what is known of the heap, place by place -/
inductive Ent where
  | ob (o : HO)
  | src (n : Nat)
  | well (n : Nat)
  | rows (rs : List (List V))
def Ent.Is : Ent → HO → Prop
  | .rows _, _ => False
  | .ob o, u => u = o
  | .src n, u => ∃ x y z : Int, u = .lst [.int x, .int y, .int z] ∧ 0 ≤ y ∧ y < 2147483648 ∧ 0 ≤ z ∧ z ≤ (n : Int)
  | .well n, u => ∃ x y z : Int, u = .lst [.int x, .int y, .int z] ∧ 0 ≤ z ∧ z ≤ (n : Int)
/-- by the heap: a list of tuples -/
def Ent.In : Ent → Hp → HO → Prop
  | .rows rs, H, u => ∃ as : List Addr, u = .lst (as.map V.ref) ∧ as.length = rs.length ∧ ∀ (k : Nat) (a : Addr) (r : List V), as[k]? = some a → rs[k]? = some r → H a = some (.tup r)
  | .ob o, _, u => u = o
  | .src n, _, u => (Ent.src n).Is u
  | .well n, _, u => (Ent.well n).Is u
theorem Ent.in_of {e : Ent} {H : Hp} {o : HO} (h : e.Is o) : e.In H o := by
  cases e with
  | rows rs => exact h.elim
  | ob u => exact h
  | src n => exact h
  | well n => exact h
theorem Ent.In.same {e : Ent} {H H' : Hp} {o : HO} (s : Same H H') (h : e.In H o) : e.In H' o := by
  cases e with
  | rows rs =>
    obtain ⟨as, h1, h2, h3⟩ := h
    exact ⟨as, h1, h2, fun k a r q1 q2 => s _ _ (h3 k a r q1 q2)⟩
  | ob u => exact h
  | src n => exact h
  | well n => exact h
theorem Ent.In.exc {e : Ent} {H H' : Hp} {o u : HO} {a : Addr} (ha : H a = some u) (hu : ∀ r, u ≠ .tup r) (s : ∀ c o, H c = some o → c ≠ a → H' c = some o) (h : e.In H o) : e.In H' o := by
  cases e with
  | rows rs =>
    obtain ⟨as, h1, h2, h3⟩ := h
    refine ⟨as, h1, h2, fun k b r q1 q2 => s _ _ (h3 k b r q1 q2) fun z => ?_⟩
    subst z
    have q3 := h3 k b r q1 q2
    rw [ha] at q3
    exact hu r (Option.some.inj q3)
  | ob u => exact h
  | src n => exact h
  | well n => exact h
/-- may change -/
def Ent.mov : Ent → Bool
  | .ob (.tup _) => false
  | _ => true
theorem Ent.mov_ne {e : Ent} {H : Hp} {u : HO} (m : e.mov = true) (h : e.In H u) : ∀ r, u ≠ .tup r := by
  intro r q
  subst q
  cases e with
  | rows rs =>
    obtain ⟨as, h1, _⟩ := h
    cases h1
  | ob o =>
    have h : HO.tup r = o := h
    subst h
    cases m
  | src n =>
    obtain ⟨x, y, z, h1, _⟩ := h
    cases h1
  | well n =>
    obtain ⟨x, y, z, h1, _⟩ := h
    cases h1
abbrev Led := List (Addr × Ent × Bool)
structure Gr where
  H0 : Hp
  mu : Addr → Prop
/-- two entries of one place: both tuples, or both not own -/
def NdR (x y : Addr × Ent × Bool) : Prop := x.1 = y.1 → (x.2.1.mov = false ∧ y.2.1.mov = false) ∨ (x.2.2 = false ∧ y.2.2 = false)
theorem ndR_symm {x y : Addr × Ent × Bool} (h : NdR x y) : NdR y x := fun e => (h e.symm).imp (fun z => ⟨z.2, z.1⟩) (fun z => ⟨z.2, z.1⟩)
theorem nd_at {L : Led} (h : L.Pairwise NdR) {i j : Nat} {x y : Addr × Ent × Bool} (hx : L[i]? = some x) (hy : L[j]? = some y) (hij : i ≠ j) : NdR x y := by
  obtain ⟨hi, ei⟩ := List.getElem?_eq_some_iff.mp hx
  obtain ⟨hj, ej⟩ := List.getElem?_eq_some_iff.mp hy
  rcases Nat.lt_or_gt_of_ne hij with q | q
  · have := List.pairwise_iff_getElem.mp h i j hi hj q
    rwa [ei, ej] at this
  · have := List.pairwise_iff_getElem.mp h j i hj hi q
    rw [ei, ej] at this
    exact ndR_symm this
theorem nd_ne {L : Led} (h : L.Pairwise NdR) {i j : Nat} {x y : Addr × Ent × Bool} (hx : L[i]? = some x) (hy : L[j]? = some y) (hij : i ≠ j) (m : x.2.1.mov = true ∨ y.2.1.mov = true) (o : x.2.2 = true ∨ y.2.2 = true) : x.1 ≠ y.1 := by
  intro e
  rcases nd_at h hx hy hij e with z | z
  · rcases m with m | m
    · rw [m] at z; cases z.1
    · rw [m] at z; cases z.2
  · rcases o with o | o
    · rw [o] at z; cases z.1
    · rw [o] at z; cases z.2
theorem nd_set {L : Led} (h : L.Pairwise NdR) {i : Nat} {a : Addr} {e e' : Ent} {b : Bool} (k : L[i]? = some (a, e, b)) (m : e.mov = true) : (L.set i (a, e', b)).Pairwise NdR := by
  rw [List.pairwise_iff_getElem]
  intro p q hp hq hpq ee
  have hp' : p < L.length := by simpa using hp
  have hq' : q < L.length := by simpa using hq
  by_cases h1 : i = p
  · subst h1
    rw [List.getElem_set_self, List.getElem_set_ne (by omega)] at ee ⊢
    rcases nd_at h (x := (a, e, b)) k (List.getElem?_eq_getElem hq') (by omega) ee with z | z
    · rw [m] at z
      cases z.1
    · exact .inr z
  · by_cases h2 : i = q
    · subst h2
      rw [List.getElem_set_self, List.getElem_set_ne (by omega)] at ee ⊢
      rcases nd_at h (y := (a, e, b)) (List.getElem?_eq_getElem hp') k (by omega) ee with z | z
      · rw [m] at z
        cases z.2
      · exact .inr z
    · rw [List.getElem_set_ne h1, List.getElem_set_ne h2] at ee ⊢
      exact List.pairwise_iff_getElem.mp h p q hp' hq' hpq ee
theorem nd_app {L : Led} (h : L.Pairwise NdR) {x : Addr × Ent × Bool} (hn : ∀ y ∈ L, NdR y x) : (L ++ [x]).Pairwise NdR := by
  rw [List.pairwise_append]
  refine ⟨h, List.pairwise_singleton _ _, fun y hy z hz => ?_⟩
  have e : z = x := by simpa using hz
  subst e
  exact hn y hy
structure At (g : Gr) (L : Led) (H : Hp) : Prop where
  old : ∀ b o, g.H0 b = some o → ¬ g.mu b → H b = some o
  led : ∀ p ∈ L, ∃ o, H p.1 = some o ∧ p.2.1.In H o
  own : ∀ p ∈ L, p.2.2 = true → (g.H0 p.1 = none ∨ g.mu p.1)
  nd : L.Pairwise NdR
section
variable {g : Gr} {L : Led} {H H' : Hp} {a p : Addr} {e : Ent} {o u : HO} {b : Bool} {i : Nat}
theorem At.look (h : At g L H) (k : L[i]? = some (a, e, b)) : ∃ o, H a = some o ∧ e.In H o := h.led _ (List.mem_of_getElem? k)
theorem At.get (h : At g L H) (k : L[i]? = some (a, .ob o, b)) : H a = some o := by
  obtain ⟨u, h1, h2⟩ := h.look k
  have h2 : u = o := h2
  rw [h1, h2]
/-- nothing is forgotten -/
theorem At.same (h : At g L H) (s : Same H H') : At g L H' := by
  refine ⟨fun c o e m => s _ _ (h.old c o e m), fun q hq => ?_, h.own, h.nd⟩
  obtain ⟨o, h1, h2⟩ := h.led q hq
  exact ⟨o, s _ _ h1, h2.same s⟩
/-- a new object -/
theorem At.newE (h : At g L H) (s : Same H H') (n : H p = none) (hp : H' p = some o) (he : e.In H' o) : At g (L ++ [(p, e, true)]) H' := by
  refine ⟨fun c o e m => s _ _ (h.old c o e m), fun q hq => ?_, fun q hq => ?_, ?_⟩
  · rcases List.mem_append.mp hq with hq | hq
    · obtain ⟨o, h1, h2⟩ := h.led q hq
      exact ⟨o, s _ _ h1, h2.same s⟩
    · have e : q = (p, e, true) := by simpa using hq
      subst e
      exact ⟨o, hp, he⟩
  · rcases List.mem_append.mp hq with hq | hq
    · exact h.own q hq
    · have e : q = (p, e, true) := by simpa using hq
      subst e
      intro _
      by_cases hmu : g.mu p
      · exact .inr hmu
      · refine .inl ?_
        cases z : g.H0 p with
        | none => rfl
        | some u =>
          rw [h.old p u z hmu] at n
          cases n
  · refine nd_app h.nd fun q hq e3 => ?_
    obtain ⟨o, h1, _⟩ := h.led q hq
    rw [e3, n] at h1
    cases h1
theorem At.new (h : At g L H) (s : Same H H') (n : H p = none) (hp : H' p = some o) : At g (L ++ [(p, .ob o, true)]) H' := h.newE s n hp rfl
theorem At.upd_new (h : At g L H) (n : H p = none) : At g (L ++ [(p, .ob o, true)]) (upd H p o) :=
  h.new (fun c u e => by rw [upd_ne (ne_of_none e n)]; exact e) n upd_same
/-- an own object changes -/
theorem At.chg (h : At g L H) (k : L[i]? = some (a, e, true)) {e' : Ent} (s : ∀ c o, H c = some o → c ≠ a → H' c = some o) (ho : H' a = some o) (he : e'.In H' o) (hmv : e.mov = true := by rfl) : At g (L.set i (a, e', true)) H' := by
  obtain ⟨u0, hu0, hin0⟩ := h.look k
  have hmn := Ent.mov_ne hmv hin0
  have hi : i < L.length := (List.getElem?_eq_some_iff.mp k).1
  have hk : L[i] = (a, e, true) := (List.getElem?_eq_some_iff.mp k).2
  have hown := h.own _ (List.mem_of_getElem? k) rfl
  have hmap : (L.set i (a, e', true)).map (·.1) = L.map (·.1) := by
    rw [List.map_set]
    apply List.ext_getElem?
    intro j
    by_cases hj : i = j
    · subst hj
      rw [List.getElem?_set_self (by simpa using hi), List.getElem?_map, k]
      rfl
    · rw [List.getElem?_set_ne hj]
  refine ⟨fun c o' e1 m => ?_, fun q hq => ?_, fun q hq hb => ?_, ?_⟩
  · refine s _ _ (h.old c o' e1 m) fun z => ?_
    subst z
    rcases hown with z | z
    · rw [show g.H0 c = none from z] at e1
      cases e1
    · exact m z
  · obtain ⟨j, hj, ej⟩ := List.mem_iff_getElem.mp hq
    by_cases hij : i = j
    · subst hij
      rw [List.getElem_set_self] at ej
      subst ej
      exact ⟨o, ho, he⟩
    · rw [List.getElem_set_ne hij] at ej
      have hj' : j < L.length := by simpa using hj
      obtain ⟨o', h1, h2⟩ := h.led q (ej ▸ List.getElem_mem hj')
      refine ⟨o', s _ _ h1 fun z => hij ?_, h2.exc hu0 hmn s⟩
      exact Decidable.byContradiction fun hij' => nd_ne h.nd k (List.getElem?_eq_getElem hj') hij' (.inl hmv) (.inl rfl) (by rw [ej]; exact z.symm)
  · obtain ⟨j, hj, ej⟩ := List.mem_iff_getElem.mp hq
    by_cases hij : i = j
    · subst hij
      rw [List.getElem_set_self] at ej
      subst ej
      exact hown
    · rw [List.getElem_set_ne hij] at ej
      have hj' : j < L.length := by simpa using hj
      exact h.own q (ej ▸ List.getElem_mem hj') hb
  · exact nd_set h.nd k hmv
theorem At.upd_chg (h : At g L H) (k : L[i]? = some (a, e, true)) (hmv : e.mov = true := by rfl) : At g (L.set i (a, .ob o, true)) (upd H a o) :=
  h.chg k (fun c u e z => by rw [upd_ne z]; exact e) upd_same rfl hmv
theorem At.sub {L' : Led} (h : At g L' H) (s : L.Sublist L') : At g L H :=
  ⟨h.old, fun q hq => h.led q (s.subset hq), fun q hq => h.own q (s.subset hq), h.nd.sublist s⟩
theorem At.pre {L' : Led} (h : At g L' H) (s : L <+: L') : At g L H := h.sub s.sublist
end

/-! ### readings over a ledger -/
def Wp {α : Type} (g : Gr) (L : Led) (m : Hp → (α → Hp → Prop) → Prop) (C : α → Led → Prop) : Prop :=
  ∀ H, At g L H → ∀ Q : α → Hp → Prop, (∀ v L' H', C v L' → At g L' H' → Q v H') → m H Q
structure Ks where
  nx : St → Led → Prop
  rt : V → Led → Prop
  bk : St → Led → Prop := fun _ _ => False
  ct : St → Led → Prop := fun _ _ => False
structure Eo (g : Gr) (K : Ks) (D : Ends) : Prop where
  nx : ∀ σ L H, K.nx σ L → At g L H → D.nx σ H
  rt : ∀ v L H, K.rt v L → At g L H → D.rt v H
  bk : ∀ σ L H, K.bk σ L → At g L H → D.bk σ H
  ct : ∀ σ L H, K.ct σ L → At g L H → D.ct σ H
def Ws (g : Gr) (L : Led) (t : TS) (σ : St) (K : Ks) : Prop := ∀ H, At g L H → ∀ D, Eo g K D → t D σ H

section
variable {g : Gr} {L : Led} {σ : St} {α β : Type}
theorem Wp.now {m : Hp → (α → Hp → Prop) → Prop} {C : α → Led → Prop} {v : α} (h : ∀ H Q, At g L H → Q v H → m H Q) (c : C v L) : Wp g L m C :=
  fun H a Q q => h H Q a (q v L H c a)
theorem Wp.mono {m : Hp → (α → Hp → Prop) → Prop} {C C' : α → Led → Prop} (h : Wp g L m C) (c : ∀ v L', C v L' → C' v L') : Wp g L m C' :=
  fun H a Q q => h H a Q fun v L' H' z => q v L' H' (c v L' z)
variable {C : V → Led → Prop} {v x y : V} {ta tb tc te : TE} {i j : Nat}
theorem wp_var (h : σ[i]? = some (some v)) (c : C v L) : Wp g L (tVar i σ) C := .now (fun H Q _ q => ⟨v, h, q⟩) c
theorem wp_c (c : C v L) : Wp g L (tC v σ) C := .now (fun _ _ _ q => q) c
theorem wp_op {r : R2} (h : Wp g L (ta σ) fun x L1 => Wp g L1 (tb σ) fun y L2 => Wp g L2 (r x y) C) : Wp g L (tOp r ta tb σ) C :=
  fun H a Q q => h H a _ fun x L1 H1 h1 a1 => h1 H1 a1 _ fun y L2 H2 h2 a2 => h2 H2 a2 Q q
theorem wp_un {r : V → Hp → VK → Prop} (h : Wp g L (ta σ) fun x L1 => Wp g L1 (r x) C) : Wp g L (tUn r ta σ) C :=
  fun H a Q q => h H a _ fun x L1 H1 h1 a1 => h1 H1 a1 Q q
/-- ints -/
theorem wr0 {f : Int → Int → V} {m n : Int} (c : C (f m n) L) : Wp g L (rI0 f (.int m) (.int n)) C := .now (fun _ _ _ q => ⟨m, n, rfl, rfl, q⟩) c
theorem wr1 {P : Int → Int → Prop} {f : Int → Int → V} {m n : Int} (h : P m n) (c : C (f m n) L) : Wp g L (rI P f (.int m) (.int n)) C := .now (fun _ _ _ q => ⟨m, n, rfl, rfl, h, q⟩) c
theorem wu0 {f : Int → V} {m : Int} (c : C (f m) L) : Wp g L (rU f (.int m)) C := .now (fun _ _ _ q => ⟨m, rfl, q⟩) c
theorem wr_modA {m n : Int} (h : 0 < n) (c : ∀ r : Int, 0 ≤ r → r < n → C (.int r) L) : Wp g L (rI (fun _ j => 0 < j) (fun i j => .int (i % j)) (.int m) (.int n)) C := wr1 h (c _ (Int.emod_nonneg _ (by omega)) (Int.emod_lt_of_pos _ h))
theorem wr_powc {m n r : Int} (h : CPow m n) (e : m ^ n.toNat = r) (c : C (.int r) L) : Wp g L (rI CPow (fun i j => .int (i ^ j.toNat)) (.int m) (.int n)) C := wr1 h (by rw [e]; exact c)
theorem wr_eq (h : scal x y = true) (c : C (.bl (decide (x = y))) L) : Wp g L (rEq x y) C := .now (fun _ _ _ q => ⟨h, q⟩) c
theorem wr_ne (h : scal x y = true) (c : C (.bl (!decide (x = y))) L) : Wp g L (rNe x y) C := .now (fun _ _ _ q => ⟨h, q⟩) c
theorem wr_eqI {m n : Int} (c : C (.bl (decide (m = n))) L) : Wp g L (rEq (.int m) (.int n)) C :=
  wr_eq rfl (by rw [show decide (V.int m = V.int n) = decide (m = n) from by simp]; exact c)
theorem wr_neI {m n : Int} (c : C (.bl (!decide (m = n))) L) : Wp g L (rNe (.int m) (.int n)) C :=
  wr_ne rfl (by rw [show decide (V.int m = V.int n) = decide (m = n) from by simp]; exact c)
theorem wr_eqB {m n : Bool} (c : C (.bl (decide (m = n))) L) : Wp g L (rEq (.bl m) (.bl n)) C :=
  wr_eq rfl (by rw [show decide (V.bl m = V.bl n) = decide (m = n) from by simp]; exact c)
theorem wr_neB {m n : Bool} (c : C (.bl (!decide (m = n))) L) : Wp g L (rNe (.bl m) (.bl n)) C :=
  wr_ne rfl (by rw [show decide (V.bl m = V.bl n) = decide (m = n) from by simp]; exact c)
def rIsN' : R2 := fun x y H Q => y = .non ∧ Q (.bl (decide (x = .non))) H
def rNotN' : R2 := fun x y H Q => y = .non ∧ Q (.bl (!decide (x = .non))) H
theorem op_isN' {X : Cx} : OpR X (compareOp .Is) rIsN' := op_isN
theorem op_notN' {X : Cx} : OpR X (compareOp .IsNot) rNotN' := op_notN
theorem wr_isN (c : C (.bl (decide (x = .non))) L) : Wp g L (rIsN' x .non) C := .now (fun _ _ _ q => ⟨rfl, q⟩) c
theorem wr_notN (c : C (.bl (!decide (x = .non))) L) : Wp g L (rNotN' x .non) C := .now (fun _ _ _ q => ⟨rfl, q⟩) c
-- tests
variable {B : Bool → Led → Prop} {t u : TT} {b : Bool}
theorem wt_test (h : Wp g L (te σ) fun v L1 => ∃ b, v = .bl b ∧ B b L1) : Wp g L (tTest te σ) B :=
  fun H a Q q => h H a _ fun v L1 H1 ⟨b, e, k⟩ a1 => ⟨b, e, q b L1 H1 k a1⟩
theorem wt_B (h : Wp g L (te σ) fun v L1 => ∃ b, v = .bl b ∧ B b L1) : Wp g L (tB te σ) B :=
  fun H a Q q => h H a _ fun v L1 H1 ⟨b, e, k⟩ a1 => ⟨b, e, q b L1 H1 k a1⟩
theorem wt_and (h : Wp g L (t σ) fun b L1 => if b = true then Wp g L1 (u σ) B else B false L1) : Wp g L (tAnd t u σ) B :=
  fun H a Q q => h H a _ fun b L1 H1 k a1 => by
    cases b with
    | true => exact (show Wp g L1 (u σ) B from k) H1 a1 Q q
    | false => exact q false L1 H1 k a1
theorem wt_or (h : Wp g L (t σ) fun b L1 => if b = true then B true L1 else Wp g L1 (u σ) B) : Wp g L (tOr t u σ) B :=
  fun H a Q q => h H a _ fun b L1 H1 k a1 => by
    cases b with
    | true => exact q true L1 H1 k a1
    | false => exact (show Wp g L1 (u σ) B from k) H1 a1 Q q
theorem wt_not (h : Wp g L (t σ) fun b L1 => B (!b) L1) : Wp g L (tNot t σ) B := fun H a Q q => h H a _ fun b L1 H1 k a1 => q _ L1 H1 k a1
theorem wt_yes (h : B true L) : Wp g L (tYes σ) B := .now (fun _ _ _ q => q) h
theorem wp_andV (h : Wp g L (ta σ) fun x L1 => ∃ b, x = .bl b ∧ if b = true then Wp g L1 (tb σ) C else C (.bl false) L1) : Wp g L (tAndV ta tb σ) C :=
  fun H a Q q => h H a _ fun x L1 H1 ⟨b, e, k⟩ a1 => ⟨b, e, by
    cases b with
    | true => exact (show Wp g L1 (tb σ) C from k) H1 a1 Q q
    | false => exact q _ L1 H1 k a1⟩
theorem wp_orV (h : Wp g L (ta σ) fun x L1 => ∃ b, x = .bl b ∧ if b = true then C (.bl true) L1 else Wp g L1 (tb σ) C) : Wp g L (tOrV ta tb σ) C :=
  fun H a Q q => h H a _ fun x L1 H1 ⟨b, e, k⟩ a1 => ⟨b, e, by
    cases b with
    | true => exact q _ L1 H1 k a1
    | false => exact (show Wp g L1 (tb σ) C from k) H1 a1 Q q⟩
theorem wp_notV (h : Wp g L (ta σ) fun x L1 => ∃ b, x = .bl b ∧ C (.bl (!b)) L1) : Wp g L (tNotV ta σ) C :=
  fun H a Q q => h H a _ fun x L1 H1 ⟨b, e, k⟩ a1 => ⟨b, e, q _ L1 H1 k a1⟩
theorem wp_if (h : Wp g L (t σ) fun b L1 => if b = true then Wp g L1 (ta σ) C else Wp g L1 (tb σ) C) : Wp g L (tIf t ta tb σ) C :=
  fun H a Q q => h H a _ fun b L1 H1 k a1 => by
    cases b with
    | true => exact (show Wp g L1 (ta σ) C from k) H1 a1 Q q
    | false => exact (show Wp g L1 (tb σ) C from k) H1 a1 Q q
theorem wp_chain {r r' : R2} (h : Wp g L (ta σ) fun x L1 => Wp g L1 (tb σ) fun y L2 => Wp g L2 (r x y) fun z L3 => ∃ b, z = .bl b ∧ if b = true then Wp g L3 (tc σ) fun w L4 => Wp g L4 (r' y w) C else C (.bl false) L3) : Wp g L (tChain r r' ta tb tc σ) C :=
  fun H a Q q => h H a _ fun x L1 H1 h1 a1 => h1 H1 a1 _ fun y L2 H2 h2 a2 => h2 H2 a2 _ fun z L3 H3 ⟨b, e, k⟩ a3 => ⟨b, e, by
    cases b with
    | true => exact (show Wp g L3 (tc σ) _ from k) H3 a3 _ fun w L4 H4 h4 a4 => h4 H4 a4 Q q
    | false => exact q _ L3 H3 k a3⟩
-- arguments
variable {A : List V → Led → Prop} {tr : TA}
theorem wa_nil (h : A [] L) : Wp g L (tNil σ) A := .now (fun _ _ _ q => q) h
theorem wa_cons (h : Wp g L (ta σ) fun x L1 => Wp g L1 (tr σ) fun xs L2 => A (x :: xs) L2) : Wp g L (tCons ta tr σ) A :=
  fun H a Q q => h H a _ fun x L1 H1 h1 a1 => h1 H1 a1 _ fun xs L2 H2 h2 a2 => q _ L2 H2 h2 a2
/-- new things -/
theorem wp_tup (h : Wp g L (tr σ) fun xs L1 => xs.length ≤ 1000 ∧ ∀ p, C (.ref p) (L1 ++ [(p, .ob (.tup xs), true)])) : Wp g L (tTup tr σ) C :=
  fun H a Q q => h H a _ fun xs L1 H1 h1 a1 => ⟨Nat.le_trans h1.1 (by decide), fun p hp => q _ _ _ (h1.2 p) (a1.upd_new hp)⟩
theorem wp_lst (h : Wp g L (tr σ) fun xs L1 => xs.length ≤ 1000 ∧ ∀ p, C (.ref p) (L1 ++ [(p, .ob (.lst xs), true)])) : Wp g L (tLst tr σ) C :=
  fun H a Q q => h H a _ fun xs L1 H1 h1 a1 => ⟨Nat.le_trans h1.1 (by decide), fun p hp => q _ _ _ (h1.2 p) (a1.upd_new hp)⟩
/-- fields -/
theorem wp_fld {K : PySem.W.Frag} {C' : Addr} {f : Str} (i : Nat) (hc : Cls K C') (hn : NoAttr K C' f) (h : Wp g L (ta σ) fun x L1 => ∃ (a dx : Addr) (fs : List (Str × V)) (bo : Bool) (v : V), x = .ref a ∧ L1[i]? = some (a, .ob (.ins C' dx fs), bo) ∧ fs.lookup f = some v ∧ C v L1) : Wp g L (tFld K ta f σ) C :=
  fun H a' Q q => h H a' _ fun x L1 H1 ⟨a, dx, fs, bo, v, e, h1, h2, h3⟩ a1 => ⟨a, C', dx, fs, v, e, a1.get h1, hc, hn, h2, q _ L1 H1 h3 a1⟩
/-- calls -/
theorem wp_call {sp : Sp} {dvs : List V} {E : XK} (h : Wp g L (tr σ) fun vs L1 => Wp g L1 (fun H Q => sp (vs ++ dvs) H Q E) C) : Wp g L (tCall sp dvs E tr σ) C :=
  fun H a Q q => h H a _ fun vs L1 H1 h1 a1 => h1 H1 a1 Q q
theorem wp_callK {sp : Sp} {gV : List V → List V → List V} {E : XK} {tk : TA} (h : Wp g L (tr σ) fun vs L1 => Wp g L1 (tk σ) fun zs L2 => Wp g L2 (fun H Q => sp (gV vs zs) H Q E) C) : Wp g L (tCallK sp gV E tr tk σ) C :=
  fun H a Q q => h H a _ fun vs L1 H1 h1 a1 => h1 H1 a1 _ fun zs L2 H2 h2 a2 => h2 H2 a2 Q q
theorem wp_meth {sp : Sp} {dvs : List V} {E : XK} {C' : Addr} {m : Str} (i : Nat)
    (h : Wp g L (ta σ) fun x L1 => ∃ (a dx : Addr) (fs : List (Str × V)) (bo : Bool), x = .ref a ∧ L1[i]? = some (a, .ob (.ins C' dx fs), bo) ∧ fs.lookup m = none ∧ Wp g L1 (tr σ) fun vs L2 => Wp g L2 (fun H Q => sp (.ref a :: (vs ++ dvs)) H Q E) C) : Wp g L (tMeth C' m sp dvs E ta tr σ) C :=
  fun H a' Q q => h H a' _ fun x L1 H1 ⟨a, dx, fs, bo, e, h1, h2, h3⟩ a1 => by
    subst e
    exact ⟨a, dx, fs, rfl, a1.get h1, h2, h3 H1 a1 _ fun vs L2 H2 k2 a2 => k2 H2 a2 Q q⟩
theorem wp_cb {r : List V → Hp → VK → Prop} (h : Wp g L (tr σ) fun vs L1 => Wp g L1 (r vs) C) : Wp g L (tCB r tr σ) C :=
  fun H a Q q => h H a _ fun vs L1 H1 h1 a1 => h1 H1 a1 Q q
def rMax2 : List V → Hp → VK → Prop := fun xs H Q => ∃ i j, xs = [.int i, .int j] ∧ Q (.int (if j > i then j else i)) H
def rMin2 : List V → Hp → VK → Prop := fun xs H Q => ∃ i j, xs = [.int i, .int j] ∧ Q (.int (if j < i then j else i)) H
def rInt1 : List V → Hp → VK → Prop := fun xs H Q => (∃ i, xs = [.int i] ∧ Q (.int i) H) ∨ ∃ k, xs = [.bl k] ∧ Q (.int (if k then 1 else 0)) H
def rLen (K : PySem.W.Frag) : List V → Hp → VK → Prop := fun xs H Q => ∃ p ys, xs = [.ref p] ∧ (SqL K H p ys ∨ SqT K H p ys) ∧ Q (.int ys.length) H
def rListOf (K : PySem.W.Frag) : List V → Hp → VK → Prop := fun xs H Q => ∃ p ys, xs = [.ref p] ∧ (SqL K H p ys ∨ SqT K H p ys) ∧ ∀ l, H l = none → Q (.ref l) (upd H l (.lst ys))
theorem c_max2 {X : Cx} (hc : X.calm = true) : CallR X (.builtin "max") rMax2 := call_max2 hc
theorem c_min2 {X : Cx} (hc : X.calm = true) : CallR X (.builtin "min") rMin2 := call_min2 hc
theorem c_int1 {X : Cx} : CallR X (.type "int") rInt1 := call_int1
theorem c_len {X : Cx} : CallR X (.builtin "len") (rLen X.K) := call_len_seq
theorem c_list {X : Cx} : CallR X (.type "list") (rListOf X.K) := call_list_of
theorem wc_max2 {m n : Int} (c : C (.int (max m n)) L) : Wp g L (rMax2 [.int m, .int n]) C :=
  .now (fun _ _ _ q => ⟨m, n, rfl, q⟩) (by rw [show (if n > m then n else m) = max m n from by rw [Int.max_def]; split <;> split <;> omega]; exact c)
theorem wc_min2 {m n : Int} (c : C (.int (min m n)) L) : Wp g L (rMin2 [.int m, .int n]) C :=
  .now (fun _ _ _ q => ⟨m, n, rfl, q⟩) (by rw [show (if n < m then n else m) = min m n from by rw [Int.min_def]; split <;> split <;> omega]; exact c)
theorem wc_intB {b : Bool} (c : C (.int (if b then 1 else 0)) L) : Wp g L (rInt1 [.bl b]) C := .now (fun _ _ _ q => .inr ⟨b, rfl, q⟩) c
theorem wr_is_True {m : Bool} (c : C (.bl m) L) : Wp g L (rIsB (.bl m) (.bl true)) C := .now (fun _ _ _ q => ⟨m, true, rfl, rfl, by cases m <;> exact q⟩) c
theorem wr_is_False {m : Bool} (c : C (.bl (!m)) L) : Wp g L (rIsB (.bl m) (.bl false)) C := .now (fun _ _ _ q => ⟨m, false, rfl, rfl, by cases m <;> exact q⟩) c
theorem wr_isnot_True {m : Bool} (c : C (.bl (!m)) L) : Wp g L (rNotB (.bl m) (.bl true)) C := .now (fun _ _ _ q => ⟨m, true, rfl, rfl, by cases m <;> exact q⟩) c
theorem wr_isnot_False {m : Bool} (c : C (.bl m) L) : Wp g L (rNotB (.bl m) (.bl false)) C := .now (fun _ _ _ q => ⟨m, false, rfl, rfl, by cases m <;> exact q⟩) c
/-- a list or tuple that is known to be there -/
structure Seen (K : PySem.W.Frag) (g : Gr) (L : Led) (a : Addr) (xs : List V) : Prop where
  at_ : ∀ H, At g L H → SqL K H a xs
structure SeenT (K : PySem.W.Frag) (g : Gr) (L : Led) (a : Addr) (xs : List V) : Prop where
  at_ : ∀ H, At g L H → SqT K H a xs
theorem seen {K : PySem.W.Frag} {a : Addr} {xs : List V} {bo : Bool} (i : Nat) (h : L[i]? = some (a, .ob (.lst xs), bo)) : Seen K g L a xs := ⟨fun H z => SqL.of (z.get h)⟩
theorem seenT {K : PySem.W.Frag} {a : Addr} {xs : List V} {bo : Bool} (i : Nat) (h : L[i]? = some (a, .ob (.tup xs), bo)) : SeenT K g L a xs := ⟨fun H z => SqT.of (z.get h)⟩
/-- what stood at the entry and is not changed -/
theorem seen0 {K : PySem.W.Frag} {a : Addr} {xs : List V} (h : SqL K g.H0 a xs) (hm : ¬ g.mu a) : Seen K g L a xs := ⟨fun H z => by
  rcases h with (h | ⟨o, h⟩) | h
  · exact .inl (.inl (z.old _ _ h hm))
  · exact .inl (.inr ⟨o, z.old _ _ h hm⟩)
  · exact .inr h⟩
section
variable {K : PySem.W.Frag} {a : Addr} {xs : List V}
theorem wc_len (s : Seen K g L a xs) (c : C (.int (xs.length : Int)) L) : Wp g L (rLen K [.ref a]) C := .now (fun H _ z q => ⟨a, xs, rfl, .inl (s.at_ H z), q⟩) c
theorem wc_lenT (s : SeenT K g L a xs) (c : C (.int (xs.length : Int)) L) : Wp g L (rLen K [.ref a]) C := .now (fun H _ z q => ⟨a, xs, rfl, .inr (s.at_ H z), q⟩) c
theorem wc_list (s : Seen K g L a xs) (c : ∀ p, C (.ref p) (L ++ [(p, .ob (.lst xs), true)])) : Wp g L (rListOf K [.ref a]) C :=
  fun H z Q q => ⟨a, xs, rfl, .inl (s.at_ H z), fun p hp => q _ _ _ (c p) (z.upd_new hp)⟩
theorem wr_ixL {k : Int} (s : Seen K g L a xs) (h : atI xs k = some v) (c : C v L) : Wp g L (rIxL K (.ref a) (.int k)) C := .now (fun H _ z q => ⟨a, xs, k, v, rfl, rfl, s.at_ H z, h, q⟩) c
theorem wr_ixT {k : Int} (s : SeenT K g L a xs) (h : atI xs k = some v) (c : C v L) : Wp g L (rIxT K (.ref a) (.int k)) C := .now (fun H _ z q => ⟨a, xs, k, v, rfl, rfl, s.at_ H z, h, q⟩) c
theorem wr_in {neg : Bool} (s : Seen K g L a xs) (hx : flatV x = true) (hf : xs.all flatV = true) (c : C (.bl (if neg then !inV x xs else inV x xs)) L) : Wp g L (rIn K neg x (.ref a)) C :=
  .now (fun H _ z q => ⟨a, xs, rfl, .inl (s.at_ H z), hx, hf, q⟩) c
theorem inV_ints {m : Int} : ∀ {xs : List Int}, inV (.int m) (xs.map V.int) = decide (m ∈ xs)
  | [] => by simp [inV]
  | x :: r => by
    have ih := inV_ints (m := m) (xs := r)
    unfold inV at *
    rw [List.map_cons, List.any_cons, ih]
    by_cases e : m = x
    · subst e
      simp [eqV]
    · have : (x == m) = false := by simp; omega
      simp [eqV, e]
      omega
theorem flat_ints {xs : List Int} : (xs.map V.int).all flatV = true := by
  rw [List.all_eq_true]
  intro v hv
  obtain ⟨n, _, rfl⟩ := List.mem_map.mp hv
  rfl
theorem wr_inI {m : Int} {ns : List Int} (s : Seen K g L a (ns.map V.int)) (c : C (.bl (decide (m ∈ ns))) L) : Wp g L (rIn K false (.int m) (.ref a)) C :=
  wr_in s rfl flat_ints (by rw [inV_ints]; exact c)
theorem wr_notinI {m : Int} {ns : List Int} (s : Seen K g L a (ns.map V.int)) (c : C (.bl (!decide (m ∈ ns))) L) : Wp g L (rIn K true (.int m) (.ref a)) C :=
  wr_in s rfl flat_ints (by rw [inV_ints]; exact c)
theorem wr_cat {a2 : Addr} {ys : List V} {b1 b2 : Bool} (i j : Nat) (h1 : L[i]? = some (a, .ob (.lst xs), b1)) (h2 : L[j]? = some (a2, .ob (.lst ys), b2)) (hl : xs.length + ys.length ≤ 100000)
    (c : ∀ p, C (.ref p) (L ++ [(p, .ob (.lst (xs ++ ys)), true)])) : Wp g L (rCat (.ref a) (.ref a2)) C :=
  fun H z Q q => ⟨a, a2, xs, ys, rfl, rfl, z.get h1, z.get h2, Nat.le_trans hl (by decide), fun p hp => q _ _ _ (c p) (z.upd_new hp)⟩
-- slices
variable {O : Option Int → Led → Prop} {tl th : TO}
theorem wo_none (h : O none L) : Wp g L (tNoPart σ) O := .now (fun _ _ _ q => q) h
theorem wo_some (h : Wp g L (te σ) fun v L1 => ∃ k, v = .int k ∧ O (some k) L1) : Wp g L (tPart te σ) O := fun H z Q q => h H z _ fun v L1 H1 ⟨k, e, c⟩ z1 => ⟨k, e, q _ L1 H1 c z1⟩
theorem wp_sl {r : V → Option Int → Option Int → Hp → VK → Prop} (h : Wp g L (te σ) fun x L1 => Wp g L1 (tl σ) fun l L2 => Wp g L2 (th σ) fun u L3 => Wp g L3 (r x l u) C) : Wp g L (tSl r te tl th σ) C :=
  fun H z Q q => h H z _ fun x L1 H1 h1 z1 => h1 H1 z1 _ fun l L2 H2 h2 z2 => h2 H2 z2 _ fun u L3 H3 h3 z3 => h3 H3 z3 Q q
theorem wr_slL {lo hi : Option Int} (s : Seen K g L a xs) (c : ∀ p, C (.ref p) (L ++ [(p, .ob (.lst (cutV xs lo hi)), true)])) : Wp g L (rSlL K (.ref a) lo hi) C :=
  fun H z Q q => ⟨a, xs, rfl, s.at_ H z, fun p hp => q _ _ _ (c p) (z.upd_new hp)⟩
/-- a built-in type's method -/
theorem wp_bm {T : String} {r : V → List V → Hp → VK → Prop} (h : Wp g L (te σ) fun x L1 => (∀ H, At g L1 H → tyV K T x H) ∧ Wp g L1 (tr σ) fun vs L2 => Wp g L2 (r x vs) C) : Wp g L (tBM K T r te tr σ) C :=
  fun H z Q q => h H z _ fun x L1 H1 ⟨k, h1⟩ z1 => ⟨k H1 z1, h1 H1 z1 _ fun vs L2 H2 h2 z2 => h2 H2 z2 Q q⟩
theorem ty_list {bo : Bool} (i : Nat) (h : L[i]? = some (a, .ob (.lst xs), bo)) : ∀ H, At g L H → tyV K "list" (.ref a) H := fun H z => .inl ⟨rfl, _, SqL.of (z.get h)⟩
theorem wr_app {e : Ent} (i : Nat) (h : L[i]? = some (a, .ob (.lst xs), true)) (hl : xs.length < 100000) (c : C .non (L.set i (a, .ob (.lst (xs ++ [x])), true))) : Wp g L (rAppend (.ref a) [x]) C :=
  fun H z Q q => ⟨a, xs, x, rfl, rfl, z.get h, Nat.lt_of_lt_of_le hl (by decide), q _ _ _ c (z.upd_chg h)⟩
end

/-! ### statements -/
variable {K : Ks} {t1 t2 : TS} {cT : TT}
theorem ws_seq (h : Ws g L t1 σ { K with nx := fun σ' L' => Ws g L' t2 σ' K }) : Ws g L (tSeq t1 t2) σ K :=
  fun H z D e => h H z { D with nx := t2 D } ⟨fun σ' L' H' k z' => k H' z' D e, e.rt, e.bk, e.ct⟩
theorem ws_eq {σ' : St} (e : σ = σ') (h : Ws g L t1 σ' K) : Ws g L t1 σ K := e ▸ h
theorem ws_nf {σ' : St} {L' : Led} (e : σ = σ') (e2 : L = L') (h : Ws g L' t1 σ' K) : Ws g L t1 σ K := e ▸ e2 ▸ h
theorem ws_next (h : K.nx σ L) : Ws g L tNext σ K := fun H z D e => e.nx _ _ _ h z
theorem ws_brk (h : K.bk σ L) : Ws g L tBreak σ K := fun H z D e => e.bk _ _ _ h z
theorem ws_cont (h : K.ct σ L) : Ws g L tCont σ K := fun H z D e => e.ct _ _ _ h z
theorem ws_drop (h : Wp g L (te σ) fun _ L1 => K.nx σ L1) : Ws g L (tDrop te) σ K := fun H z D e => h H z _ fun _ L1 H1 k z1 => e.nx _ _ _ k z1
theorem ws_ret (h : Wp g L (te σ) fun v L1 => K.rt v L1) : Ws g L (tRet te) σ K := fun H z D e => h H z _ fun v L1 H1 k z1 => e.rt _ _ _ k z1
theorem ws_retN (h : K.rt .non L) : Ws g L tRetN σ K := fun H z D e => e.rt _ _ _ h z
theorem ws_if (h : Wp g L (cT σ) fun b L1 => if b = true then Ws g L1 t1 σ K else Ws g L1 t2 σ K) : Ws g L (tIfS cT t1 t2) σ K :=
  fun H z D e => h H z _ fun b L1 H1 k z1 => by
    cases b with
    | true => exact (show Ws g L1 t1 σ K from k) H1 z1 D e
    | false => exact (show Ws g L1 t2 σ K from k) H1 z1 D e
theorem ws_never (h : False) : Ws g L tNever σ K := h.elim
/-- targets -/
def Wg (g : Gr) (L : Led) (t : TG) (v : V) (σ : St) (N : St → Led → Prop) : Prop := ∀ H, At g L H → ∀ Q : St → Hp → Prop, (∀ σ' L' H', N σ' L' → At g L' H' → Q σ' H') → t v σ H Q
def Wgs (g : Gr) (L : Led) (t : TGs) (vs : List V) (σ : St) (N : St → Led → Prop) : Prop := ∀ H, At g L H → ∀ Q : St → Hp → Prop, (∀ σ' L' H', N σ' L' → At g L' H' → Q σ' H') → t vs σ H Q
variable {N : St → Led → Prop}
theorem wg_name (h : N (σ.set i (some v)) L) : Wg g L (gName i) v σ N := fun H z Q q => q _ _ _ h z
theorem wgs_nil (h : N σ L) : Wgs g L gNil [] σ N := fun H z Q q => ⟨rfl, q _ _ _ h z⟩
theorem wgs_cons {tg : TG} {u : TGs} {vs : List V} (h : Wg g L tg v σ fun σ1 L1 => Wgs g L1 u vs σ1 N) : Wgs g L (gCons tg u) (v :: vs) σ N := fun H z Q q => ⟨v, vs, rfl, h H z _ fun σ1 L1 H1 k z1 => k H1 z1 Q q⟩
theorem wg_tup {Kf : PySem.W.Frag} {n : Nat} {u : TGs} {a : Addr} {xs : List V} (s : SeenT Kf g L a xs) (hn : xs.length = n) (h : Wgs g L u xs σ N) : Wg g L (gTup Kf n u) (.ref a) σ N := fun H z Q q => ⟨a, xs, rfl, s.at_ H z, hn, h H z Q q⟩
theorem ws_asg {tg : TG} (h : Wp g L (te σ) fun v L1 => Wg g L1 tg v σ K.nx) : Ws g L (tAsg te tg) σ K := fun H z D e => h H z _ fun v L1 H1 k z1 => k H1 z1 _ e.nx
theorem ws_set (h : Wp g L (te σ) fun v L1 => K.nx (σ.set i (some v)) L1) : Ws g L (tAsg te (gName i)) σ K := ws_asg (h.mono fun _ _ k => wg_name k)
theorem ws_par (h : Wp g L (tr σ) fun vs L1 => ∃ v w, vs = [v, w] ∧ K.nx ((σ.set i (some v)).set j (some w)) L1) : Ws g L (tPar i j tr) σ K :=
  fun H z D e => h H z _ fun vs L1 H1 ⟨v, w, e1, k⟩ z1 => ⟨v, w, e1, e.nx _ _ _ k z1⟩
theorem wg_sub {to ti : TE} {r : TSet} (h : Wp g L (to σ) fun o L1 => Wp g L1 (ti σ) fun k L2 => Wp g L2 (fun H (Q : Unit → Hp → Prop) => r o k v H (Q ())) fun _ L3 => N σ L3) : Wg g L (gSub to ti r) v σ N :=
  fun H z Q q => h H z _ fun o L1 H1 h1 z1 => h1 H1 z1 _ fun k L2 H2 h2 z2 => h2 H2 z2 (fun _ H3 => Q σ H3) fun _ L3 H3 n z3 => q _ _ _ n z3
theorem wr_setL {a : Addr} {xs : List V} {k : Int} {jj : Nat} {U : Unit → Led → Prop} (i : Nat) (h : L[i]? = some (a, .ob (.lst xs), true)) (hj : ixN xs.length k = some jj) (c : U () (L.set i (a, .ob (.lst (xs.set jj v)), true))) :
    Wp g L (fun H (Q : Unit → Hp → Prop) => rSetL (.ref a) (.int k) v H (Q ())) U := fun H z Q q => ⟨a, xs, k, jj, rfl, rfl, z.get h, hj, q () _ _ c (z.upd_chg h)⟩
/-- field stores -/
theorem ws_fld {Kf : PySem.W.Frag} {tv : TE} {C' : Addr} {f : Str} (i : Nat) (hc : Cls Kf C') (hn : NoAttr Kf C' f)
    (h : Wp g L (tv σ) fun y L1 => Wp g L1 (ta σ) fun x L2 => ∃ (a dx : Addr) (fs : List (Str × V)), x = .ref a ∧ L2[i]? = some (a, .ob (.ins C' dx fs), true) ∧ fs.length < 1000 ∧ K.nx σ (L2.set i (a, .ob (.ins C' dx (putF f y fs)), true))) : Ws g L (sFld Kf ta tv f) σ K :=
  fun H z D e => h H z _ fun y L1 H1 h1 z1 => h1 H1 z1 _ fun x L2 H2 ⟨a, dx, fs, e1, k, hl, n⟩ z2 => ⟨a, C', dx, fs, e1, z2.get k, hc, hn, hl, e.nx _ _ _ n (z2.upd_chg k)⟩
/-- while: a word I, a measure μ -/
theorem ws_while (I : St → Led → Prop) (μ : St → Nat) (h0 : I σ L)
    (hs : ∀ σ L, I σ L → Wp g L (cT σ) fun b L1 => if b = true then Ws g L1 t1 σ { K with nx := fun σ' L' => μ σ' < μ σ ∧ ∃ L2, L2 <+: L' ∧ I σ' L2, ct := fun σ' L' => μ σ' < μ σ ∧ ∃ L2, L2 <+: L' ∧ I σ' L2, bk := K.nx } else K.nx σ L1) :
    Ws g L (tWhile cT t1) σ K := fun H z D e => by
  refine ⟨fun m σ H => m = μ σ ∧ ∃ L, I σ L ∧ At g L H, ⟨_, rfl, L, h0, z⟩, ?_⟩
  rintro m σ H ⟨rfl, L, hI, z⟩
  refine hs σ L hI H z _ fun b L1 H1 k z1 => ?_
  cases b with
  | true =>
    have k : Ws g L1 t1 σ _ := k
    have kk : ∀ σ' L' H', (μ σ' < μ σ ∧ ∃ L2, L2 <+: L' ∧ I σ' L2) → At g L' H' → μ σ' < μ σ ∧ ∃ L, I σ' L ∧ At g L H' := fun σ' L' H' ⟨hm, L2, hp, hi⟩ z' => ⟨hm, L2, hi, z'.pre hp⟩
    exact ⟨fun σ' H' => μ σ' < μ σ ∧ ∃ L, I σ' L ∧ At g L H', fun σ' H' ⟨hm, q⟩ => ⟨_, hm, rfl, q⟩, k H1 z1 { D with nx := fun σ' H' => μ σ' < μ σ ∧ ∃ L, I σ' L ∧ At g L H', ct := fun σ' H' => μ σ' < μ σ ∧ ∃ L, I σ' L ∧ At g L H', bk := D.nx } ⟨kk, e.rt, e.nx, kk⟩⟩
  | false => exact e.nx _ _ _ k z1
/-- while: a word with its measure -/
theorem ws_whileN (I : Nat → St → Led → Prop) (h0 : ∃ m, I m σ L)
    (hs : ∀ m σ L, I m σ L → Wp g L (cT σ) fun b L1 => if b = true then Ws g L1 t1 σ { K with nx := fun σ' L' => ∃ m' L2, m' < m ∧ I m' σ' L2 ∧ L2 <+: L', ct := fun σ' L' => ∃ m' L2, m' < m ∧ I m' σ' L2 ∧ L2 <+: L', bk := K.nx } else K.nx σ L1) :
    Ws g L (tWhile cT t1) σ K := fun H z D e => by
  obtain ⟨m, h0⟩ := h0
  refine ⟨fun m σ H => ∃ L, I m σ L ∧ At g L H, ⟨m, L, h0, z⟩, ?_⟩
  rintro m σ H ⟨L, hI, z⟩
  refine hs m σ L hI H z _ fun b L1 H1 k z1 => ?_
  cases b with
  | true =>
    have k : Ws g L1 t1 σ _ := k
    have kk : ∀ σ' L' H', (∃ m' L2, m' < m ∧ I m' σ' L2 ∧ L2 <+: L') → At g L' H' → ∃ m', m' < m ∧ ∃ L, I m' σ' L ∧ At g L H' := fun σ' L' H' ⟨m', L2, hm, hi, hp⟩ z' => ⟨m', hm, L2, hi, z'.pre hp⟩
    exact ⟨fun σ' H' => ∃ m', m' < m ∧ ∃ L, I m' σ' L ∧ At g L H', fun σ' H' q => q, k H1 z1 { D with nx := fun σ' H' => ∃ m', m' < m ∧ ∃ L, I m' σ' L ∧ At g L H', ct := fun σ' H' => ∃ m', m' < m ∧ ∃ L, I m' σ' L ∧ At g L H', bk := D.nx } ⟨kk, e.rt, e.nx, kk⟩⟩
  | false => exact e.nx _ _ _ k z1
/-- for over range(n), range(lo, hi) -/
def WFor (g : Gr) (L : Led) (J : It) (tg : TG) (tb : TS) (σ : St) (K : Ks) : Prop := ∀ H, At g L H → ∀ D, Eo g K D → ∃ W : Nat → Nat → St → Hp → Prop, (∃ m, W 0 m σ H) ∧ ∀ i m σ H, W i m σ H →
  (J.stop i H ∧ D.nx σ H) ∨ (J.go i H ∧ ∃ N : St → Hp → Prop, (∀ σ' H', N σ' H' → ∃ m', m' < m ∧ W (i + 1) m' σ' H') ∧ ∀ x H', J.yld i H x H' → tg x σ H' fun σ2 H2 => tb { D with nx := N, ct := N, bk := D.nx } σ2 H2)
theorem ws_for {wi : TI} {tg : TG} {tb : TS} (h : Wp g L (wi σ) fun J L1 => WFor g L1 J tg tb σ K) : Ws g L (tFor wi tg tb) σ K := fun H z D e => h H z _ fun J L1 H1 k z1 => k H1 z1 D e
variable {T : It → Led → Prop}
theorem wi_list {Kf : PySem.W.Frag} {tl : TE} (h : Wp g L (tl σ) fun x L1 => ∃ (a : Addr) (xs : List V), x = .ref a ∧ Seen Kf g L1 a xs ∧ T (Itl Kf a) L1) : Wp g L (iList Kf tl σ) T :=
  fun H z Q q => h H z _ fun x L1 H1 ⟨a, xs, e, s, k⟩ z1 => ⟨a, e, ⟨xs, s.at_ H1 z1⟩, q _ _ _ k z1⟩
theorem wi_rng1 (h : Wp g L (tr σ) fun vs L1 => ∃ n : Int, vs = [.int n] ∧ -1000000 ≤ n ∧ n ≤ 1000000 ∧ T (Itr 0 n.toNat) L1) : Wp g L (iRng1 tr σ) T :=
  fun H z Q q => h H z _ fun vs L1 H1 ⟨n, e, h0, h1, k⟩ z1 => ⟨n, e, by omega, by omega, q _ _ _ k z1⟩
theorem wi_rngW1 (h : Wp g L (tr σ) fun vs L1 => ∃ n : Int, vs = [.int n] ∧ T (Itr 0 n.toNat) L1) : Wp g L (iRngW1 tr σ) T :=
  fun H z Q q => h H z _ fun vs L1 H1 ⟨n, e, k⟩ z1 => ⟨n, e, q _ _ _ k z1⟩
theorem wi_rngW2 (h : Wp g L (tr σ) fun vs L1 => ∃ m n : Int, vs = [.int m, .int n] ∧ T (Itr m (n - m).toNat) L1) : Wp g L (iRngW tr σ) T :=
  fun H z Q q => h H z _ fun vs L1 H1 ⟨m, n, e, k⟩ z1 => ⟨m, n, e, q _ _ _ k z1⟩
theorem wi_rng2 (h : Wp g L (tr σ) fun vs L1 => ∃ m n : Int, vs = [.int m, .int n] ∧ (-(2 ^ 62) ≤ m ∧ m < 2 ^ 62 ∧ -(2 ^ 62) ≤ n ∧ n < 2 ^ 62) ∧ T (Itr m (n - m).toNat) L1) : Wp g L (iRng2 tr σ) T :=
  fun H z Q q => h H z _ fun vs L1 H1 ⟨m, n, e, hb, k⟩ z1 => ⟨m, n, e, hb, q _ _ _ k z1⟩
/-- the turns of a for over a list that stands still -/
theorem wf_list {Kf : PySem.W.Frag} {a : Addr} {xs : List V} {tg : TG} {tb : TS} (s0 : Seen Kf g L a xs) (I : Nat → St → Led → Prop) (h0 : I 0 σ L) (hl : ∀ i σ L, i ≤ xs.length → I i σ L → Seen Kf g L a xs)
    (hs : ∀ i x σ L, xs[i]? = some x → I i σ L → Wg g L tg x σ fun σ2 L2 => Ws g L2 tb σ2 { K with nx := fun σ' L' => ∃ L3, I (i + 1) σ' L3 ∧ L3 <+: L', ct := fun σ' L' => ∃ L3, I (i + 1) σ' L3 ∧ L3 <+: L', bk := K.nx })
    (hd : ∀ σ L, I xs.length σ L → K.nx σ L) : WFor g L (Itl Kf a) tg tb σ K := fun H z D e => by
  refine for_list (K := Kf) (a := a) (xs := xs) (fun i σ H => ∃ L, I i σ L ∧ At g L H) ⟨L, h0, z⟩ (fun i σ H hi ⟨L, k, z⟩ => (hl i σ L hi k).at_ H z) ?_ fun σ H ⟨L, k, z⟩ => e.nx _ _ _ (hd σ L k) z
  rintro i x σ H hx ⟨L, k, z⟩
  refine hs i x σ L hx k H z _ fun σ2 L2 H2 k2 z2 => ?_
  have kk : ∀ σ' L' H', (∃ L3, I (i + 1) σ' L3 ∧ L3 <+: L') → At g L' H' → ∃ L, I (i + 1) σ' L ∧ At g L H' := fun σ' L' H' ⟨L3, hi, hp⟩ z' => ⟨L3, hi, z'.pre hp⟩
  exact k2 H2 z2 _ ⟨kk, e.rt, e.nx, kk⟩
theorem wf_rng {lo : Int} {n : Nat} {tg : TG} {tb : TS} (I : Nat → St → Led → Prop) (h0 : I 0 σ L)
    (hs : ∀ i σ L, i < n → I i σ L → Wg g L tg (.int (lo + i)) σ fun σ2 L2 => Ws g L2 tb σ2 { K with nx := fun σ' L' => ∃ L3, I (i + 1) σ' L3 ∧ L3 <+: L', ct := fun σ' L' => ∃ L3, I (i + 1) σ' L3 ∧ L3 <+: L', bk := K.nx })
    (hd : ∀ σ L, I n σ L → K.nx σ L) : WFor g L (Itr lo n) tg tb σ K := fun H z D e => by
  refine for_range (lo := lo) (n := n) (fun i σ H => ∃ L, I i σ L ∧ At g L H) ⟨L, h0, z⟩ ?_ fun σ H ⟨L, k, z⟩ => e.nx _ _ _ (hd σ L k) z
  rintro i σ H hx ⟨L, k, z⟩
  refine hs i σ L hx k H z _ fun σ2 L2 H2 k2 z2 => ?_
  have kk : ∀ σ' L' H', (∃ L3, I (i + 1) σ' L3 ∧ L3 <+: L') → At g L' H' → ∃ L, I (i + 1) σ' L ∧ At g L H' := fun σ' L' H' ⟨L3, hi, hp⟩ z' => ⟨L3, hi, z'.pre hp⟩
  exact k2 H2 z2 _ ⟨kk, e.rt, e.nx, kk⟩
end

/-! ### loops by the slots that they store; the ledger as at the start, a source's draws counted -/
def putA : St → List (Option (Option V)) → St
  | s :: σ, none :: ms => s :: putA σ ms
  | _ :: σ, some v :: ms => v :: putA σ ms
  | σ, _ => σ
section
variable {g : Gr} {L : Led} {σ : St} {K : Ks} {t1 : TS} {cT : TT} {tg : TG} {tb : TS}
theorem wf_rngS {lo : Int} {n : Nat} (I : Nat → List (Option (Option V)) → Prop) (h0 : ∃ vs, σ = putA σ vs ∧ I 0 vs)
    (hs : ∀ (i : Nat) (x : Int) vs, i < n → x = lo + i → I i vs → Wg g L tg (.int x) (putA σ vs) fun σ2 L2 => Ws g L2 tb σ2 { K with nx := fun σ' L' => ∃ vs', (σ' = putA σ vs' ∧ I (i + 1) vs') ∧ L <+: L', ct := fun σ' L' => ∃ vs', (σ' = putA σ vs' ∧ I (i + 1) vs') ∧ L <+: L', bk := K.nx })
    (hd : ∀ vs, I n vs → K.nx (putA σ vs) L) : WFor g L (Itr lo n) tg tb σ K := by
  refine wf_rng (fun i σ' L' => ∃ vs, (σ' = putA σ vs ∧ I i vs) ∧ L' = L) (by obtain ⟨vs, h1, h2⟩ := h0; exact ⟨vs, ⟨h1, h2⟩, rfl⟩) ?_ ?_
  · rintro i σ' L' hi ⟨vs, ⟨rfl, k⟩, rfl⟩
    intro H z Q q
    refine hs i _ vs hi rfl k H z Q fun σ2 L2 H2 k2 z2 => q σ2 L2 H2 ?_ z2
    intro H3 z3 D e
    have kk : ∀ σ' L'' H', (∃ vs', (σ' = putA σ vs' ∧ I (i + 1) vs') ∧ L' <+: L'') → At g L'' H' → D.nx σ' H' := fun σ' L'' H' ⟨vs', h1, h2⟩ z' => e.nx σ' L'' H' ⟨L', ⟨vs', h1, rfl⟩, h2⟩ z'
    have kc : ∀ σ' L'' H', (∃ vs', (σ' = putA σ vs' ∧ I (i + 1) vs') ∧ L' <+: L'') → At g L'' H' → D.ct σ' H' := fun σ' L'' H' ⟨vs', h1, h2⟩ z' => e.ct σ' L'' H' ⟨L', ⟨vs', h1, rfl⟩, h2⟩ z'
    exact k2 H3 z3 D ⟨kk, e.rt, e.bk, kc⟩
  · rintro σ' L' ⟨vs, ⟨rfl, k⟩, rfl⟩
    exact hd vs k
theorem wf_listS {Kf : PySem.W.Frag} {a : Addr} {xs : List V} (s0 : Seen Kf g L a xs) (I : Nat → List (Option (Option V)) → Prop) (h0 : ∃ vs, σ = putA σ vs ∧ I 0 vs)
    (hs : ∀ i x vs, xs[i]? = some x → I i vs → Wg g L tg x (putA σ vs) fun σ2 L2 => Ws g L2 tb σ2 { K with nx := fun σ' L' => ∃ vs', (σ' = putA σ vs' ∧ I (i + 1) vs') ∧ L <+: L', ct := fun σ' L' => ∃ vs', (σ' = putA σ vs' ∧ I (i + 1) vs') ∧ L <+: L', bk := K.nx })
    (hd : ∀ vs, I xs.length vs → K.nx (putA σ vs) L) : WFor g L (Itl Kf a) tg tb σ K := by
  refine wf_list s0 (fun i σ' L' => ∃ vs, (σ' = putA σ vs ∧ I i vs) ∧ L' = L) (by obtain ⟨vs, h1, h2⟩ := h0; exact ⟨vs, ⟨h1, h2⟩, rfl⟩) (fun i σ' L' _ ⟨vs, _, e⟩ => e ▸ s0) ?_ ?_
  · rintro i x σ' L' hi ⟨vs, ⟨rfl, k⟩, rfl⟩
    intro H z Q q
    refine hs i x vs hi k H z Q fun σ2 L2 H2 k2 z2 => q σ2 L2 H2 ?_ z2
    intro H3 z3 D e
    have kk : ∀ σ' L'' H', (∃ vs', (σ' = putA σ vs' ∧ I (i + 1) vs') ∧ L' <+: L'') → At g L'' H' → D.nx σ' H' := fun σ' L'' H' ⟨vs', h1, h2⟩ z' => e.nx σ' L'' H' ⟨L', ⟨vs', h1, rfl⟩, h2⟩ z'
    have kc : ∀ σ' L'' H', (∃ vs', (σ' = putA σ vs' ∧ I (i + 1) vs') ∧ L' <+: L'') → At g L'' H' → D.ct σ' H' := fun σ' L'' H' ⟨vs', h1, h2⟩ z' => e.ct σ' L'' H' ⟨L', ⟨vs', h1, rfl⟩, h2⟩ z'
    exact k2 H3 z3 D ⟨kk, e.rt, e.bk, kc⟩
  · rintro σ' L' ⟨vs, ⟨rfl, k⟩, rfl⟩
    exact hd vs k
theorem ws_whileS (I : Nat → List (Option (Option V)) → Prop) (h0 : ∃ m vs, σ = putA σ vs ∧ I m vs)
    (hs : ∀ m vs, I m vs → Wp g L (cT (putA σ vs)) fun b L1 => if b = true then Ws g L1 t1 (putA σ vs) { K with nx := fun σ' L' => ∃ m' vs', m' < m ∧ (σ' = putA σ vs' ∧ I m' vs') ∧ L <+: L', ct := fun σ' L' => ∃ m' vs', m' < m ∧ (σ' = putA σ vs' ∧ I m' vs') ∧ L <+: L', bk := K.nx } else K.nx (putA σ vs) L1) :
    Ws g L (tWhile cT t1) σ K := by
  obtain ⟨m0, vs0, h1, h2⟩ := h0
  refine ws_whileN (fun m σ' L' => ∃ vs, (σ' = putA σ vs ∧ I m vs) ∧ L' = L) ⟨m0, vs0, ⟨h1, h2⟩, rfl⟩ ?_
  rintro m σ' L' ⟨vs, ⟨rfl, k⟩, rfl⟩
  refine (hs m vs k).mono fun b L1 q => ?_
  cases b with
  | true =>
    have q : Ws g L1 t1 _ _ := q
    show Ws g L1 t1 _ _
    intro H3 z3 D e
    have kk : ∀ σ' L'' H', (∃ m' vs', m' < m ∧ (σ' = putA σ vs' ∧ I m' vs') ∧ L' <+: L'') → At g L'' H' → D.nx σ' H' := fun σ' L'' H' ⟨m', vs', h0, h1, h2⟩ z' => e.nx σ' L'' H' ⟨m', L', h0, ⟨vs', h1, rfl⟩, h2⟩ z'
    have kc : ∀ σ' L'' H', (∃ m' vs', m' < m ∧ (σ' = putA σ vs' ∧ I m' vs') ∧ L' <+: L'') → At g L'' H' → D.ct σ' H' := fun σ' L'' H' ⟨m', vs', h0, h1, h2⟩ z' => e.ct σ' L'' H' ⟨m', L', h0, ⟨vs', h1, rfl⟩, h2⟩ z'
    exact q H3 z3 D ⟨kk, e.rt, e.bk, kc⟩
  | false => exact q
end
/-! ### small words for tests -/
theorem ifB {b : Bool} {A B : Prop} (h1 : b = true → A) (h2 : b = false → B) : if b = true then A else B := by
  cases b with
  | true => exact h1 rfl
  | false => exact (show B from h2 rfl)
theorem ifD {c : Prop} [Decidable c] {A B : Prop} (h1 : c → A) (h2 : ¬ c → B) : if decide c = true then A else B := by
  by_cases h : c
  · rw [decide_eq_true h]
    exact h1 h
  · rw [decide_eq_false h]
    exact (show B from h2 h)
theorem ifN {c : Prop} [Decidable c] {A B : Prop} (h1 : ¬ c → A) (h2 : c → B) : if (!decide c) = true then A else B := by
  by_cases h : c
  · rw [decide_eq_true h]
    exact (show B from h2 h)
  · rw [decide_eq_false h]
    exact (show A from h1 h)
theorem ifT {b : Bool} {A B : Prop} (e : b = true) (h : A) : if b = true then A else B := by
  rw [if_pos e]
  exact h
theorem ifF {b : Bool} {A B : Prop} (e : b = false) (h : B) : if b = true then A else B := by
  rw [e]
  exact (show B from h)
section
variable {g : Gr} {L : Led} {σ : St} {B : Bool → Led → Prop} {t u : TT} {C : V → Led → Prop} {ta tb : TE} 
theorem andK {P Q : Bool → Prop} {b2 : Bool} (h1 : P b2) (h2 : Q b2) : ∃ b2, P b2 ∧ Q b2 := ⟨b2, h1, h2⟩
/-- and, or whose second part is known -/
theorem wt_andP (h : Wp g L (t σ) fun b L1 => ∃ b2, (b = true → Wp g L1 (u σ) fun c L2 => c = b2 ∧ L2 = L1) ∧ B (b && b2) L1) : Wp g L (tAnd t u σ) B := wt_and (h.mono fun b L1 ⟨b2, k⟩ => by
  cases b with
  | true =>
    refine (k.1 rfl).mono fun c L2 z => ?_
    rw [z.1, z.2]
    exact k.2
  | false => exact k.2)
theorem wt_orP (h : Wp g L (t σ) fun b L1 => ∃ b2, (b = false → Wp g L1 (u σ) fun c L2 => c = b2 ∧ L2 = L1) ∧ B (b || b2) L1) : Wp g L (tOr t u σ) B := wt_or (h.mono fun b L1 ⟨b2, k⟩ => by
  cases b with
  | true => exact k.2
  | false =>
    refine (k.1 rfl).mono fun c L2 z => ?_
    rw [z.1, z.2]
    exact k.2)
theorem wp_andVP (h : Wp g L (ta σ) fun x L1 => ∃ b, x = .bl b ∧ ∃ b2, (b = true → Wp g L1 (tb σ) fun c L2 => c = .bl b2 ∧ L2 = L1) ∧ C (.bl (b && b2)) L1) : Wp g L (tAndV ta tb σ) C := wp_andV (h.mono fun x L1 ⟨b, e, b2, k⟩ => ⟨b, e, by
  cases b with
  | true =>
    refine (k.1 rfl).mono fun c L2 z => ?_
    rw [z.1, z.2]
    exact k.2
  | false => exact k.2⟩)
theorem wp_orVP (h : Wp g L (ta σ) fun x L1 => ∃ b, x = .bl b ∧ ∃ b2, (b = false → Wp g L1 (tb σ) fun c L2 => c = .bl b2 ∧ L2 = L1) ∧ C (.bl (b || b2)) L1) : Wp g L (tOrV ta tb σ) C := wp_orV (h.mono fun x L1 ⟨b, e, b2, k⟩ => ⟨b, e, by
  cases b with
  | true => exact k.2
  | false =>
    refine (k.1 rfl).mono fun c L2 z => ?_
    rw [z.1, z.2]
    exact k.2⟩)
theorem wp_chainP {r r' : R2} {tc : TE} (h : Wp g L (ta σ) fun x L1 => Wp g L1 (tb σ) fun y L2 => Wp g L2 (r x y) fun z L3 => ∃ b, z = .bl b ∧ ∃ b2, (b = true → Wp g L3 (tc σ) fun w L4 => Wp g L4 (r' y w) fun c L5 => c = .bl b2 ∧ L5 = L3) ∧ C (.bl (b && b2)) L3) : Wp g L (tChain r r' ta tb tc σ) C :=
  wp_chain (h.mono fun x L1 k1 => k1.mono fun y L2 k2 => k2.mono fun z L3 ⟨b, e, b2, k⟩ => ⟨b, e, by
    cases b with
    | true =>
      refine (k.1 rfl).mono fun w L4 k4 => k4.mono fun c L5 z => ?_
      rw [z.1, z.2]
      exact k.2
    | false => exact k.2⟩)
end

/-! ### defs of the top, methods, classes -/
structure TopFn (K : PySem.W.Frag) (mg : Str → Option Value) (x : Str) (st : Stmt) : Prop where
  ex : ∃ f fd, mg x = some (.ref f) ∧ Fun K x x st f fd
structure MethFn (K : PySem.W.Frag) (C : Addr) (m qual : Str) (st : Stmt) : Prop where
  ex : ∃ f fd, Meth K C m f ∧ Fun K m qual st f fd
structure InitFn (K : PySem.W.Frag) (mg : Str → Option Value) (x : Str) (C : Addr) (qual : Str) (st : Stmt) : Prop where
  mg : mg x = some (.ref C)
  ex : ∃ f fd, Mk K C f ∧ Fun K "__init__" qual st f fd
structure Ok (P : Program) (w : World) (K : PySem.W.Frag) (mg : Str → Option Value) (base : Heap) (k : Nat) (x : Str) (st : Stmt) (ps : List Str) (sp : Sp) : Prop where
  ex : ∃ f fd, mg x = some (.ref f) ∧ Fun K x x st f fd ∧ Binds K fd ps [] ∧ FnOk P w K mg base CX0 k f fd ps sp
structure OkM (P : Program) (w : World) (K : PySem.W.Frag) (mg : Str → Option Value) (base : Heap) (C : Addr) (k : Nat) (m qual : Str) (st : Stmt) (ps : List Str) (sp : Sp) : Prop where
  ex : ∃ f fd, Meth K C m f ∧ Fun K m qual st f fd ∧ Binds K fd ps [] ∧ FnOk P w K mg base CX0 k f fd ps sp
structure OkC (P : Program) (w : World) (K : PySem.W.Frag) (mg : Str → Option Value) (base : Heap) (x : Str) (C : Addr) (k : Nat) (qual : Str) (st : Stmt) (ps : List Str) (sp : Sp) : Prop where
  ex : ∃ f fd, mg x = some (.ref C) ∧ Mk K C f ∧ Fun K "__init__" qual st f fd ∧ Binds K fd ps [] ∧ FnOk P w K mg base CX0 k f fd ps sp
section
variable {P : Program} {w : World} {K : PySem.W.Frag} {mg : Str → Option Value} {base : Heap}
abbrev BodyOk (P : Program) (w : World) (K : PySem.W.Frag) (mg : Str → Option Value) (base : Heap) (qual : Str) (st : Stmt) (N : List Str) (k : Nat) (sp : Sp) : Prop :=
  ∀ (f : Addr) (cdv : Value) (A : Around) (outer : List Env) (s : Shared) (H : Hp) (vs : List V) (Q : VK) (E : XK), Room k (A.deeper (PyProof.Rows.envOfC qual (defScope st) s.heap.objs.size f cdv)) → sp vs H Q E →
      ∃ t, PSs (cxOf CX0 P w K mg base N qual (defScope st) f cdv A outer s H E).nox (defBody st) t ∧ t { nx := fun _ H' => Q .non H', rt := Q } (start N vs) H
theorem Ok.of {x : Str} {st : Stmt} {N ps : List Str} {k : Nat} {sp : Sp} (T : TopFn K mg x st) (S : FnScope N ps (defScope st))
    (hb : ∀ (kV doc pm : Value) (an : Option Addr) (cdv ct : Value) (us : List Value), us.length = ps.length → bindArgs (PySem.W.fnOf x x (defArgs st) (defBody st) (defScope st) .none kV doc pm an cdv ct) ⟨us, []⟩ = pure (ps.zip us))
    (len : ∀ vs H Q E, sp vs H Q E → vs.length = ps.length) (body : BodyOk P w K mg base x st N k sp) : Ok P w K mg base (k + 1) x st ps sp := by
  obtain ⟨f, fd, h1, F⟩ := T.ex
  exact ⟨f, fd, h1, F, F.binds hb, F.ok S len (body f)⟩
theorem OkM.of {C : Addr} {m qual : Str} {st : Stmt} {N ps : List Str} {k : Nat} {sp : Sp} (T : MethFn K C m qual st) (S : FnScope N ps (defScope st))
    (hb : ∀ (kV doc pm : Value) (an : Option Addr) (cdv ct : Value) (us : List Value), us.length = ps.length → bindArgs (PySem.W.fnOf m qual (defArgs st) (defBody st) (defScope st) .none kV doc pm an cdv ct) ⟨us, []⟩ = pure (ps.zip us))
    (len : ∀ vs H Q E, sp vs H Q E → vs.length = ps.length) (body : BodyOk P w K mg base qual st N k sp) : OkM P w K mg base C (k + 1) m qual st ps sp := by
  obtain ⟨f, fd, h1, F⟩ := T.ex
  exact ⟨f, fd, h1, F, F.binds hb, F.ok S len (body f)⟩
theorem OkC.of {C : Addr} {x qual : Str} {st : Stmt} {N ps : List Str} {k : Nat} {sp : Sp} (T : InitFn K mg x C qual st) (S : FnScope N ps (defScope st))
    (hb : ∀ (kV doc pm : Value) (an : Option Addr) (cdv ct : Value) (us : List Value), us.length = ps.length → bindArgs (PySem.W.fnOf "__init__" qual (defArgs st) (defBody st) (defScope st) .none kV doc pm an cdv ct) ⟨us, []⟩ = pure (ps.zip us))
    (len : ∀ vs H Q E, sp vs H Q E → vs.length = ps.length) (body : BodyOk P w K mg base qual st N k sp) : OkC P w K mg base x C (k + 1) qual st ps sp := by
  obtain ⟨f, fd, h1, F⟩ := T.ex
  exact ⟨f, fd, T.mg, h1, F, F.binds hb, F.ok S len (body f)⟩
/-- what the top has written -/
theorem topFn_mk {h : Heap} {x : Str} {st : Stmt} {f : Addr} {oc : Value} {od an : Option Addr} {osl : Array (Option Value)} {kV doc pm cdv ct : Value} (X : K.In h) (G : h.Ns mainGlobals mg) (a : PySem.W.nsIn K mainGlobals x = some (some (.ref f)))
    (l : K.lookup f = some ⟨oc, od, .func (PySem.W.fnOf x x (defArgs st) (defBody st) (defScope st) .none kV doc pm an cdv ct), osl⟩) (c : PySem.W.codeIn K cdv x = true) (k : PySem.W.keepIn K (.ref f) = true) : TopFn K mg x st :=
  ⟨f, _, PySem.W.mg_of X G a, fun_mk l c k⟩
theorem methFn_mk {C : Addr} {m qual : Str} {st : Stmt} {f : Addr} {oc : Value} {od an : Option Addr} {osl : Array (Option Value)} {kV doc pm cdv ct : Value} (a : PySem.W.findIn K (.ref C) m = some (some (.ref f))) (i : PySem.W.isFn K (.ref f) = true)
    (l : K.lookup f = some ⟨oc, od, .func (PySem.W.fnOf m qual (defArgs st) (defBody st) (defScope st) .none kV doc pm an cdv ct), osl⟩) (c : PySem.W.codeIn K cdv qual = true) (k : PySem.W.keepIn K (.ref f) = true) : MethFn K C m qual st :=
  ⟨f, _, ⟨a, i, k⟩, fun_mk l c k⟩
theorem initFn_mk {x : Str} {C : Addr} {qual : Str} {st : Stmt} {f : Addr} {oc : Value} {od an : Option Addr} {osl : Array (Option Value)} {kV doc pm cdv ct : Value} (hm : mg x = some (.ref C)) (mk : PySem.W.makesIn K C = true) (kc : PySem.W.keepIn K (.ref C) = true)
    (a : PySem.W.findIn K (.ref C) "__init__" = some (some (.ref f))) (i : PySem.W.isFn K (.ref f) = true)
    (l : K.lookup f = some ⟨oc, od, .func (PySem.W.fnOf "__init__" qual (defArgs st) (defBody st) (defScope st) .none kV doc pm an cdv ct), osl⟩) (c : PySem.W.codeIn K cdv qual = true) (k : PySem.W.keepIn K (.ref f) = true) : InitFn K mg x C qual st :=
  ⟨hm, f, _, ⟨mk, a, i, kc⟩, fun_mk l c k⟩
end
-- the rules of a derivation
section
variable {X : Cx} {k : Nat} {x m : Str} {ps : List Str} {sp : Sp} {p pos apos : Pos} {e o : Expr} {es : List Expr} {t : TA} {ta : TE} {C : Addr} {st : Stmt} {qual : Str}
theorem pe_own (O : Ok X.prog X.w X.K X.mg X.base k x st ps sp) (hr : Room k X.A) (hg : Gl X x) (ha : PA X (e :: es) t) (hdb : (x == ("__debug__" : Str)) = false := by decide) (he : starEach (e :: es) X.env = (false, eval e X.env) :: starEach es X.env := by rfl) (hpl : (backTo pos (starEach es X.env)).any (·.1) = false := by rfl) :
    PE X (.Call (.Name x p) (e :: es) [] pos) (tCall sp [] E0 t) := by
  obtain ⟨f, fd, h1, h2, h3, F⟩ := O.ex
  exact pe_call F hr hg h1 h2.kp h3 .nil pass0 ha hdb he hpl
theorem pe_own0 (O : Ok X.prog X.w X.K X.mg X.base k x st ps sp) (hr : Room k X.A) (hg : Gl X x) (hdb : (x == ("__debug__" : Str)) = false := by decide) : PE X (.Call (.Name x p) [] [] pos) (tCall sp [] E0 tNil) := by
  obtain ⟨f, fd, h1, h2, h3, F⟩ := O.ex
  exact pe_call0 F hr hg h1 h2.kp h3 .nil pass0 hdb
theorem pe_om {pl : Sem Bool} (c : Cls X.K C) (O : OkM X.prog X.w X.K X.mg X.base C k m qual st ps sp) (hr : Room k X.A) (ho : PE X o ta) (ha : PA X (e :: es) t)
    (hst : starEach (e :: es) X.env = (false, eval e X.env) :: starEach es X.env := by rfl) (hpl : (backTo pos (starEach es X.env)).any (·.1) = false := by rfl)
    (ht : eval (.Call (.Attribute o m apos) (e :: es) [] pos) X.env = (do
      let ov ← eval o X.env
      standAt apos.atName
      let (f, first) ← holding [ov] (getMethod ov m pl)
      callWith pos f first (backTo pos (starEach (e :: es) X.env)) (backToKw pos (keywordEach [] X.env))) := by rfl) :
    PE X (.Call (.Attribute o m apos) (e :: es) [] pos) (tMeth C m sp [] E0 ta t) := by
  obtain ⟨f, fd, h1, _, h3, F⟩ := O.ex
  exact pe_meth ho c h1 F hr h3 .nil pass0 ha hst hpl ht
theorem pe_om0 {pl : Sem Bool} (c : Cls X.K C) (O : OkM X.prog X.w X.K X.mg X.base C k m qual st ps sp) (hr : Room k X.A) (ho : PE X o ta)
    (ht : eval (.Call (.Attribute o m apos) [] [] pos) X.env = (do
      let ov ← eval o X.env
      standAt apos.atName
      let (f, first) ← holding [ov] (getMethod ov m pl)
      callWith pos f first (backTo pos (starEach [] X.env)) (backToKw pos (keywordEach [] X.env))) := by rfl) :
    PE X (.Call (.Attribute o m apos) [] [] pos) (tMeth C m sp [] E0 ta tNil) := by
  obtain ⟨f, fd, h1, _, h3, F⟩ := O.ex
  exact pe_meth0 ho c h1 F hr h3 .nil pass0 ht
theorem pe_oc (O : OkC X.prog X.w X.K X.mg X.base x C k qual st ps sp) (hr : Room (k + 1) X.A) (hg : Gl X x) (ha : PA X (e :: es) t) (hdb : (x == ("__debug__" : Str)) = false := by decide) (he : starEach (e :: es) X.env = (false, eval e X.env) :: starEach es X.env := by rfl) (hpl : (backTo pos (starEach es X.env)).any (·.1) = false := by rfl) :
    PE X (.Call (.Name x p) (e :: es) [] pos) (tMake C sp [] E0 t) := by
  obtain ⟨f, fd, h1, h2, _, h3, F⟩ := O.ex
  exact pe_make h2 F hr hg h1 h3 .nil pass0 ha hdb he hpl
/-! calls by keywords alone: perm tells for each parameter the place of its keyword -/
def pick {α : Type} (perm : List Nat) (ws : List α) : List α := perm.filterMap fun i => ws[i]?
theorem pick_vals {zs : List V} {ws : List Value} (r : Vals zs ws) : ∀ perm : List Nat, Vals (pick perm zs) (pick perm ws)
  | [] => .nil
  | i :: q => by
    have ih := pick_vals r q
    unfold pick at *
    rw [List.filterMap_cons, List.filterMap_cons]
    cases h : zs[i]? with
    | none =>
      rw [r.none_of h]
      exact ih
    | some x =>
      obtain ⟨u, h1, h2⟩ := r.get h
      rw [h1]
      exact .cons h2 ih
def tKw (sp : Sp) (perm : List Nat) (m : Nat) (E : XK) (tk : TA) : TE := fun σ H Q => tk σ H fun zs H1 => zs.length = m ∧ sp (pick perm zs) H1 Q E
def tKwM (C : Addr) (m : Str) (sp : Sp) (perm : List Nat) (n : Nat) (E : XK) (ta : TE) (tk : TA) : TE := fun σ H Q => ta σ H fun x H1 => ∃ a dx fs, x = .ref a ∧ H1 a = some (.ins C dx fs) ∧ fs.lookup m = none ∧ tk σ H1 fun zs H2 => zs.length = n ∧ sp (.ref a :: pick perm zs) H2 Q E
def tKwC (C : Addr) (sp : Sp) (perm : List Nat) (n : Nat) (E : XK) (tk : TA) : TE := fun σ H Q => tk σ H fun zs H1 => zs.length = n ∧ ∀ x dx, H1 x = none → H1 dx = none → dx ≠ x →
  sp (.ref x :: pick perm zs) (upd (upd H1 dx (.own x)) x (.ins C dx [])) (fun v H2 => v = .non ∧ Q (.ref x) H2) E
variable {kws : List Keyword} {tk : TA} {ks : List Str}
theorem pe_kw (perm : List Nat) (O : Ok X.prog X.w X.K X.mg X.base k x st ps sp) (hr : Room k X.A) (hg : Gl X x) (hkw : PK X kws tk)
    (hb : ∀ (kV doc pm : Value) (an : Option Addr) (cdv ct : Value) (ws : List Value), ws.length = ks.length → bindArgs (PySem.W.fnOf x x (defArgs st) (defBody st) (defScope st) .none kV doc pm an cdv ct) ⟨[], ks.zip ws⟩ = pure (ps.zip (pick perm ws)))
    (hall : (backToKw pos (keywordEach kws X.env)).all (·.1.isSome) = true := by rfl) (hks : (backToKw pos (keywordEach kws X.env)).filterMap (·.1) = ks := by rfl) (hdb : (x == ("__debug__" : Str)) = false := by decide)
    (hpl : ((backTo pos (starEach [] X.env)).any (·.1) || (backToKw pos (keywordEach kws X.env)).any (·.1.isNone)) = false := by rfl) : PE X (.Call (.Name x p) [] kws pos) (tKw sp perm ks.length E0 tk) := by
  obtain ⟨f, fd, h1, h2, h3, F⟩ := O.ex
  have kb : KBn X.K fd ps 0 ks (fun us ws => us ++ pick perm ws) (fun vs zs => vs ++ pick perm zs) := by
    obtain ⟨oc, od, kV, doc, pm, an, cdv, ct, osl, rfl, lk, hcd⟩ := h2.ex
    refine ⟨fun s us ws _ l1 l2 => ?_, fun r1 r2 => Vals.append r1 (pick_vals r2 perm)⟩
    have e : us = [] := List.length_eq_zero_iff.mp l1
    subst e
    exact .of_eq (hb kV doc pm an cdv ct ws l2)
  refine ⟨fun pins s σ H Q I h => ?_⟩
  refine wpAny_Call_Name_kw (ld_glob I hg h1 ?_ hdb)
  refine PySem.W.callWith_KW0 (h₀ := X.base) I.ok.mod.kin h2.kp hall (thn (hkw.run pos pins s σ H _ I h) fun ws s2 ⟨zs, H2, I2, rz, l2, q2⟩ => ⟨I2.kIn, ?_⟩) hpl
  rw [hks]
  exact run_fnN (us := []) (vs := []) F hr kb pass0 I2 .nil rz rfl l2 q2
theorem pe_kwM {pl : Sem Bool} (perm : List Nat) (c : Cls X.K C) (O : OkM X.prog X.w X.K X.mg X.base C k m qual st ps sp) (hr : Room k X.A) (ho : PE X o ta) (hkw : PK X kws tk)
    (hb : ∀ (kV doc pm : Value) (an : Option Addr) (cdv ct : Value) (u : Value) (ws : List Value), ws.length = ks.length → bindArgs (PySem.W.fnOf m qual (defArgs st) (defBody st) (defScope st) .none kV doc pm an cdv ct) ⟨[u], ks.zip ws⟩ = pure (ps.zip (u :: pick perm ws)))
    (hall : (backToKw pos (keywordEach kws X.env)).all (·.1.isSome) = true := by rfl) (hks : (backToKw pos (keywordEach kws X.env)).filterMap (·.1) = ks := by rfl)
    (hpl : ((backTo pos (starEach [] X.env)).any (·.1) || (backToKw pos (keywordEach kws X.env)).any (·.1.isNone)) = false := by rfl)
    (ht : eval (.Call (.Attribute o m apos) [] kws pos) X.env = (do
      let ov ← eval o X.env
      standAt apos.atName
      let (f, first) ← holding [ov] (getMethod ov m pl)
      callWith pos f first (backTo pos (starEach [] X.env)) (backToKw pos (keywordEach kws X.env))) := by rfl) : PE X (.Call (.Attribute o m apos) [] kws pos) (tKwM C m sp perm ks.length E0 ta tk) := by
  obtain ⟨f, fd, h1, h2, h3, F⟩ := O.ex
  have kb : KBn X.K fd ps 1 ks (fun us ws => us ++ pick perm ws) (fun vs zs => vs ++ pick perm zs) := by
    obtain ⟨oc, od, kV, doc, pm, an, cdv, ct, osl, rfl, lk, hcd⟩ := h2.ex
    refine ⟨fun s us ws _ l1 l2 => ?_, fun r1 r2 => Vals.append r1 (pick_vals r2 perm)⟩
    match us, l1 with
    | [u], _ => exact .of_eq (hb kV doc pm an cdv ct u ws l2)
  refine ⟨fun pins s σ H Q I h => ?_⟩
  refine PySem.W.methodCall_KW (pl := pl) (thn (ho.run pins s σ H _ I h) fun u s1 ⟨y, H1, I1, rx, a, dx, fs, ex, ea, l, q⟩ => ?_) ht
  subst ex
  obtain rfl : u = Value.ref a := rx
  refine getmeth_ok I1 ea c h1 l ?_
  refine PySem.W.callWith_KW0 (first := [.ref a]) (h₀ := X.base) I.ok.mod.kin h1.kp hall (thn (hkw.run pos pins s1 σ H1 _ I1 q) fun ws s2 ⟨zs, H2, I2, rz, l2, q2⟩ => ⟨I2.kIn, ?_⟩) hpl
  rw [hks]
  exact run_fnN (us := [.ref a]) (vs := [.ref a]) F hr kb pass0 I2 (.cons rfl .nil) rz rfl l2 q2
theorem pe_kwC (perm : List Nat) (O : OkC X.prog X.w X.K X.mg X.base x C k qual st ps sp) (hr : Room (k + 1) X.A) (hg : Gl X x) (hkw : PK X kws tk)
    (hb : ∀ (kV doc pm : Value) (an : Option Addr) (cdv ct : Value) (u : Value) (ws : List Value), ws.length = ks.length → bindArgs (PySem.W.fnOf "__init__" qual (defArgs st) (defBody st) (defScope st) .none kV doc pm an cdv ct) ⟨[u], ks.zip ws⟩ = pure (ps.zip (u :: pick perm ws)))
    (hall : (backToKw pos (keywordEach kws X.env)).all (·.1.isSome) = true := by rfl) (hks : (backToKw pos (keywordEach kws X.env)).filterMap (·.1) = ks := by rfl) (hdb : (x == ("__debug__" : Str)) = false := by decide)
    (hpl : ((backTo pos (starEach [] X.env)).any (·.1) || (backToKw pos (keywordEach kws X.env)).any (·.1.isNone)) = false := by rfl) : PE X (.Call (.Name x p) [] kws pos) (tKwC C sp perm ks.length E0 tk) := by
  obtain ⟨f, fd, h1, M, h2, h3, F⟩ := O.ex
  have kb : KBn X.K fd ps (0 + 1) ks (fun us ws => us ++ pick perm ws) (fun vs zs => vs ++ pick perm zs) := by
    obtain ⟨oc, od, kV, doc, pm, an, cdv, ct, osl, rfl, lk, hcd⟩ := h2.ex
    refine ⟨fun s us ws _ l1 l2 => ?_, fun r1 r2 => Vals.append r1 (pick_vals r2 perm)⟩
    match us, l1 with
    | [u], _ => exact .of_eq (hb kV doc pm an cdv ct u ws l2)
  refine ⟨fun pins s σ H Q I h => ?_⟩
  refine wpAny_Call_Name_kw (ld_glob I hg h1 ?_ hdb)
  refine PySem.W.callWith_KW0 (h₀ := X.base) I.ok.mod.kin M.kp hall (thn (hkw.run pos pins s σ H _ I h) fun ws s2 ⟨zs, H2, I2, rz, l2, q2⟩ => ⟨I2.kIn, ?_⟩) hpl
  rw [hks]
  exact run_makeN (us := []) (vs := []) M F hr kb pass0 I2 .nil rz rfl l2 q2
theorem wp_kw {g : Gr} {L : Led} {σ : St} {D : V → Led → Prop} {perm : List Nat} {n : Nat} {E : XK} (h : Wp g L (tk σ) fun zs L1 => zs.length = n ∧ Wp g L1 (fun H Q => sp (pick perm zs) H Q E) D) : Wp g L (tKw sp perm n E tk σ) D :=
  fun H z Q q => h H z _ fun zs L1 H1 ⟨e, k⟩ z1 => ⟨e, k H1 z1 Q q⟩
theorem wp_kwM {g : Gr} {L : Led} {σ : St} {D : V → Led → Prop} {perm : List Nat} {n : Nat} {E : XK} (i : Nat)
    (h : Wp g L (ta σ) fun x L1 => ∃ (a dx : Addr) (fs : List (Str × V)) (bo : Bool), x = .ref a ∧ L1[i]? = some (a, .ob (.ins C dx fs), bo) ∧ fs.lookup m = none ∧ Wp g L1 (tk σ) fun zs L2 => zs.length = n ∧ Wp g L2 (fun H Q => sp (.ref a :: pick perm zs) H Q E) D) : Wp g L (tKwM C m sp perm n E ta tk σ) D :=
  fun H a' Q q => h H a' _ fun x L1 H1 ⟨a, dx, fs, bo, e, h1, h2, h3⟩ a1 => by
    subst e
    exact ⟨a, dx, fs, rfl, a1.get h1, h2, h3 H1 a1 _ fun zs L2 H2 ⟨e, k2⟩ a2 => ⟨e, k2 H2 a2 Q q⟩⟩
theorem pe_const {n : Int} (hg : Gl X x) (hm : ∃ t, X.mg x = some (.int n t)) (hd : (x == ("__debug__" : Str)) = false := by decide) : PE X (.Name x pos) (tC (.int n)) := by
  obtain ⟨t, h⟩ := hm
  exact pe_glob hg h ⟨t, rfl⟩ hd
theorem pe_tyint (hg : Gl X "int") (hm : X.mg "int" = none) : PE X (.Name "int" pos) (tC (.ty "int")) := pe_bltn hg hm (by decide +kernel) rfl
theorem pe_tybool (hg : Gl X "bool") (hm : X.mg "bool" = none) : PE X (.Name "bool" pos) (tC (.ty "bool")) := pe_bltn hg hm (by decide +kernel) rfl
end
/-! ### from a ledger to a promise -/
section
variable {g : Gr} {L : Led} {H : Hp} {a : Addr} {e : Ent} {o : HO} {b : Bool} {t : TS} {σ : St} {K : Ks} {D : Ends}
theorem run_ws (h : Ws g L t σ K) (z : At g L H) (e : Eo g K D) : t D σ H := h H z D e
theorem at_nil {mu : Addr → Prop} : At ⟨H, mu⟩ [] H := ⟨fun _ _ h _ => h, (fun _ h => nomatch h), (fun _ h => nomatch h), .nil⟩
theorem at_cons (z : At g L H) (h : H a = some o) (he : e.In H o) (hn : a ∉ L.map (·.1)) (ho : b = true → (g.H0 a = none ∨ g.mu a)) : At g ((a, e, b) :: L) H := by
  refine ⟨z.old, fun q hq => ?_, fun q hq hb => ?_, ?_⟩
  · rcases List.mem_cons.mp hq with r | r
    · subst r
      exact ⟨o, h, he⟩
    · exact z.led q r
  · rcases List.mem_cons.mp hq with r | r
    · subst r
      exact ho hb
    · exact z.own q r hb
  · rw [List.pairwise_cons]
    exact ⟨fun q hq ee => absurd (List.mem_map.mpr ⟨q, hq, ee.symm⟩) hn, z.nd⟩
theorem at_one {mu : Addr → Prop} (h : H a = some o) : At ⟨H, mu⟩ [(a, .ob o, false)] H := at_cons at_nil h rfl (by simp) (by simp)
/-- one that is only read, before others that are only read -/
theorem at_consF (z : At g L H) (h : H a = some o) (he : e.In H o) (hn : ∀ q ∈ L, q.2.2 = false) : At g ((a, e, false) :: L) H := by
  refine ⟨z.old, fun q hq => ?_, fun q hq hb => ?_, ?_⟩
  · rcases List.mem_cons.mp hq with r | r
    · subst r
      exact ⟨o, h, he⟩
    · exact z.led q r
  · rcases List.mem_cons.mp hq with r | r
    · subst r
      cases hb
    · exact z.own q r hb
  · rw [List.pairwise_cons]
    exact ⟨fun q hq _ => .inr ⟨rfl, hn q hq⟩, z.nd⟩
theorem at_two {mu : Addr → Prop} {a2 : Addr} {o2 : HO} (h : H a = some o) (h2 : H a2 = some o2) (n : a ≠ a2) : At ⟨H, mu⟩ [(a, .ob o, false), (a2, .ob o2, false)] H := at_cons (at_one h2) h rfl (by simpa using n) (by simp)
theorem At.since {H0 : Hp} (z : At ⟨H0, fun _ => False⟩ L H) : Same H0 H := fun b o h => z.old b o h (fun q => q)
/-- a value that is told -/
def kV (R : V → Prop) : Ks := { nx := fun _ _ => R .non, rt := fun v _ => R v }
theorem eo_V {H0 : Hp} {R : V → Prop} {Q : VK} (h : ∀ v H', R v → Same H0 H' → Q v H') : Eo ⟨H0, fun _ => False⟩ (kV R) { nx := fun _ H' => Q .non H', rt := Q } :=
  ⟨fun σ L H k z => h _ _ k z.since, fun v L H k z => h _ _ k z.since, fun _ _ _ k _ => k.elim, fun _ _ _ k _ => k.elim⟩
/-- None, or a number that is told -/
def kO (A : Prop) (R : Int → Prop) : Ks := { nx := fun _ _ => A, rt := fun v _ => (v = .non ∧ A) ∨ ∃ n, v = .int n ∧ R n }
theorem eo_O {H0 : Hp} {A : Prop} {R : Int → Prop} {Q : VK} (h1 : A → ∀ H', Same H0 H' → Q .non H') (h2 : ∀ n, R n → ∀ H', Same H0 H' → Q (.int n) H') : Eo ⟨H0, fun _ => False⟩ (kO A R) { nx := fun _ H' => Q .non H', rt := Q } :=
  ⟨fun σ L H k z => h1 k _ z.since, fun v L H k z => by
    rcases k with ⟨e, k⟩ | ⟨n, e, k⟩
    · subst e
      exact h1 k _ z.since
    · subst e
      exact h2 n k _ z.since, fun _ _ _ k _ => k.elim, fun _ _ _ k _ => k.elim⟩
/-- a new object, told by a relation -/
def kR (R : HO → Prop) : Ks := { nx := fun _ _ => False, rt := fun v L => ∃ (p : Addr) (i : Nat) (o : HO), v = .ref p ∧ L[i]? = some (p, Ent.ob o, true) ∧ R o }
theorem eo_R {H0 : Hp} {R : HO → Prop} {Q : VK} (h : ∀ p H' o, R o → H0 p = none → Same H0 H' → H' p = some o → Q (.ref p) H') : Eo ⟨H0, fun _ => False⟩ (kR R) { nx := fun _ H' => Q .non H', rt := Q } :=
  ⟨fun _ _ _ k _ => k.elim, fun v L H ⟨p, i, o, e, k, r⟩ z => by
    subst e
    refine h p H o r ?_ z.since (z.get k)
    rcases z.own _ (List.mem_of_getElem? k) rfl with q | q
    · exact q
    · exact q.elim, fun _ _ _ k _ => k.elim, fun _ _ _ k _ => k.elim⟩
/-- what is at a place, by an entry -/
def EntAt (e : Ent) (H : Hp) (a : Addr) : Prop := ∃ o, H a = some o ∧ e.In H o
/-- all but one place -/
def Exc (a : Addr) (H H' : Hp) : Prop := ∀ c o, H c = some o → c ≠ a → H' c = some o
theorem At.draw {i : Nat} {e' : Ent} {H' : Hp} (z : At g L H) (k : L[i]? = some (a, e, true)) (s : Exc a H H') (h : EntAt e' H' a) (hmv : e.mov = true := by rfl) : At g (L.set i (a, e', true)) H' := by
  obtain ⟨o, h1, h2⟩ := h
  exact z.chg k s h1 h2 hmv
/-- a value, one place changed -/
def kM (a : Addr) (e : Ent) (i : Nat) (R : V → Prop) : Ks := { nx := fun _ _ => False, rt := fun v L => R v ∧ L[i]? = some (a, e, true) }
theorem eo_M {H0 : Hp} {a : Addr} {e : Ent} {i : Nat} {R : V → Prop} {Q : VK} (h : ∀ v H', R v → EntAt e H' a → Exc a H0 H' → Q v H') : Eo ⟨H0, fun c => c = a⟩ (kM a e i R) { nx := fun _ H' => Q .non H', rt := Q } :=
  ⟨fun _ _ _ k _ => k.elim, fun v L H ⟨r, k⟩ z => h v H r (z.look k) fun c o h hn => z.old c o h hn, fun _ _ _ k _ => k.elim, fun _ _ _ k _ => k.elim⟩
/-- a value; a place whose object is written out is told by an entry -/
def kS (a : Addr) (e : Ent) (R : V → Prop) : Ks := { nx := fun _ _ => False, rt := fun v L => R v ∧ ∃ (i : Nat) (o : HO), L[i]? = some (a, Ent.ob o, true) ∧ e.Is o }
theorem eo_S {H0 : Hp} {a : Addr} {e : Ent} {R : V → Prop} {Q : VK} (h : ∀ v H', R v → EntAt e H' a → Exc a H0 H' → Q v H') : Eo ⟨H0, fun c => c = a⟩ (kS a e R) { nx := fun _ H' => Q .non H', rt := Q } :=
  ⟨fun _ _ _ k _ => k.elim, fun v L H ⟨r, i, o, k, he⟩ z => h v H r ⟨o, z.get k, Ent.in_of he⟩ fun c o h hn => z.old c o h hn, fun _ _ _ k _ => k.elim, fun _ _ _ k _ => k.elim⟩
theorem At.ne {i j : Nat} {a2 : Addr} {e2 : Ent} {b2 : Bool} (z : At g L H) (h1 : L[i]? = some (a, e, b)) (h2 : L[j]? = some (a2, e2, b2)) (hij : i ≠ j) (m : e.mov = true ∨ e2.mov = true := by first | exact .inl rfl | exact .inr rfl) (o : b = true ∨ b2 = true := by first | exact .inl rfl | exact .inr rfl) : a ≠ a2 := nd_ne z.nd h1 h2 hij m o
/-- a tuple that stands there -/
theorem At.addT {r : List V} (z : At g L H) (h : H a = some (.tup r)) : At g (L ++ [(a, .ob (.tup r), false)]) H := by
  refine ⟨z.old, fun q hq => ?_, fun q hq hb => ?_, nd_app z.nd fun q hq e => ?_⟩
  · rcases List.mem_append.mp hq with hq | hq
    · exact z.led q hq
    · have e : q = (a, Ent.ob (.tup r), false) := by simpa using hq
      subst e
      exact ⟨_, h, rfl⟩
  · rcases List.mem_append.mp hq with hq | hq
    · exact z.own q hq hb
    · have e : q = (a, Ent.ob (.tup r), false) := by simpa using hq
      subst e
      cases hb
  · refine .inl ⟨?_, rfl⟩
    obtain ⟨o, h1, h2⟩ := z.led q hq
    rw [show q.1 = a from e, h] at h1
    have h1 := Option.some.inj h1
    subst h1
    cases hm : q.2.1.mov with
    | false => rfl
    | true => exact absurd rfl (Ent.mov_ne hm h2 r)
/-- an entry weakened -/
theorem At.weak {i : Nat} {e' : Ent} (z : At g L H) (k : L[i]? = some (a, e, b)) (h : ∀ H o, e.In H o → e'.In H o) (hmv : e.mov = true := by rfl) : At g (L.set i (a, e', b)) H := by
  refine ⟨z.old, fun q hq => ?_, fun q hq hb => ?_, nd_set z.nd k hmv⟩
  · rcases List.mem_or_eq_of_mem_set hq with r | r
    · exact z.led q r
    · subst r
      obtain ⟨o, h1, h2⟩ := z.look k
      exact ⟨o, h1, h H o h2⟩
  · rcases List.mem_or_eq_of_mem_set hq with r | r
    · exact z.own q r hb
    · subst r
      exact z.own (a, e, b) (List.mem_of_getElem? k) hb
theorem ws_weak {i : Nat} {e' : Ent} (k : L[i]? = some (a, e, b)) (h : ∀ H o, e.In H o → e'.In H o) (c : Ws g (L.set i (a, e', b)) t σ K) (hmv : e.mov = true := by rfl) : Ws g L t σ K := fun H z D eo => c H (z.weak k h hmv) D eo
/-- an entry opened -/
theorem ws_src {i n : Nat} (k : L[i]? = some (a, .src n, b)) (c : ∀ x y z : Int, 0 ≤ y → y < 2147483648 → 0 ≤ z → z ≤ (n : Int) → Ws g (L.set i (a, .ob (.lst [.int x, .int y, .int z]), b)) t σ K) : Ws g L t σ K := fun H z D eo => by
  obtain ⟨o, h1, x, y, zz, e, h2, h3, h4, h5⟩ := z.look k
  subst e
  refine c x y zz h2 h3 h4 h5 H ?_ D eo
  refine ⟨z.old, fun q hq => ?_, fun q hq hb => ?_, nd_set z.nd k rfl⟩
  · rcases List.mem_or_eq_of_mem_set hq with r | r
    · exact z.led q r
    · subst r
      exact ⟨_, h1, rfl⟩
  · rcases List.mem_or_eq_of_mem_set hq with r | r
    · exact z.own q r hb
    · subst r
      exact z.own (a, Ent.src n, b) (List.mem_of_getElem? k) hb
/-- a new object -/
def kN (o : HO) : Ks := { nx := fun _ _ => False, rt := fun v L => ∃ (p : Addr) (i : Nat), v = .ref p ∧ L[i]? = some (p, Ent.ob o, true) }
theorem eo_N {H0 : Hp} {o : HO} {Q : VK} (h : ∀ p H', H0 p = none → Same H0 H' → H' p = some o → Q (.ref p) H') : Eo ⟨H0, fun _ => False⟩ (kN o) { nx := fun _ H' => Q .non H', rt := Q } :=
  ⟨fun _ _ _ k _ => k.elim, fun v L H ⟨p, i, e, k⟩ z => by
    subst e
    refine h p H ?_ z.since (z.get k)
    rcases z.own _ (List.mem_of_getElem? k) rfl with q | q
    · exact q
    · exact q.elim, fun _ _ _ k _ => k.elim, fun _ _ _ k _ => k.elim⟩
/-- an int that a slot holds -/
def slotI (σ : St) (i : Nat) : Int := match σ[i]? with
  | some (some (.int n)) => n
  | _ => 0
end
section
variable {g : Gr} {L : Led} {σ : St} {K : Ks} {t1 : TS} {cT : TT} {tg : TG} {tb : TS}
/-- .. where each turn makes c draws from the source in place j -/
theorem src_le {n m : Nat} {H : Hp} {o : HO} (h : n ≤ m) (x : (Ent.src n).In H o) : (Ent.src m).In H o := by
  obtain ⟨x, y, zz, e1, e2, e3, e4, e5⟩ := x
  exact ⟨x, y, zz, e1, e2, e3, e4, by omega⟩
theorem well_le {n m : Nat} {H : Hp} {o : HO} (h : n ≤ m) (x : (Ent.well n).In H o) : (Ent.well m).In H o := by
  obtain ⟨x, y, zz, e1, e2, e3⟩ := x
  exact ⟨x, y, zz, e1, e2, by omega⟩
theorem wf_rngD (E : Nat → Ent) (hE : ∀ {n m : Nat} {H : Hp} {o : HO}, n ≤ m → (E n).In H o → (E m).In H o) {lo : Int} {n : Nat} (j c : Nat) {a : Addr} {n0 : Nat} (I : Nat → List (Option (Option V)) → Prop) (hj : L[j]? = some (a, E n0, true)) (h0 : ∃ vs, σ = putA σ vs ∧ I 0 vs)
    (hs : ∀ (i : Nat) (x : Int) vs, i < n → x = lo + i → I i vs → Wg g (L.set j (a, E (n0 + c * i), true)) tg (.int x) (putA σ vs) fun σ2 L2 => Ws g L2 tb σ2 { K with nx := fun σ' L' => ∃ vs', (σ' = putA σ vs' ∧ I (i + 1) vs') ∧ ∃ k, k ≤ c ∧ L.set j (a, E (n0 + c * i + k), true) <+: L', ct := fun σ' L' => ∃ vs', (σ' = putA σ vs' ∧ I (i + 1) vs') ∧ ∃ k, k ≤ c ∧ L.set j (a, E (n0 + c * i + k), true) <+: L', bk := K.nx })
    (hd : ∀ vs, I n vs → K.nx (putA σ vs) (L.set j (a, E (n0 + c * n), true))) (hEm : ∀ n, (E n).mov = true := by intro _; rfl) : WFor g L (Itr lo n) tg tb σ K := by
  have hjl : j < L.length := (List.getElem?_eq_some_iff.mp hj).1
  have hse : L.set j (a, E (n0 + c * 0), true) = L := by
    rw [Nat.mul_zero, Nat.add_zero]
    apply List.ext_getElem?
    intro q
    by_cases e : j = q
    · subst e
      rw [List.getElem?_set_self hjl, hj]
    · rw [List.getElem?_set_ne e]
  intro H z D e
  refine for_range (lo := lo) (n := n) (fun i σ' H' => ∃ vs, (σ' = putA σ vs ∧ I i vs) ∧ At g (L.set j (a, E (n0 + c * i), true)) H') (by obtain ⟨vs, h1, h2⟩ := h0; exact ⟨vs, ⟨h1, h2⟩, hse.symm ▸ z⟩) ?_ ?_
  · rintro i σ' H' hi ⟨vs, ⟨rfl, k⟩, z⟩
    refine hs i _ vs hi rfl k H' z _ fun σ2 L2 H2 k2 z2 => ?_
    have kk : ∀ σ' L'' H', (∃ vs', (σ' = putA σ vs' ∧ I (i + 1) vs') ∧ ∃ k, k ≤ c ∧ L.set j (a, E (n0 + c * i + k), true) <+: L'') → At g L'' H' → ∃ vs, (σ' = putA σ vs ∧ I (i + 1) vs) ∧ At g (L.set j (a, E (n0 + c * (i + 1)), true)) H' := fun σ' L'' H' ⟨vs', h1, kd, hk, h2⟩ z' => by
      refine ⟨vs', h1, ?_⟩
      have z3 := z'.pre h2
      have z4 := z3.weak (i := j) (e' := E (n0 + c * (i + 1))) (List.getElem?_set_self hjl) (fun _ o ho => hE (by have : c * (i + 1) = c * i + c := Nat.mul_succ c i; omega) ho) (hEm _)
      rw [List.set_set] at z4
      exact z4
    exact k2 H2 z2 _ ⟨kk, e.rt, e.nx, kk⟩
  · rintro σ' H' ⟨vs, ⟨rfl, k⟩, z⟩
    exact e.nx _ _ _ (hd vs k) z
end
/-! ### == and != of data -/
section
variable {K : PySem.W.Frag} {g : Gr} {L : Led} {C : V → Led → Prop} {x y : V} {d e : PyData} {a : Addr}
def DpA (K : PySem.W.Frag) (g : Gr) (L : Led) (x : V) (d : PyData) : Prop := ∀ H, At g L H → Dp K H x d
def DpS (K : PySem.W.Frag) (g : Gr) (L : Led) (xs : List V) (ds : List PyData) : Prop := ∀ H, At g L H → DpAll K H xs ds
theorem dp_non : DpA K g L .non .none := fun _ _ => .non
theorem dp_bl {b : Bool} : DpA K g L (.bl b) (.bool b) := fun _ _ => .bl b
theorem dp_int {n : Int} : DpA K g L (.int n) (.int n) := fun _ _ => .int n
theorem dp_str {z : Str} : DpA K g L (.str z) (.str z) := fun _ _ => .str z
theorem dps_nil : DpS K g L [] [] := fun _ _ => .nil
theorem dps_cons {xs : List V} {ds : List PyData} (h : DpA K g L x d) (t : DpS K g L xs ds) : DpS K g L (x :: xs) (d :: ds) := fun H z => .cons (h H z) (t H z)
theorem dp_tup {xs : List V} {ds : List PyData} (s : SeenT K g L a xs) (t : DpS K g L xs ds) : DpA K g L (.ref a) (.tuple ds) := fun H z => .tup (s.at_ H z) (t H z)
theorem dp_lst {xs : List V} {ds : List PyData} (s : Seen K g L a xs) (t : DpS K g L xs ds) : DpA K g L (.ref a) (.list ds) := fun H z => .lst (s.at_ H z) (t H z)
theorem dps_ints {ns : List Int} : DpS K g L (ns.map V.int) (ns.map PyData.int) := by
  induction ns with
  | nil => exact dps_nil
  | cons n r ih => exact dps_cons dp_int ih
theorem dp_ints {ns : List Int} (s : Seen K g L a (ns.map V.int)) : DpA K g L (.ref a) (.list (ns.map PyData.int)) := dp_lst s dps_ints
theorem eqvAll_ints : ∀ ms ns : List Int, PyData.eqvAll (ms.map PyData.int) (ns.map PyData.int) = decide (ms = ns)
  | [], [] => by simp [PyData.eqvAll]
  | [], _ :: _ => by simp [PyData.eqvAll]
  | _ :: _, [] => by simp [PyData.eqvAll]
  | m :: ms, n :: ns => by
    rw [List.map_cons, List.map_cons]
    unfold PyData.eqvAll
    rw [eqvAll_ints ms ns]
    unfold PyData.eqv
    rw [Bool.eq_iff_iff]
    simp
theorem eqv_ints (ms ns : List Int) : PyData.eqv (.list (ms.map PyData.int)) (.list (ns.map PyData.int)) = decide (ms = ns) := by
  unfold PyData.eqv
  exact eqvAll_ints ms ns
theorem wr_eqD (h1 : DpA K g L x d) (h2 : DpA K g L y e) (s1 : SeqAt.shaped d = true) (s2 : SeqAt.shaped e = true) (c : C (.bl (PyData.eqv d e)) L) : Wp g L (rEqD K x y) C := .now (fun H _ z q => ⟨d, e, h1 H z, h2 H z, s1, s2, q⟩) c
theorem wr_neD (h1 : DpA K g L x d) (h2 : DpA K g L y e) (s1 : SeqAt.shaped d = true) (s2 : SeqAt.shaped e = true) (c : C (.bl (!PyData.eqv d e)) L) : Wp g L (rNeD K x y) C := .now (fun H _ z q => ⟨d, e, h1 H z, h2 H z, s1, s2, q⟩) c
theorem wr_eqLI {a2 : Addr} {ms ns : List Int} (s1 : Seen K g L a (ms.map V.int)) (s2 : Seen K g L a2 (ns.map V.int)) (c : C (.bl (decide (ms = ns))) L) : Wp g L (rEqD K (.ref a) (.ref a2)) C :=
  wr_eqD (dp_ints s1) (dp_ints s2) (PySem.W.shaped_ints _) (PySem.W.shaped_ints _) (by rw [eqv_ints]; exact c)
theorem wr_neLI {a2 : Addr} {ms ns : List Int} (s1 : Seen K g L a (ms.map V.int)) (s2 : Seen K g L a2 (ns.map V.int)) (c : C (.bl (!decide (ms = ns))) L) : Wp g L (rNeD K (.ref a) (.ref a2)) C :=
  wr_neD (dp_ints s1) (dp_ints s2) (PySem.W.shaped_ints _) (PySem.W.shaped_ints _) (by rw [eqv_ints]; exact c)
/-- all, any of a list of bools; sorted, max, min, sum of ints -/
theorem wc_all {bs : List Bool} (s : Seen K g L a (bs.map V.bl)) (c : C (.bl (bs.all id)) L) : Wp g L (rAll K [.ref a]) C := .now (fun H _ z q => ⟨a, bs, rfl, s.at_ H z, q⟩) c
theorem wc_any {bs : List Bool} (s : Seen K g L a (bs.map V.bl)) (c : C (.bl (bs.any id)) L) : Wp g L (rAny K [.ref a]) C := .now (fun H _ z q => ⟨a, bs, rfl, s.at_ H z, q⟩) c
theorem wc_sum {ns : List Int} (s : Seen K g L a (ns.map V.int)) (c : C (.int ns.sum) L) : Wp g L (rSum K [.ref a]) C := .now (fun H _ z q => ⟨a, ns, rfl, s.at_ H z, q⟩) c
theorem wc_sorted {ns : List Int} (s : Seen K g L a (ns.map V.int)) (c : ∀ (ns' : List Int) (p : Addr), ns'.Perm ns → ns'.Pairwise (· ≤ ·) → C (.ref p) (L ++ [(p, .ob (.lst (ns'.map V.int)), true)])) : Wp g L (rSortedI K [.ref a]) C :=
  fun H z Q q => ⟨a, ns, rfl, s.at_ H z, fun ns' p h1 h2 hp => q _ _ _ (c ns' p h1 h2) (z.upd_new hp)⟩
theorem wc_maxL {ns : List Int} (s : Seen K g L a (ns.map V.int)) (h0 : 0 < ns.length) (c : ∀ m : Int, m ∈ ns → (∀ k ∈ ns, k ≤ m) → C (.int m) L) : Wp g L (rMax K [.ref a]) C :=
  fun H z Q q => ⟨a, ns, rfl, s.at_ H z, h0, fun m h1 h2 => q _ _ _ (c m h1 h2) z⟩
end
/-! ### comprehensions over ints whose element and test are functions of the item -/
section
variable {g : Gr} {L : Led} {σ : St} {C : V → Led → Prop} {tt : TT} {te : TE} {i : Nat}
def WLc (g : Gr) (L : Led) (J : It) (tg : TG) (tt : TT) (te : TE) (vs : List Nat) (σ : St) (C : V → Led → Prop) : Prop := ∀ H, At g L H → ∀ Q : VK, (∀ v L' H', C v L' → At g L' H' → Q v H') → ∀ D, H D = none → ∃ W : Nat → Nat → Hp → Prop, (∃ m, W 0 m (upd H D (.lst []))) ∧ ∀ i m H, W i m H →
  (J.stop i H ∧ Q (.ref D) H) ∨ (J.go i H ∧ ∃ Nx : Hp → Prop, (∀ H', Nx H' → ∃ m', m' < m ∧ W (i + 1) m' H') ∧ ∀ x H', J.yld i H x H' → tg x (wipe σ vs) H' fun σ2 H2 => wipe σ2 vs = wipe σ vs ∧ tt σ2 H2 fun b H3 =>
    if b = true then te σ2 H3 fun y H4 => ∃ acc, H4 D = some (.lst acc) ∧ acc.length < sizeLine ∧ Nx (upd H4 D (.lst (acc ++ [y]))) else Nx H3)
theorem wp_lc {wi : TI} {tg : TG} {vs : List Nat} (h : Wp g L (wi σ) fun J L1 => WLc g L1 J tg tt te vs σ C) : Wp g L (tLc wi tg tt te vs σ) C := fun H z Q q => h H z _ fun J L1 H1 k z1 => fun D hD => k H1 z1 Q q D hD
theorem wipe1 (σ : St) (i : Nat) (v : Option V) : wipe ((wipe σ [i]).set i v) [i] = wipe σ [i] := by
  show (((σ.set i none).set i v).set i none) = σ.set i none
  rw [List.set_set, List.set_set]
theorem filter_take_succ {α β : Type} (p : α → Bool) (f : α → β) {xs : List α} {k : Nat} {x : α} (h : xs[k]? = some x) : ((xs.take (k + 1)).filter p).map f = ((xs.take k).filter p).map f ++ (if p x = true then [f x] else []) := by
  rw [List.take_add_one, h]
  simp only [Option.toList, List.filter_append, List.map_append]
  congr 1
  rw [List.filter_cons]
  split <;> simp
/-- the ints lo, lo + 1, .. -/
def rngI (lo : Int) (n : Nat) : List Int := (List.range n).map fun (k : Nat) => lo + (k : Int)
theorem rngI_get {lo : Int} {n k : Nat} (h : k < n) : (rngI lo n)[k]? = some (lo + (k : Int)) := by
  unfold rngI
  rw [List.getElem?_map, List.getElem?_range h]
  rfl
theorem mem_rngI {lo x : Int} {n : Nat} : x ∈ rngI lo n ↔ lo ≤ x ∧ x < lo + (n : Int) := by
  unfold rngI
  rw [List.mem_map]
  constructor
  · rintro ⟨k, hk, rfl⟩
    have := List.mem_range.mp hk
    omega
  · rintro ⟨h1, h2⟩
    exact ⟨(x - lo).toNat, List.mem_range.mpr (by omega), by omega⟩
theorem rngI_len {lo : Int} {n : Nat} : (rngI lo n).length = n := by simp [rngI]
/-- one turn -/
abbrev LcTurn (g : Gr) (L : Led) (i : Nat) (tt : TT) (te : TE) (σ : St) (p : Int → Bool) (f : Int → V) (n : Int) : Prop := ∀ (D : Addr) (acc : List V), Wp g (L ++ [(D, .ob (.lst acc), true)]) (tt ((wipe σ [i]).set i (some (.int n)))) fun b L2 => b = p n ∧
  if b = true then Wp g L2 (te ((wipe σ [i]).set i (some (.int n)))) fun y L3 => y = f n ∧ (L ++ [(D, .ob (.lst acc), true)]) <+: L3 else (L ++ [(D, .ob (.lst acc), true)]) <+: L2
theorem lc_turn {p : Int → Bool} {f : Int → V} {n : Int} {D : Addr} {acc acc' : List V} {H : Hp} {Nx : Hp → Prop} (h : LcTurn g L i tt te σ p f n) (z : At g (L ++ [(D, .ob (.lst acc), true)]) H) (hl : acc.length < 100000)
    (e : acc' = acc ++ (if p n = true then [f n] else [])) (hN : ∀ H', At g (L ++ [(D, .ob (.lst acc'), true)]) H' → Nx H') :
    tt ((wipe σ [i]).set i (some (.int n))) H fun b H3 => if b = true then te ((wipe σ [i]).set i (some (.int n))) H3 fun y H4 => ∃ acc, H4 D = some (.lst acc) ∧ acc.length < sizeLine ∧ Nx (upd H4 D (.lst (acc ++ [y]))) else Nx H3 := by
  have hi : ∀ o : HO, (L ++ [(D, Ent.ob o, true)])[L.length]? = some (D, Ent.ob o, true) := fun o => by simp
  refine h D acc H z _ fun b L2 H2 ⟨eb, k⟩ z2 => ?_
  subst eb
  cases hp : p n with
  | true =>
    rw [hp] at k e
    have k : Wp g L2 _ _ := k
    refine k H2 z2 _ fun y L3 H3 ⟨ey, hpre⟩ z3 => ?_
    have z4 := z3.pre hpre
    refine ⟨acc, z4.get (hi _), Nat.lt_of_lt_of_le hl (by decide), hN _ ?_⟩
    have z5 := z4.upd_chg (o := .lst (acc ++ [y])) (hi _)
    rw [List.set_append_right _ _ (Nat.le_refl _), Nat.sub_self] at z5
    subst ey
    rw [e]
    exact z5
  | false =>
    rw [hp] at k e
    have k : _ <+: L2 := k
    have e2 : acc' = acc := by rw [e]; simp
    rw [e2] at hN
    exact hN _ (z2.pre k)
theorem lc_I {Kf : PySem.W.Frag} {a : Addr} {ns : List Int} (p : Int → Bool) (f : Int → V) (s : Seen Kf g L a (ns.map V.int)) (hl : ns.length ≤ 99999) (hs : ∀ n, n ∈ ns → LcTurn g L i tt te σ p f n)
    (c : ∀ D, C (.ref D) (L ++ [(D, .ob (.lst ((ns.filter p).map f)), true)])) : WLc g L (Itl Kf a) (gName i) tt te [i] σ C := fun H z Q q D hD => by
  have sub : ∀ {D o} {H : Hp}, At g (L ++ [(D, Ent.ob o, true)]) H → At g L H := fun z => z.pre ⟨_, rfl⟩
  refine lc_list (K := Kf) (a := a) (xs := ns.map V.int) (fun k H => At g (L ++ [(D, .ob (.lst (((ns.take k).filter p).map f)), true)]) H) (by simpa using z.upd_new hD) (fun k H _ z => s.at_ H (sub z)) (fun k x H hx z => ?_) fun H z => q _ _ _ (c D) ?_
  · rw [List.getElem?_map] at hx
    cases hn : ns[k]? with
    | none => rw [hn] at hx; cases hx
    | some n =>
      rw [hn] at hx
      have hx : V.int n = x := Option.some.inj hx
      subst hx
      refine ⟨wipe1 σ i _, ?_⟩
      refine lc_turn (hs n (List.mem_of_getElem? hn)) z ?_ (filter_take_succ p f hn) fun H' z' => z'
      have := List.length_filter_le p (ns.take k)
      have := List.length_take_le k ns
      rw [List.length_map]
      have h3 : (ns.take k).length ≤ ns.length := by simp; omega
      omega
  · rw [List.length_map, List.take_length] at z
    exact z
theorem lc_R {lo : Int} {n : Nat} (p : Int → Bool) (f : Int → V) (hl : n ≤ 99999) (hs : ∀ x, lo ≤ x → x < lo + (n : Int) → LcTurn g L i tt te σ p f x)
    (c : ∀ D, C (.ref D) (L ++ [(D, .ob (.lst (((rngI lo n).filter p).map f)), true)])) : WLc g L (Itr lo n) (gName i) tt te [i] σ C := fun H z Q q D hD => by
  refine lc_range (lo := lo) (n := n) (fun k H => At g (L ++ [(D, .ob (.lst ((((rngI lo n).take k).filter p).map f)), true)]) H) (by simpa using z.upd_new hD) (fun k H hk z => ?_) fun H z => q _ _ _ (c D) ?_
  · refine ⟨wipe1 σ i _, ?_⟩
    refine lc_turn (hs _ (by omega) (by omega)) z ?_ (filter_take_succ p f (rngI_get hk)) fun H' z' => z'
    have := List.length_filter_le p ((rngI lo n).take k)
    have h3 : ((rngI lo n).take k).length ≤ n := by simp [rngI]; omega
    rw [List.length_map]
    omega
  · rw [List.take_of_length_le (by rw [rngI_len]; exact Nat.le_refl _)] at z
    exact z
theorem lc_If {Kf : PySem.W.Frag} {a : Addr} {ns : List Int} (p : Int → Bool) (s : Seen Kf g L a (ns.map V.int)) (hl : ns.length ≤ 99999) (hs : ∀ n, n ∈ ns → LcTurn g L i tt te σ p V.int n)
    (c : ∀ D, C (.ref D) (L ++ [(D, .ob (.lst ((ns.filter p).map V.int)), true)])) : WLc g L (Itl Kf a) (gName i) tt te [i] σ C := lc_I p V.int s hl hs c
theorem lc_Rf {lo : Int} {n : Nat} (p : Int → Bool) (hl : n ≤ 99999) (hs : ∀ x, lo ≤ x → x < lo + (n : Int) → LcTurn g L i tt te σ p V.int x)
    (c : ∀ D, C (.ref D) (L ++ [(D, .ob (.lst (((rngI lo n).filter p).map V.int)), true)])) : WLc g L (Itr lo n) (gName i) tt te [i] σ C := lc_R p V.int hl hs c
theorem lc_It {α : Type} (T : α → V) {Kf : PySem.W.Frag} {a : Addr} {ns : List Int} (p : Int → Bool) (h : Int → α) (s : Seen Kf g L a (ns.map V.int)) (hl : ns.length ≤ 99999) (hs : ∀ n, n ∈ ns → LcTurn g L i tt te σ p (fun n => T (h n)) n)
    (c : ∀ D, C (.ref D) (L ++ [(D, .ob (.lst (((ns.filter p).map h).map T)), true)])) : WLc g L (Itl Kf a) (gName i) tt te [i] σ C := lc_I p (fun n => T (h n)) s hl hs fun D => by
  have e : (ns.filter p).map (fun n => T (h n)) = ((ns.filter p).map h).map T := by rw [List.map_map]; rfl
  rw [e]
  exact c D
theorem lc_Rt {α : Type} (T : α → V) {lo : Int} {n : Nat} (p : Int → Bool) (h : Int → α) (hl : n ≤ 99999) (hs : ∀ x, lo ≤ x → x < lo + (n : Int) → LcTurn g L i tt te σ p (fun n => T (h n)) x)
    (c : ∀ D, C (.ref D) (L ++ [(D, .ob (.lst ((((rngI lo n).filter p).map h).map T)), true)])) : WLc g L (Itr lo n) (gName i) tt te [i] σ C := lc_R p (fun n => T (h n)) hl hs fun D => by
  have e : ((rngI lo n).filter p).map (fun n => T (h n)) = (((rngI lo n).filter p).map h).map T := by rw [List.map_map]; rfl
  rw [e]
  exact c D
theorem lc_Im {α : Type} (T : α → V) {Kf : PySem.W.Frag} {a : Addr} {ns : List Int} (h : Int → α) (s : Seen Kf g L a (ns.map V.int)) (hl : ns.length ≤ 99999) (hs : ∀ n, n ∈ ns → LcTurn g L i tt te σ (fun _ => true) (fun n => T (h n)) n)
    (c : ∀ D, C (.ref D) (L ++ [(D, .ob (.lst ((ns.map h).map T)), true)])) : WLc g L (Itl Kf a) (gName i) tt te [i] σ C := lc_It T (fun _ => true) h s hl hs fun D => by
  rw [List.filter_eq_self.mpr (fun _ _ => rfl)]
  exact c D
theorem lc_Rm {α : Type} (T : α → V) {lo : Int} {n : Nat} (h : Int → α) (hl : n ≤ 99999) (hs : ∀ x, lo ≤ x → x < lo + (n : Int) → LcTurn g L i tt te σ (fun _ => true) (fun n => T (h n)) x)
    (c : ∀ D, C (.ref D) (L ++ [(D, .ob (.lst (((rngI lo n).map h).map T)), true)])) : WLc g L (Itr lo n) (gName i) tt te [i] σ C := lc_Rt T (fun _ => true) h hl hs fun D => by
  rw [List.filter_eq_self.mpr (fun _ _ => rfl)]
  exact c D
theorem ws_setLc {y : Nat} {wi : TI} {tg : TG} {vs : List Nat} {K : Ks} (h : Wp g L (wi σ) fun J L1 => WLc g L1 J tg tt te vs σ fun v L2 => K.nx (σ.set y (some v)) L2) : Ws g L (tAsg (tLc wi tg tt te vs) (gName y)) σ K := ws_set (wp_lc h)
end
/-! ### defs that draw from a source -/
section
variable {g : Gr} {L : Led} {H H' : Hp} {a p : Addr} {e : Ent} {o : HO} {b : Bool} {i : Nat}
theorem At.draw_new {e' : Ent} (z : At g L H) (k : L[i]? = some (a, e, true)) (s : Exc a H H') (h : EntAt e' H' a) (n : H p = none) (hp : H' p = some o) (hmv : e.mov = true := by rfl) : At g (L.set i (a, e', true) ++ [(p, .ob o, true)]) H' := by
  have z2 := z.draw k s h hmv
  refine ⟨z2.old, fun q hq => ?_, fun q hq => ?_, ?_⟩
  · rcases List.mem_append.mp hq with hq | hq
    · exact z2.led q hq
    · have e : q = (p, Ent.ob o, true) := by simpa using hq
      subst e
      exact ⟨o, hp, rfl⟩
  · rcases List.mem_append.mp hq with hq | hq
    · exact z2.own q hq
    · have e : q = (p, Ent.ob o, true) := by simpa using hq
      subst e
      intro _
      by_cases hmu : g.mu p
      · exact .inr hmu
      · refine .inl ?_
        cases q2 : g.H0 p with
        | none => rfl
        | some u =>
          rw [z.old p u q2 hmu] at n
          cases n
  · refine nd_app z2.nd fun q hq e3 => ?_
    rcases List.mem_or_eq_of_mem_set hq with r | r
    · obtain ⟨u, h1, _⟩ := z.led q r
      rw [e3, n] at h1
      cases h1
    · subst r
      obtain ⟨u, h1, _⟩ := z.look k
      rw [show a = p from e3, n] at h1
      cases h1
theorem src_mono {m k c : Nat} (h : k ≤ c) {H : Hp} {a : Addr} (x : EntAt (.src (m + k)) H a) : EntAt (.src (m + c)) H a := by
  obtain ⟨o, h1, x, y, z, e1, e2, e3, e4, e5⟩ := x
  exact ⟨o, h1, x, y, z, e1, e2, e3, e4, by omega⟩
theorem well_mono {m k c : Nat} (h : k ≤ c) {H : Hp} {a : Addr} (x : EntAt (.well (m + k)) H a) : EntAt (.well (m + c)) H a := by
  obtain ⟨o, h1, x, y, z, e1, e2, e3⟩ := x
  exact ⟨o, h1, x, y, z, e1, e2, by omega⟩
/-- a value, at most c draws -/
def kD (E : Nat → Ent) (a : Addr) (m c : Nat) (R : V → Prop) : Ks := { nx := fun _ _ => False, rt := fun v L => R v ∧ ∃ k, k ≤ c ∧ L[0]? = some (a, E (m + k), true) }
theorem eo_D {E : Nat → Ent} {H0 : Hp} {a : Addr} {m c : Nat} {R : V → Prop} {Q : VK} (mono : ∀ {k : Nat} {H : Hp}, k ≤ c → EntAt (E (m + k)) H a → EntAt (E (m + c)) H a) (h : ∀ v H', R v → EntAt (E (m + c)) H' a → Exc a H0 H' → Q v H') : Eo ⟨H0, fun c => c = a⟩ (kD E a m c R) { nx := fun _ H' => Q .non H', rt := Q } :=
  ⟨fun _ _ _ k _ => k.elim, fun v L H ⟨r, k, hk, e⟩ z => h v H r (mono hk (z.look e)) fun c o h hn => z.old c o h hn, fun _ _ _ k _ => k.elim, fun _ _ _ k _ => k.elim⟩
/-- a new object, at most c draws -/
def kDN (E : Nat → Ent) (a : Addr) (m c : Nat) (R : HO → Prop) : Ks := { nx := fun _ _ => False, rt := fun v L => ∃ (p : Addr) (i : Nat) (o : HO), v = .ref p ∧ L[i + 1]? = some (p, Ent.ob o, true) ∧ R o ∧ ∃ k, k ≤ c ∧ L[0]? = some (a, E (m + k), true) }
theorem eo_DN {E : Nat → Ent} {H0 : Hp} {a : Addr} {m c : Nat} {R : HO → Prop} {Q : VK} (mono : ∀ {k : Nat} {H : Hp}, k ≤ c → EntAt (E (m + k)) H a → EntAt (E (m + c)) H a) (h : ∀ p H' o, R o → H0 p = none → H' p = some o → EntAt (E (m + c)) H' a → Exc a H0 H' → Q (.ref p) H') (hEm : ∀ n, (E n).mov = true := by intro _; rfl) : Eo ⟨H0, fun c => c = a⟩ (kDN E a m c R) { nx := fun _ H' => Q .non H', rt := Q } :=
  ⟨fun _ _ _ k _ => k.elim, fun v L H ⟨p, i, o, ev, hp, r, k, hk, e⟩ z => by
    subst ev
    have hn : H0 p = none := by
      rcases z.own _ (List.mem_of_getElem? hp) rfl with q | q
      · exact q
      · exact absurd q (z.ne hp e (by omega) (.inr (hEm _)))
    exact h p H o r hn (z.get hp) (mono hk (z.look e)) fun c o h hn => z.old c o h hn, fun _ _ _ k _ => k.elim, fun _ _ _ k _ => k.elim⟩
end
section
variable {K : PySem.W.Frag} {g : Gr} {L : Led} {C : V → Led → Prop} {σ : St} {ta : TE}
theorem wp_lenSet (h : Wp g L (ta σ) fun x L1 => ∃ (a : Addr) (ns : List Int), x = .ref a ∧ Seen K g L1 a (ns.map V.int) ∧ ns.Nodup ∧ ns.length ≤ 4000 ∧ C (.int (ns.length : Nat)) L1) : Wp g L (RZ.tLenSetI K ta σ) C :=
  fun H z Q q => h H z _ fun x L1 H1 ⟨a, ns, e, s, nd, hl, c⟩ z1 => ⟨a, ns, e, s.at_ H1 z1, nd, hl, q _ _ _ c z1⟩
end
/-! ### three comparisons in a chain -/
section
open PySem.Spec PyProof.Rows
variable {X : Cx} {a b c d : Expr} {pos : Pos} {ta tb tc td : TE}
def tChain3 (r r' r'' : R2) (ta tb tc td : TE) : TE := fun σ H Q => ta σ H fun x H1 => tb σ H1 fun y H2 => r x y H2 fun z H3 => ∃ k, z = .bl k ∧
  (if k = true then tc σ H3 fun w H4 => r' y w H4 fun z2 H5 => ∃ k2, z2 = .bl k2 ∧ (if k2 = true then td σ H5 fun u H6 => r'' w u H6 Q else Q (.bl false) H5) else Q (.bl false) H3)
theorem pe_chain3 {op op' op'' : CmpOp} {r r' r'' : R2} (ho : OpR X (compareOp op) r) (ho' : OpR X (compareOp op') r') (ho'' : OpR X (compareOp op'') r'') (ha : PE X a ta) (hb : PE X b tb) (hc : PE X c tc) (hd : PE X d td)
    (hm : lastMarks [op, op', op''] [b, c, d] = false := by with_unfolding_all rfl) : PE X (.Compare a [op, op', op''] [b, c, d] pos) (tChain3 r r' r'' ta tb tc td) := by
  refine ⟨fun pins s σ H Q I h => ?_⟩
  refine Compare_chain (thn (ha.run pins s σ H _ I h) fun v s1 ⟨x, H1, I1, r1, q1⟩ => chain_link (thn (hb.run pins s1 σ H1 _ I1 q1) fun u s2 ⟨y, H2, I2, r2, q2⟩ =>
    thn (ho pins s2 σ H2 x y v u _ I2 r1 r2 q2) fun d s3 ⟨z, H3, I3, r3, k, e, q3⟩ => ?_)) hm
  subst e
  cases r3
  refine wpAny_truthy_bool ?_
  cases k with
  | false => exact ite_ff ⟨.bl false, H3, I3, rfl, q3⟩
  | true =>
    refine ite_tt (chain_link (thn (hc.run pins s3 σ H3 _ I3 q3) fun w' s4 ⟨z', H4, I4, r4, q4⟩ => thn (ho' pins s4 σ H4 y z' u w' _ I4 r2 r4 q4) fun d2 s5 ⟨z2, H5, I5, r5, k2, e2, q5⟩ => ?_))
    subst e2
    cases r5
    refine wpAny_truthy_bool ?_
    cases k2 with
    | false => exact ite_ff ⟨.bl false, H5, I5, rfl, q5⟩
    | true => exact ite_tt (chain_last (thn (hd.run pins s5 σ H5 _ I5 q5) fun w2 s6 ⟨z3, H6, I6, r6, q6⟩ => ho'' pins s6 σ H6 z' z3 w' w2 Q I6 r4 r6 q6))
theorem wp_chain3P {g : Gr} {L : Led} {σ : L2.St} {C : V → Led → Prop} {r r' r'' : R2} (h : Wp g L (ta σ) fun x L1 => Wp g L1 (tb σ) fun y L2 => Wp g L2 (r x y) fun z L3 => ∃ b, z = .bl b ∧ ∃ b2, (b = true → Wp g L3 (tc σ) fun w L4 => Wp g L4 (r' y w) fun c L5 => ∃ k, c = .bl k ∧ ∃ k2, (k = true → Wp g L5 (td σ) fun u L6 => Wp g L6 (r'' w u) fun d L7 => d = .bl k2 ∧ L7 = L3) ∧ (L5 = L3 ∧ b2 = (k && k2))) ∧ C (.bl (b && b2)) L3) : Wp g L (tChain3 r r' r'' ta tb tc td σ) C :=
  fun H a Q q => h H a _ fun x L1 H1 h1 a1 => h1 H1 a1 _ fun y L2 H2 h2 a2 => h2 H2 a2 _ fun z L3 H3 ⟨b, e, b2, k, c⟩ a3 => ⟨b, e, by
    cases b with
    | false => exact q _ L3 H3 c a3
    | true =>
      refine k rfl H3 a3 _ fun w L4 H4 h4 a4 => h4 H4 a4 _ fun z2 L5 H5 ⟨k1, e1, k2, f, hL, hb⟩ a5 => ⟨k1, e1, ?_⟩
      subst hL hb
      cases k1 with
      | false => exact q _ _ H5 c a5
      | true => exact f rfl H5 a5 _ fun u L6 H6 h6 a6 => h6 H6 a6 _ fun d L7 H7 ⟨e7, l7⟩ a7 => q _ _ H7 (by rw [e7, l7]; exact c) a7⟩
end
/-! ### comprehensions over a range whose element draws -/
section
variable {g : Gr} {L : Led} {σ : St} {C : V → Led → Prop} {tt : TT} {te : TE} {i : Nat}
theorem set_self {j : Nat} {x : Addr × Ent × Bool} (hj : L[j]? = some x) : L.set j x = L := by
  apply List.ext_getElem?
  intro q
  by_cases e : j = q
  · subst e
    rw [List.getElem?_set_self (List.getElem?_eq_some_iff.mp hj).1, hj]
  · rw [List.getElem?_set_ne e]
theorem lc_RD (E : Nat → Ent) (hE : ∀ {n m : Nat} {H : Hp} {o : HO}, n ≤ m → (E n).In H o → (E m).In H o) {lo : Int} {n : Nat} (j c : Nat) {a : Addr} {n0 : Nat} (P : Int → Prop) (hj : L[j]? = some (a, E n0, true)) (hl : n ≤ 99999)
    (hs : ∀ (k : Nat) (x : Int), k < n → x = lo + (k : Int) → ∀ (D : Addr) (acc : List V), Wp g (L.set j (a, E (n0 + c * k), true) ++ [(D, .ob (.lst acc), true)]) (tt ((wipe σ [i]).set i (some (.int x)))) fun b L2 => b = true ∧
      Wp g L2 (te ((wipe σ [i]).set i (some (.int x)))) fun y L3 => (∃ v : Int, y = .int v ∧ P v) ∧ ∃ d, d ≤ c ∧ (L.set j (a, E (n0 + c * k + d), true) ++ [(D, .ob (.lst acc), true)]) <+: L3)
    (cc : ∀ (D : Addr) (ys : List Int), ys.length = n → (∀ y ∈ ys, P y) → C (.ref D) (L.set j (a, E (n0 + c * n), true) ++ [(D, .ob (.lst (ys.map V.int)), true)])) (hEm : ∀ n, (E n).mov = true := by intro _; rfl) : WLc g L (Itr lo n) (gName i) tt te [i] σ C := fun H z Q q D hD => by
  have hjl : j < L.length := (List.getElem?_eq_some_iff.mp hj).1
  have hi : ∀ (e : Addr × Ent × Bool) (o : HO), (L.set j e ++ [(D, Ent.ob o, true)])[L.length]? = some (D, Ent.ob o, true) := fun e o => by
    rw [List.getElem?_append_right (by rw [List.length_set]; exact Nat.le_refl _), List.length_set, Nat.sub_self]
    rfl
  refine lc_range (lo := lo) (n := n) (fun k H => ∃ ys : List Int, ys.length = k ∧ (∀ y ∈ ys, P y) ∧ At g (L.set j (a, E (n0 + c * k), true) ++ [(D, .ob (.lst (ys.map V.int)), true)]) H) ⟨[], rfl, fun y h => (by cases h), ?_⟩ (fun k H hk ⟨ys, h1, h2, z⟩ => ?_) fun H ⟨ys, h1, h2, z⟩ => q _ _ _ (cc D ys h1 h2) z
  · rw [Nat.mul_zero, Nat.add_zero, set_self hj]
    exact z.upd_new hD
  · refine ⟨wipe1 σ i _, ?_⟩
    refine hs k _ hk rfl D _ H z _ fun b L2 H2 ⟨eb, kk⟩ z2 => ?_
    subst eb
    show te _ _ _
    refine kk H2 z2 _ fun y L3 H3 ⟨⟨v, ey, hv⟩, d, hd, hpre⟩ z3 => ?_
    subst ey
    have z4 := z3.pre hpre
    refine ⟨ys.map V.int, z4.get (hi _ _), by rw [List.length_map, h1]; exact Nat.lt_of_lt_of_le (Nat.lt_of_lt_of_le hk hl) (by decide), ys ++ [v], by simp [h1], fun y hy => ?_, ?_⟩
    · rcases List.mem_append.mp hy with h | h
      · exact h2 y h
      · have : y = v := by simpa using h
        exact this ▸ hv
    · have z5 := z4.upd_chg (o := .lst (ys.map V.int ++ [.int v])) (hi _ _)
      have e1 : (L.set j (a, E (n0 + c * k + d), true) ++ [(D, Ent.ob (.lst (ys.map V.int)), true)]).set L.length (D, Ent.ob (.lst (ys.map V.int ++ [.int v])), true) = L.set j (a, E (n0 + c * k + d), true) ++ [(D, Ent.ob (.lst (ys.map V.int ++ [.int v])), true)] := by
        rw [List.set_append_right _ _ (by rw [List.length_set]; exact Nat.le_refl _), List.length_set, Nat.sub_self]
        rfl
      rw [e1] at z5
      have hj2 : (L.set j (a, E (n0 + c * k + d), true) ++ [(D, Ent.ob (.lst (ys.map V.int ++ [.int v])), true)])[j]? = some (a, E (n0 + c * k + d), true) := by
        rw [List.getElem?_append_left (by rw [List.length_set]; exact hjl), List.getElem?_set_self hjl]
      have z6 := z5.weak (i := j) (e' := E (n0 + c * (k + 1))) hj2 (fun _ o ho => hE (by have : c * (k + 1) = c * k + c := Nat.mul_succ c k; omega) ho) (hEm _)
      rw [List.set_append_left _ _ (by rw [List.length_set]; exact hjl), List.set_set] at z6
      rw [List.map_append]
      exact z6
end
section
variable {g : Gr} {L : Led} {σ : St} {C C' : V → Led → Prop} {tt : TT} {te : TE} {i : Nat}
theorem wlc_mono {J : It} {tg : TG} {vs : List Nat} (h : WLc g L J tg tt te vs σ C') (k : ∀ v L', C' v L' → ∃ L'', C v L'' ∧ ∀ H, At g L' H → At g L'' H) : WLc g L J tg tt te vs σ C :=
  fun H z Q q => h H z Q fun v L' H' c z' => let ⟨L'', c', w⟩ := k v L' c; q v L'' H' c' (w H' z')
theorem lc_RDN (E : Nat → Ent) (hE : ∀ {n m : Nat} {H : Hp} {o : HO}, n ≤ m → (E n).In H o → (E m).In H o) {lo : Int} {n : Nat} (j c N : Nat) {a : Addr} {n0 : Nat} (P : Int → Prop) (hj : L[j]? = some (a, E n0, true)) (hN : n ≤ N) (hl : N ≤ 99999)
    (hs : ∀ (k : Nat) (x : Int), k < n → x = lo + (k : Int) → ∀ (D : Addr) (acc : List V), Wp g (L.set j (a, E (n0 + c * k), true) ++ [(D, .ob (.lst acc), true)]) (tt ((wipe σ [i]).set i (some (.int x)))) fun b L2 => b = true ∧
      Wp g L2 (te ((wipe σ [i]).set i (some (.int x)))) fun y L3 => (∃ v : Int, y = .int v ∧ P v) ∧ ∃ d, d ≤ c ∧ (L.set j (a, E (n0 + c * k + d), true) ++ [(D, .ob (.lst acc), true)]) <+: L3)
    (cc : ∀ (D : Addr) (ys : List Int), ys.length ≤ N → (∀ y ∈ ys, P y) → C (.ref D) (L.set j (a, E (n0 + c * N), true) ++ [(D, .ob (.lst (ys.map V.int)), true)])) (hEm : ∀ n, (E n).mov = true := by intro _; rfl) : WLc g L (Itr lo n) (gName i) tt te [i] σ C := by
  have hjl : j < L.length := (List.getElem?_eq_some_iff.mp hj).1
  refine wlc_mono (C' := fun v L' => ∃ D ys, v = .ref D ∧ ys.length = n ∧ (∀ y ∈ ys, P y) ∧ L' = L.set j (a, E (n0 + c * n), true) ++ [(D, .ob (.lst (ys.map V.int)), true)]) (lc_RD E hE j c P hj (by omega) hs (fun D ys h1 h2 => ⟨D, ys, rfl, h1, h2, rfl⟩) hEm) ?_
  rintro v L' ⟨D, ys, rfl, h1, h2, rfl⟩
  refine ⟨_, cc D ys (by omega) h2, fun H z => ?_⟩
  have hj2 : (L.set j (a, E (n0 + c * n), true) ++ [(D, Ent.ob (.lst (ys.map V.int)), true)])[j]? = some (a, E (n0 + c * n), true) := by
    rw [List.getElem?_append_left (by rw [List.length_set]; exact hjl), List.getElem?_set_self hjl]
  have z6 := z.weak (i := j) (e' := E (n0 + c * N)) hj2 (fun _ o ho => hE (by have := Nat.mul_le_mul_left c hN; omega) ho) (hEm _)
  rw [List.set_append_left _ _ (by rw [List.length_set]; exact hjl), List.set_set] at z6
  exact z6
end
/-! ### x or y by truth; a list times an int -/
section
variable {K : PySem.W.Frag} {g : Gr} {L : Led} {σ : St} {C : V → Led → Prop} {ta tb : TE}
theorem wp_orTN (h : Wp g L (ta σ) fun x L1 => x = .non ∧ Wp g L1 (tb σ) C) : Wp g L (tOrT K ta tb σ) C :=
  fun H a Q q => h H a _ fun x L1 H1 ⟨e, k⟩ a1 => ⟨false, by subst e; exact rfl, k H1 a1 Q q⟩
theorem wp_orT0 (h : Wp g L (ta σ) fun x L1 => ∃ n : Int, x = .int n ∧ C (.int n) L1) : Wp g L (tOrT K ta (tC (.int 0)) σ) C :=
  fun H a Q q => h H a _ fun x L1 H1 ⟨n, e, c⟩ a1 => ⟨n != 0, by subst e; exact rfl, by
    subst e
    by_cases hn : n = 0
    · subst hn
      exact q _ _ _ c a1
    · rw [if_pos (by simpa using hn)]
      exact q _ _ _ c a1⟩
theorem wr_rep {l : Addr} {k : Int} {xs : List V} {bo : Bool} (i : Nat) (h : L[i]? = some (l, .ob (.lst xs), bo)) (h1 : 0 ≤ k ∧ k < 2 ^ 63) (h2 : xs.length * k.toNat ≤ 100000)
    (c : ∀ p, C (.ref p) (L ++ [(p, .ob (.lst (List.replicate k.toNat xs).flatten), true)])) : Wp g L (rRep (.ref l) (.int k)) C :=
  fun H z Q q => ⟨l, k, xs, rfl, rfl, z.get h, by omega, h1.2, Nat.le_trans h2 (by decide), fun p hp => q _ _ _ (c p) (z.upd_new hp)⟩
end
end Kr

set_option Elab.async false
set_option linter.all false
set_option maxRecDepth 100000
set_option maxHeartbeats 1000000
namespace Kr
open PySem L2
theorem ix_tupK {X : Cx} {Kf : PySem.W.Frag} (hK : X.K = Kf) : IxR X (rIxT Kf) := hK ▸ ix_tup
theorem ix_listK {X : Cx} {Kf : PySem.W.Frag} (hK : X.K = Kf) : IxR X (rIxL Kf) := hK ▸ ix_list
theorem c_lenK {X : Cx} {Kf : PySem.W.Frag} (hK : X.K = Kf) : CallR X (.builtin "len") (rLen Kf) := hK ▸ c_len
theorem pg_tupK {X : Cx} {Kf : PySem.W.Frag} {es : List Expr} {k : Nat} {pos : Pos} {t : TGs} {n : Nat} (hK : X.K = Kf) (hc : X.calm = true) (h : PGs X es t) (hn : (assignEach es X.env).length = n) (hst : (assignEach es X.env).findIdx? (·.1) = none := by rfl) : PG X (.Tuple es k pos) (gTup Kf n t) := hK ▸ pg_tup hc h hn hst
/-! ### what an iterator hands on, item by item -/
structure Iter {α : Type} (g : Gr) (L : Led) (J : It) (tg : TG) (xs : List α) (S : α → St → St) : Prop where
  at_ : ∀ H, At g L H → J.stop xs.length H ∧ ∀ i x, xs[i]? = some x → J.go i H ∧ ∀ v H', J.yld i H v H' → Same H H' ∧ ∀ σ (Q : St → Hp → Prop), Q (S x σ) H' → tg v σ H' Q
/-- several names at once -/
def setL : List Nat → List V → St → St
  | i :: is, v :: vs, σ => setL is vs (σ.set i (some v))
  | _, _, σ => σ
def gNames : List Nat → TGs
  | [] => gNil
  | i :: is => gCons (gName i) (gNames is)
theorem gNames_ok : ∀ (is : List Nat) (vs : List V) {σ : St} {H : Hp} {Q : St → Hp → Prop}, is.length = vs.length → Q (setL is vs σ) H → gNames is vs σ H Q
  | [], [], _, _, _, _, q => ⟨rfl, q⟩
  | [], _ :: _, _, _, _, h, _ => by cases h
  | _ :: _, [], _, _, _, h, _ => by cases h
  | i :: is, v :: vs, σ, H, Q, h, q => ⟨v, vs, rfl, gNames_ok is vs (by simpa using h) q⟩
section
variable {α : Type} {g : Gr} {L : Led} {a : Addr} {i : Nat} {Kf : PySem.W.Frag} {bo : Bool}
theorem same_refl {H : Hp} : Same H H := fun _ _ h => h
theorem iter_rng {lo : Int} {n : Nat} : Iter g L (Itr lo n) (gName i) (rngI lo n) (fun x σ => σ.set i (some (.int x))) := ⟨fun H z => by
  refine ⟨show n ≤ (rngI lo n).length by rw [rngI_len]; exact Nat.le_refl _, fun k x hx => ?_⟩
  have hk : k < n := by
    have := (List.getElem?_eq_some_iff.mp hx).1
    rw [rngI_len] at this
    exact this
  rw [rngI_get hk] at hx
  have hx := Option.some.inj hx
  subst hx
  refine ⟨hk, fun v H' hy => ?_⟩
  obtain ⟨e1, e2⟩ := hy
  subst e1 e2
  exact ⟨same_refl, fun σ Q q => q⟩⟩
theorem iter_list (T : α → V) {xs : List α} (s : Seen Kf g L a (xs.map T)) : Iter g L (Itl Kf a) (gName i) xs (fun x σ => σ.set i (some (T x))) := ⟨fun H z => by
  have hs := s.at_ H z
  refine ⟨⟨_, hs, by rw [List.length_map]; exact Nat.le_refl _⟩, fun k x hx => ?_⟩
  have hx2 : (xs.map T)[k]? = some (T x) := by rw [List.getElem?_map, hx]; rfl
  refine ⟨⟨_, _, hs, hx2⟩, fun v H' hy => ?_⟩
  obtain ⟨e1, e2⟩ := hy
  subst e1
  have e3 := e2 _ hs
  rw [hx2] at e3
  have e3 := Option.some.inj e3
  subst e3
  exact ⟨same_refl, fun σ Q q => q⟩⟩
theorem iter_rev (T : α → V) {xs : List α} {n : Nat} (hn : n = xs.length) (s : Seen Kf g L a (xs.map T)) : Iter g L (Itv Kf a n) (gName i) xs.reverse (fun x σ => σ.set i (some (T x))) := ⟨fun H z => by
  have hs := s.at_ H z
  refine ⟨show n ≤ _ by rw [List.length_reverse, hn]; exact Nat.le_refl _, fun k x hx => ?_⟩
  have hk : k < n := by
    have := (List.getElem?_eq_some_iff.mp hx).1
    rw [List.length_reverse] at this
    omega
  have hx2 : (xs.map T)[n - 1 - k]? = some (T x) := by
    rw [List.getElem?_reverse (by omega)] at hx
    rw [List.getElem?_map, hn, hx]
    rfl
  refine ⟨⟨hk, _, _, hs, hx2⟩, fun v H' hy => ?_⟩
  obtain ⟨e1, e2⟩ := hy
  subst e1
  have e3 := e2 _ hs
  rw [hx2] at e3
  have e3 := Option.some.inj e3
  subst e3
  exact ⟨same_refl, fun σ Q q => q⟩⟩
/-- a list of tuples -/
theorem iter_rows (is : List Nat) (row : α → List V) {xs : List α} {n : Nat} (j : Nat) (hj : L[j]? = some (a, .rows (xs.map row), bo)) (hn : ∀ x, (row x).length = n) (hi : is.length = n) :
    Iter g L (Itl Kf a) (gTup Kf n (gNames is)) xs (fun x σ => setL is (row x) σ) := ⟨fun H z => by
  obtain ⟨o, h1, as, e1, hl, hr⟩ := z.look hj
  subst e1
  rw [List.length_map] at hl
  have hs : SqL Kf H a (as.map V.ref) := SqL.of h1
  refine ⟨⟨_, hs, by rw [List.length_map, hl]; exact Nat.le_refl _⟩, fun k x hx => ?_⟩
  have hk : k < as.length := by
    have := (List.getElem?_eq_some_iff.mp hx).1
    omega
  have hx2 : (as.map V.ref)[k]? = some (.ref as[k]) := by rw [List.getElem?_map, List.getElem?_eq_getElem hk]; rfl
  have hx3 := hr k as[k] (row x) (List.getElem?_eq_getElem hk) (by rw [List.getElem?_map, hx]; rfl)
  refine ⟨⟨_, _, hs, hx2⟩, fun v H' hy => ?_⟩
  obtain ⟨e1, e2⟩ := hy
  subst e1
  have e3 := e2 _ hs
  rw [hx2] at e3
  have e3 := Option.some.inj e3
  subst e3
  exact ⟨same_refl, fun σ Q q => ⟨_, _, rfl, SqT.of hx3, hn x, gNames_ok is (row x) (by rw [hi, hn]) q⟩⟩⟩
theorem iter_revrows (is : List Nat) (row : α → List V) {xs : List α} {n m : Nat} (hm : m = xs.length) (j : Nat) (hj : L[j]? = some (a, .rows (xs.map row), bo)) (hn : ∀ x, (row x).length = n) (hi : is.length = n) :
    Iter g L (Itv Kf a m) (gTup Kf n (gNames is)) xs.reverse (fun x σ => setL is (row x) σ) := ⟨fun H z => by
  obtain ⟨o, h1, as, e1, hl, hr⟩ := z.look hj
  subst e1
  rw [List.length_map] at hl
  have hs : SqL Kf H a (as.map V.ref) := SqL.of h1
  refine ⟨show m ≤ _ by rw [List.length_reverse, hm]; exact Nat.le_refl _, fun k x hx => ?_⟩
  have hk0 : k < m := by
    have := (List.getElem?_eq_some_iff.mp hx).1
    rw [List.length_reverse] at this
    omega
  rw [List.getElem?_reverse (by omega), ← hm] at hx
  have hk : m - 1 - k < as.length := by omega
  have hx2 : (as.map V.ref)[m - 1 - k]? = some (.ref as[m - 1 - k]) := by rw [List.getElem?_map, List.getElem?_eq_getElem hk]; rfl
  have hx3 := hr (m - 1 - k) as[m - 1 - k] (row x) (List.getElem?_eq_getElem hk) (by rw [List.getElem?_map, hx]; rfl)
  refine ⟨⟨hk0, _, _, hs, hx2⟩, fun v H' hy => ?_⟩
  obtain ⟨e1, e2⟩ := hy
  subst e1
  have e3 := e2 _ hs
  rw [hx2] at e3
  have e3 := Option.some.inj e3
  subst e3
  exact ⟨same_refl, fun σ Q q => ⟨_, _, rfl, SqT.of hx3, hn x, gNames_ok is (row x) (by rw [hi, hn]) q⟩⟩⟩
/-- enumerate(list) -/
theorem iter_enum (i1 i2 : Nat) (T : α → V) {xs : List α} (s : Seen Kf g L a (xs.map T)) : Iter g L (Ite Kf a) (gTup Kf 2 (gNames [i1, i2])) xs.zipIdx (fun x σ => (σ.set i1 (some (.int (x.2 : Nat)))).set i2 (some (T x.1))) := ⟨fun H z => by
  have hs := s.at_ H z
  refine ⟨⟨_, hs, by rw [List.length_map, List.length_zipIdx]; exact Nat.le_refl _⟩, fun k x hx => ?_⟩
  rw [List.getElem?_zipIdx] at hx
  cases hq : xs[k]? with
  | none => rw [hq] at hx; cases hx
  | some y =>
    rw [hq] at hx
    have hx : (y, 0 + k) = x := Option.some.inj hx
    subst hx
    have hx2 : (xs.map T)[k]? = some (T y) := by rw [List.getElem?_map, hq]; rfl
    refine ⟨⟨_, _, hs, hx2⟩, fun v H' hy => ?_⟩
    obtain ⟨t, w, e1, e2, e3, e4⟩ := hy
    have e5 := e4 _ hs
    rw [hx2] at e5
    have e5 := Option.some.inj e5
    subst e5 e1 e3
    refine ⟨fun c u h => by rw [upd_ne (ne_of_none h e2)]; exact h, fun σ Q q => ⟨t, _, rfl, SqT.of upd_same, rfl, ?_⟩⟩
    refine gNames_ok [i1, i2] [.int (k : Nat), T y] rfl ?_
    have e6 : (0 + k : Nat) = k := Nat.zero_add k
    have q : Q ((σ.set i1 (some (.int ((0 + k : Nat) : Int)))).set i2 (some (T y))) _ := q
    rw [e6] at q
    exact q⟩
end
/-! ### loops -/
section
variable {α : Type} {g : Gr} {L : Led} {σ : St} {K : Ks} {tg : TG} {tb : TS} {J : It} {xs : List α} {S : α → St → St}
/-- a general word -/
theorem wf_G (I : Nat → St → Led → Prop) (it : ∀ i σ L, I i σ L → Iter g L J tg xs S) (h0 : I 0 σ L)
    (hs : ∀ i x σ L, xs[i]? = some x → I i σ L → Ws g L tb (S x σ) { K with nx := fun σ' L' => ∃ L3, I (i + 1) σ' L3 ∧ L3 <+: L', ct := fun σ' L' => ∃ L3, I (i + 1) σ' L3 ∧ L3 <+: L', bk := K.nx })
    (hd : ∀ σ L, I xs.length σ L → K.nx σ L) : WFor g L J tg tb σ K := fun H z D e => by
  refine ⟨fun i m σ H => i ≤ xs.length ∧ m = xs.length - i ∧ ∃ L, I i σ L ∧ At g L H, ⟨xs.length, Nat.zero_le _, rfl, L, h0, z⟩, ?_⟩
  rintro i m σ H ⟨hi, rfl, L, k, z⟩
  obtain ⟨h1, h2⟩ := (it i σ L k).at_ H z
  by_cases hlt : i < xs.length
  · obtain ⟨h3, h4⟩ := h2 i xs[i] (List.getElem?_eq_getElem hlt)
    refine .inr ⟨h3, fun σ' H' => ∃ L, I (i + 1) σ' L ∧ At g L H', fun σ' H' q => ⟨xs.length - (i + 1), by omega, hlt, rfl, q⟩, fun v H' y => ?_⟩
    obtain ⟨h5, h6⟩ := h4 v H' y
    refine h6 σ _ ?_
    have kk : ∀ σ' L' H', (∃ L3, I (i + 1) σ' L3 ∧ L3 <+: L') → At g L' H' → ∃ L, I (i + 1) σ' L ∧ At g L H' := fun σ' L' H' ⟨L3, hi, hp⟩ z' => ⟨L3, hi, z'.pre hp⟩
    exact hs i xs[i] σ L (List.getElem?_eq_getElem hlt) k H' (z.same h5) _ ⟨kk, e.rt, e.nx, kk⟩
  · have e1 : i = xs.length := by omega
    subst e1
    exact .inl ⟨h1, e.nx _ _ _ (hd σ L k) z⟩
/-- the ledger as at the start -/
theorem wf_S (it : Iter g L J tg xs S) (I : Nat → List (Option (Option V)) → Prop) (h0 : ∃ vs, σ = putA σ vs ∧ I 0 vs)
    (hs : ∀ i x vs, xs[i]? = some x → I i vs → Ws g L tb (S x (putA σ vs)) { K with nx := fun σ' L' => ∃ vs', (σ' = putA σ vs' ∧ I (i + 1) vs') ∧ L <+: L', ct := fun σ' L' => ∃ vs', (σ' = putA σ vs' ∧ I (i + 1) vs') ∧ L <+: L', bk := K.nx })
    (hd : ∀ vs, I xs.length vs → K.nx (putA σ vs) L) : WFor g L J tg tb σ K := by
  obtain ⟨vs0, e0, k0⟩ := h0
  refine wf_G (xs := xs) (S := S) (fun i σ' L' => ∃ vs, (σ' = putA σ vs ∧ I i vs) ∧ L' = L) (fun i σ' L' ⟨vs, _, e⟩ => e ▸ it) ⟨vs0, ⟨e0, k0⟩, rfl⟩ ?_ ?_
  · rintro i x σ' L' hi ⟨vs, ⟨rfl, k⟩, rfl⟩
    intro H3 z3 D e
    have kk : ∀ σ' L'' H', (∃ vs', (σ' = putA σ vs' ∧ I (i + 1) vs') ∧ L' <+: L'') → At g L'' H' → D.nx σ' H' := fun σ' L'' H' ⟨vs', h1, h2⟩ z' => e.nx σ' L'' H' ⟨L', ⟨vs', h1, rfl⟩, h2⟩ z'
    have kc : ∀ σ' L'' H', (∃ vs', (σ' = putA σ vs' ∧ I (i + 1) vs') ∧ L' <+: L'') → At g L'' H' → D.ct σ' H' := fun σ' L'' H' ⟨vs', h1, h2⟩ z' => e.ct σ' L'' H' ⟨L', ⟨vs', h1, rfl⟩, h2⟩ z'
    exact hs i x vs hi k H3 z3 D ⟨kk, e.rt, e.bk, kc⟩
  · rintro σ' L' ⟨vs, ⟨rfl, k⟩, rfl⟩
    exact hd vs k
/-- one own object grows -/
theorem wf_A (j : Nat) {a : Addr} {e0 : Ent} (hj : L[j]? = some (a, e0, true)) (it : ∀ e, Iter g (L.set j (a, e, true)) J tg xs S) (I : Nat → List (Option (Option V)) → Ent → Prop) (h0 : ∃ vs, σ = putA σ vs ∧ I 0 vs e0)
    (hs : ∀ i x vs e, xs[i]? = some x → I i vs e → Ws g (L.set j (a, e, true)) tb (S x (putA σ vs)) { K with nx := fun σ' L' => ∃ vs' e', (σ' = putA σ vs' ∧ I (i + 1) vs' e') ∧ L.set j (a, e', true) <+: L', ct := fun σ' L' => ∃ vs' e', (σ' = putA σ vs' ∧ I (i + 1) vs' e') ∧ L.set j (a, e', true) <+: L', bk := K.nx })
    (hd : ∀ vs e, I xs.length vs e → K.nx (putA σ vs) (L.set j (a, e, true))) : WFor g L J tg tb σ K := by
  obtain ⟨vs0, e0', k0⟩ := h0
  refine wf_G (xs := xs) (S := S) (fun i σ' L' => ∃ vs e, (σ' = putA σ vs ∧ I i vs e) ∧ L' = L.set j (a, e, true)) (fun i σ' L' ⟨vs, e, _, q⟩ => q ▸ it e) ⟨vs0, _, ⟨e0', k0⟩, (set_self hj).symm⟩ ?_ ?_
  · rintro i x σ' L' hi ⟨vs, en, ⟨rfl, k⟩, rfl⟩
    intro H3 z3 D e
    have kk : ∀ σ' L'' H', (∃ vs' e', (σ' = putA σ vs' ∧ I (i + 1) vs' e') ∧ L.set j (a, e', true) <+: L'') → At g L'' H' → D.nx σ' H' := fun σ' L'' H' ⟨vs', e', h1, h2⟩ z' => e.nx σ' L'' H' ⟨_, ⟨vs', e', h1, rfl⟩, h2⟩ z'
    have kc : ∀ σ' L'' H', (∃ vs' e', (σ' = putA σ vs' ∧ I (i + 1) vs' e') ∧ L.set j (a, e', true) <+: L'') → At g L'' H' → D.ct σ' H' := fun σ' L'' H' ⟨vs', e', h1, h2⟩ z' => e.ct σ' L'' H' ⟨_, ⟨vs', e', h1, rfl⟩, h2⟩ z'
    exact hs i x vs en hi k H3 z3 D ⟨kk, e.rt, e.bk, kc⟩
  · rintro σ' L' ⟨vs, en, ⟨rfl, k⟩, rfl⟩
    exact hd vs en k
/-- draws are counted -/
theorem wf_D (E : Nat → Ent) (hE : ∀ {n m : Nat} {H : Hp} {o : HO}, n ≤ m → (E n).In H o → (E m).In H o) (j c : Nat) {a : Addr} {n0 : Nat} (hj : L[j]? = some (a, E n0, true)) (it : ∀ e, Iter g (L.set j (a, e, true)) J tg xs S) (I : Nat → List (Option (Option V)) → Prop) (h0 : ∃ vs, σ = putA σ vs ∧ I 0 vs)
    (hs : ∀ i x vs, xs[i]? = some x → I i vs → Ws g (L.set j (a, E (n0 + c * i), true)) tb (S x (putA σ vs)) { K with nx := fun σ' L' => ∃ vs', (σ' = putA σ vs' ∧ I (i + 1) vs') ∧ ∃ k, k ≤ c ∧ L.set j (a, E (n0 + c * i + k), true) <+: L', ct := fun σ' L' => ∃ vs', (σ' = putA σ vs' ∧ I (i + 1) vs') ∧ ∃ k, k ≤ c ∧ L.set j (a, E (n0 + c * i + k), true) <+: L', bk := K.nx })
    (hd : ∀ vs, I xs.length vs → K.nx (putA σ vs) (L.set j (a, E (n0 + c * xs.length), true))) (hEm : ∀ n, (E n).mov = true := by intro _; rfl) : WFor g L J tg tb σ K := fun H z D e => by
  have hjl : j < L.length := (List.getElem?_eq_some_iff.mp hj).1
  have hse : L.set j (a, E (n0 + c * 0), true) = L := by
    rw [Nat.mul_zero, Nat.add_zero]
    exact set_self hj
  obtain ⟨vs0, e0, k0⟩ := h0
  refine ⟨fun i m σ' H' => i ≤ xs.length ∧ m = xs.length - i ∧ ∃ vs, (σ' = putA σ vs ∧ I i vs) ∧ At g (L.set j (a, E (n0 + c * i), true)) H', ⟨xs.length, Nat.zero_le _, rfl, vs0, ⟨e0, k0⟩, hse.symm ▸ z⟩, ?_⟩
  rintro i m σ' H ⟨hi, rfl, vs, ⟨rfl, k⟩, z⟩
  obtain ⟨h1, h2⟩ := (it (E (n0 + c * i))).at_ H z
  by_cases hlt : i < xs.length
  · obtain ⟨h3, h4⟩ := h2 i xs[i] (List.getElem?_eq_getElem hlt)
    refine .inr ⟨h3, fun σ' H' => ∃ vs, (σ' = putA σ vs ∧ I (i + 1) vs) ∧ At g (L.set j (a, E (n0 + c * (i + 1)), true)) H', fun σ' H' q => ⟨xs.length - (i + 1), by omega, hlt, rfl, q⟩, fun v H' y => ?_⟩
    obtain ⟨h5, h6⟩ := h4 v H' y
    refine h6 _ _ ?_
    have kk : ∀ σ' L'' H', (∃ vs', (σ' = putA σ vs' ∧ I (i + 1) vs') ∧ ∃ k, k ≤ c ∧ L.set j (a, E (n0 + c * i + k), true) <+: L'') → At g L'' H' → ∃ vs, (σ' = putA σ vs ∧ I (i + 1) vs) ∧ At g (L.set j (a, E (n0 + c * (i + 1)), true)) H' := fun σ' L'' H' ⟨vs', h1, kd, hk, h2⟩ z' => by
      refine ⟨vs', h1, ?_⟩
      have z3 := z'.pre h2
      have z4 := z3.weak (i := j) (e' := E (n0 + c * (i + 1))) (List.getElem?_set_self hjl) (fun _ o ho => hE (by have : c * (i + 1) = c * i + c := Nat.mul_succ c i; omega) ho) (hEm _)
      rw [List.set_set] at z4
      exact z4
    exact hs i xs[i] vs (List.getElem?_eq_getElem hlt) k H' (z.same h5) _ ⟨kk, e.rt, e.nx, kk⟩
  · have e1 : i = xs.length := by omega
    subst e1
    exact .inl ⟨h1, e.nx _ _ _ (hd vs k) z⟩
/-- draws are counted, and an object of the last turn stays -/
theorem wf_DX (E : Nat → Ent) (hE : ∀ {n m : Nat} {H : Hp} {o : HO}, n ≤ m → (E n).In H o → (E m).In H o) (j c : Nat) {a : Addr} {n0 : Nat} (hj : L[j]? = some (a, E n0, true)) (it : ∀ e, Iter g (L.set j (a, e, true)) J tg xs S) (I : Nat → List (Option (Option V)) → Option (Addr × Ent × Bool) → Prop) (h0 : ∃ vs, σ = putA σ vs ∧ I 0 vs none)
    (hs : ∀ i x vs ex, xs[i]? = some x → I i vs ex → Ws g (L.set j (a, E (n0 + c * i), true)) tb (S x (putA σ vs)) { K with nx := fun σ' L' => ∃ vs' ex', (σ' = putA σ vs' ∧ I (i + 1) vs' ex') ∧ ∃ k, k ≤ c ∧ L.set j (a, E (n0 + c * i + k), true) <+: L' ∧ ∀ x, ex' = some x → ∃ q, L.length ≤ q ∧ L'[q]? = some x, ct := fun σ' L' => ∃ vs' ex', (σ' = putA σ vs' ∧ I (i + 1) vs' ex') ∧ ∃ k, k ≤ c ∧ L.set j (a, E (n0 + c * i + k), true) <+: L' ∧ ∀ x, ex' = some x → ∃ q, L.length ≤ q ∧ L'[q]? = some x, bk := K.nx })
    (hd : ∀ vs ex, I xs.length vs ex → K.nx (putA σ vs) (L.set j (a, E (n0 + c * xs.length), true) ++ ex.toList)) (hEm : ∀ n, (E n).mov = true := by intro _; rfl) : WFor g L J tg tb σ K := fun H z D e => by
  have hjl : j < L.length := (List.getElem?_eq_some_iff.mp hj).1
  have hse : L.set j (a, E (n0 + c * 0), true) = L := by
    rw [Nat.mul_zero, Nat.add_zero]
    exact set_self hj
  obtain ⟨vs0, e0, k0⟩ := h0
  refine ⟨fun i m σ' H' => i ≤ xs.length ∧ m = xs.length - i ∧ ∃ vs ex, (σ' = putA σ vs ∧ I i vs ex) ∧ At g (L.set j (a, E (n0 + c * i), true) ++ ex.toList) H', ⟨xs.length, Nat.zero_le _, rfl, vs0, none, ⟨e0, k0⟩, by rw [hse]; simpa using z⟩, ?_⟩
  rintro i m σ' H ⟨hi, rfl, vs, ex, ⟨rfl, k⟩, z0⟩
  have z := z0.pre (L := L.set j (a, E (n0 + c * i), true)) ⟨_, rfl⟩
  obtain ⟨h1, h2⟩ := (it (E (n0 + c * i))).at_ H z
  by_cases hlt : i < xs.length
  · obtain ⟨h3, h4⟩ := h2 i xs[i] (List.getElem?_eq_getElem hlt)
    refine .inr ⟨h3, fun σ' H' => ∃ vs ex, (σ' = putA σ vs ∧ I (i + 1) vs ex) ∧ At g (L.set j (a, E (n0 + c * (i + 1)), true) ++ ex.toList) H', fun σ' H' q => ⟨xs.length - (i + 1), by omega, hlt, rfl, q⟩, fun v H' y => ?_⟩
    obtain ⟨h5, h6⟩ := h4 v H' y
    refine h6 _ _ ?_
    have kk : ∀ σ' L'' H', (∃ vs' ex', (σ' = putA σ vs' ∧ I (i + 1) vs' ex') ∧ ∃ k, k ≤ c ∧ L.set j (a, E (n0 + c * i + k), true) <+: L'' ∧ ∀ x, ex' = some x → ∃ q, L.length ≤ q ∧ L''[q]? = some x) → At g L'' H' → ∃ vs ex, (σ' = putA σ vs ∧ I (i + 1) vs ex) ∧ At g (L.set j (a, E (n0 + c * (i + 1)), true) ++ ex.toList) H' := fun σ' L'' H' ⟨vs', ex', h1, kd, hk, h2, h3⟩ z' => by
      refine ⟨vs', ex', h1, ?_⟩
      have hsub : (L.set j (a, E (n0 + c * i + kd), true) ++ ex'.toList).Sublist L'' := by
        obtain ⟨r, hr⟩ := h2
        subst hr
        refine List.Sublist.append (List.Sublist.refl _) ?_
        cases ex' with
        | none => exact List.nil_sublist _
        | some x =>
          obtain ⟨q, hq, hx⟩ := h3 x rfl
          rw [List.getElem?_append_right (by rw [List.length_set]; exact hq)] at hx
          exact List.singleton_sublist.mpr (List.mem_of_getElem? hx)
      have z3 := z'.sub hsub
      have hg : (L.set j (a, E (n0 + c * i + kd), true) ++ ex'.toList)[j]? = some (a, E (n0 + c * i + kd), true) := by
        rw [List.getElem?_append_left (by rw [List.length_set]; exact hjl), List.getElem?_set_self hjl]
      have z4 := z3.weak (i := j) (e' := E (n0 + c * (i + 1))) hg (fun _ o ho => hE (by have : c * (i + 1) = c * i + c := Nat.mul_succ c i; omega) ho) (hEm _)
      rw [List.set_append_left _ _ (by rw [List.length_set]; exact hjl), List.set_set] at z4
      exact z4
    exact hs i xs[i] vs ex (List.getElem?_eq_getElem hlt) k H' (z.same h5) _ ⟨kk, e.rt, e.nx, kk⟩
  · have e1 : i = xs.length := by omega
    subst e1
    exact .inl ⟨h1, e.nx _ _ _ (hd vs ex k) z0⟩
/-- while: one own object grows -/
theorem ws_whileA {t1 : TS} {cT : TT} (j : Nat) {a : Addr} {e0 : Ent} (hj : L[j]? = some (a, e0, true)) (I : Nat → List (Option (Option V)) → Ent → Prop) (h0 : ∃ m vs, σ = putA σ vs ∧ I m vs e0)
    (hs : ∀ m vs e, I m vs e → Wp g (L.set j (a, e, true)) (cT (putA σ vs)) fun b L1 => if b = true then Ws g L1 t1 (putA σ vs) { K with nx := fun σ' L' => ∃ m' vs' e', m' < m ∧ (σ' = putA σ vs' ∧ I m' vs' e') ∧ L.set j (a, e', true) <+: L', ct := fun σ' L' => ∃ m' vs' e', m' < m ∧ (σ' = putA σ vs' ∧ I m' vs' e') ∧ L.set j (a, e', true) <+: L', bk := K.nx } else K.nx (putA σ vs) L1) :
    Ws g L (tWhile cT t1) σ K := by
  obtain ⟨m0, vs0, h1, h2⟩ := h0
  refine ws_whileN (fun m σ' L' => ∃ vs e, (σ' = putA σ vs ∧ I m vs e) ∧ L' = L.set j (a, e, true)) ⟨m0, vs0, e0, ⟨h1, h2⟩, (set_self hj).symm⟩ ?_
  rintro m σ' L' ⟨vs, en, ⟨rfl, k⟩, rfl⟩
  refine (hs m vs en k).mono fun b L1 q => ?_
  cases b with
  | true =>
    have q : Ws g L1 t1 _ _ := q
    show Ws g L1 t1 _ _
    intro H3 z3 D e
    have kk : ∀ σ' L'' H', (∃ m' vs' e', m' < m ∧ (σ' = putA σ vs' ∧ I m' vs' e') ∧ L.set j (a, e', true) <+: L'') → At g L'' H' → D.nx σ' H' := fun σ' L'' H' ⟨m', vs', e', h0, h1, h2⟩ z' => e.nx σ' L'' H' ⟨m', _, h0, ⟨vs', e', h1, rfl⟩, h2⟩ z'
    have kc : ∀ σ' L'' H', (∃ m' vs' e', m' < m ∧ (σ' = putA σ vs' ∧ I m' vs' e') ∧ L.set j (a, e', true) <+: L'') → At g L'' H' → D.ct σ' H' := fun σ' L'' H' ⟨m', vs', e', h0, h1, h2⟩ z' => e.ct σ' L'' H' ⟨m', _, h0, ⟨vs', e', h1, rfl⟩, h2⟩ z'
    exact q H3 z3 D ⟨kk, e.rt, e.bk, kc⟩
  | false => exact q
end
/-! ### comprehensions -/
section
variable {α : Type} {g : Gr} {L : Led} {σ : St} {C : V → Led → Prop} {tt : TT} {te : TE} {tg : TG} {J : It} {xs : List α} {S : α → St → St} {vs : List Nat}
/-- the list that grows is told by an entry of what it has -/
theorem lc_G {β : Type} (En : List β → Ent) (hmv : ∀ ys, (En ys).mov = true) (p : α → Bool) (f : α → β) (it : Iter g L J tg xs S) (hw : ∀ x, wipe (S x (wipe σ vs)) vs = wipe σ vs) (hl : xs.length ≤ 99999)
    (e0 : ∀ H, (En []).In H (.lst []))
    (hs : ∀ x, x ∈ xs → ∀ (D : Addr) (acc : List β), Wp g (L ++ [(D, En acc, true)]) (tt (S x (wipe σ vs))) fun b L2 => b = p x ∧
      if b = true then Wp g L2 (te (S x (wipe σ vs))) fun y L3 => (L ++ [(D, En acc, true)]) <+: L3 ∧ ∀ H, At g L3 H → ∃ ac, H D = some (.lst ac) ∧ ac.length = acc.length ∧ (En (acc ++ [f x])).In (upd H D (.lst (ac ++ [y]))) (.lst (ac ++ [y])) else (L ++ [(D, En acc, true)]) <+: L2)
    (c : ∀ D, C (.ref D) (L ++ [(D, En ((xs.filter p).map f), true)])) : WLc g L J tg tt te vs σ C := fun H z Q q D hD => by
  have hi : ∀ e : Ent, (L ++ [(D, e, true)])[L.length]? = some (D, e, true) := fun o => by simp
  have hsub : ∀ {e : Ent} {H : Hp}, At g (L ++ [(D, e, true)]) H → At g L H := fun z => z.pre ⟨_, rfl⟩
  refine ⟨fun i m H => i ≤ xs.length ∧ m = xs.length - i ∧ At g (L ++ [(D, En (((xs.take i).filter p).map f), true)]) H, ⟨xs.length, Nat.zero_le _, rfl, ?_⟩, ?_⟩
  · refine z.newE (fun c u e => by rw [upd_ne (ne_of_none e hD)]; exact e) hD upd_same ?_
    simpa using e0 _
  rintro i m H ⟨hi0, rfl, z⟩
  obtain ⟨h1, h2⟩ := it.at_ H (hsub z)
  by_cases hlt : i < xs.length
  · have hxi := List.getElem?_eq_getElem hlt
    obtain ⟨h3, h4⟩ := h2 i xs[i] hxi
    refine .inr ⟨h3, fun H' => At g (L ++ [(D, En (((xs.take (i + 1)).filter p).map f), true)]) H', fun H' q => ⟨xs.length - (i + 1), by omega, hlt, rfl, q⟩, fun v H' y => ?_⟩
    obtain ⟨h5, h6⟩ := h4 v H' y
    refine h6 _ _ ⟨hw _, ?_⟩
    have hacc := filter_take_succ p f hxi
    have hlen : (((xs.take i).filter p).map f).length < 100000 := by
      have := List.length_filter_le p (xs.take i)
      have h3 : (xs.take i).length ≤ xs.length := by simp; omega
      rw [List.length_map]
      omega
    generalize ((xs.take i).filter p).map f = acc at z hacc hlen
    refine hs xs[i] (List.mem_of_getElem? hxi) D acc H' (z.same h5) _ fun b L2 H2 ⟨eb, k⟩ z2 => ?_
    subst eb
    cases hp : p xs[i] with
    | true =>
      rw [hp] at k hacc
      have k : Wp g L2 _ _ := k
      refine k H2 z2 _ fun y L3 H3 ⟨hpre, hn⟩ z3 => ?_
      obtain ⟨ac, q1, q2, q3⟩ := hn H3 z3
      have z4 := z3.pre hpre
      refine ⟨ac, q1, by rw [q2]; exact Nat.lt_of_lt_of_le hlen (by decide), ?_⟩
      have z5 := z4.chg (e' := En (acc ++ [f xs[i]])) (H' := upd H3 D (.lst (ac ++ [y]))) (o := .lst (ac ++ [y])) (hi _) (fun c u e z => by rw [upd_ne z]; exact e) upd_same q3 (hmv _)
      rw [List.set_append_right _ _ (Nat.le_refl _), Nat.sub_self] at z5
      rw [hacc]
      exact z5
    | false =>
      rw [hp] at k hacc
      have k : _ <+: L2 := k
      have e2 : ((xs.take (i + 1)).filter p).map f = acc := by rw [hacc]; simp
      show At g _ H2
      rw [e2]
      exact z2.pre k
  · have e1 : i = xs.length := by omega
    subst e1
    rw [List.take_length] at z
    exact .inl ⟨h1, q _ _ _ (c D) z⟩
/-- a list of values -/
theorem lc_V {β : Type} (T : β → V) (p : α → Bool) (f : α → β) (it : Iter g L J tg xs S) (hw : ∀ x, wipe (S x (wipe σ vs)) vs = wipe σ vs) (hl : xs.length ≤ 99999)
    (hs : ∀ x, x ∈ xs → ∀ (D : Addr) (acc : List V), Wp g (L ++ [(D, .ob (.lst acc), true)]) (tt (S x (wipe σ vs))) fun b L2 => b = p x ∧
      if b = true then Wp g L2 (te (S x (wipe σ vs))) fun y L3 => y = T (f x) ∧ (L ++ [(D, .ob (.lst acc), true)]) <+: L3 else (L ++ [(D, .ob (.lst acc), true)]) <+: L2)
    (c : ∀ D, C (.ref D) (L ++ [(D, .ob (.lst (((xs.filter p).map f).map T)), true)])) : WLc g L J tg tt te vs σ C := by
  refine lc_G (fun ys => .ob (.lst (ys.map T))) (fun _ => rfl) p f it hw hl (fun _ => rfl) (fun x hx D acc => ?_) c
  refine (hs x hx D (acc.map T)).mono fun b L2 ⟨e, k⟩ => ⟨e, ?_⟩
  cases b with
  | true =>
    refine Wp.mono (show Wp g L2 _ _ from k) fun y L3 ⟨ey, hp⟩ => ⟨hp, fun H z => ?_⟩
    have hg := (z.pre hp).get (i := L.length) (a := D) (o := .lst (acc.map T)) (b := true) (by simp)
    subst ey
    refine ⟨_, hg, by rw [List.length_map], ?_⟩
    show HO.lst _ = HO.lst _
    rw [List.map_append]
    rfl
  | false => exact k
/-- a list of tuples -/
theorem rows_snoc {rs : List (List V)} {r : List V} {H : Hp} {D p : Addr} (h : (Ent.rows rs).In H (.lst ac)) (hD : H D = some (.lst ac)) (hp : H p = some (.tup r)) : (Ent.rows (rs ++ [r])).In (upd H D (.lst (ac ++ [.ref p]))) (.lst (ac ++ [.ref p])) := by
  obtain ⟨as, e, hl, h3⟩ := h
  have e : ac = as.map V.ref := by injection e
  subst e
  refine ⟨as ++ [p], by simp, by simp [hl], fun k a r' q1 q2 => ?_⟩
  have hne : H a = some (.tup r') → upd H D (.lst (as.map V.ref ++ [.ref p])) a = some (.tup r') := fun h => by
    rw [upd_ne]
    · exact h
    · intro z
      subst z
      rw [hD] at h
      cases h
  apply hne
  by_cases hk : k < as.length
  · rw [List.getElem?_append_left hk] at q1
    rw [List.getElem?_append_left (by omega)] at q2
    exact h3 k a r' q1 q2
  · rw [List.getElem?_append_right (by omega)] at q1
    rw [List.getElem?_append_right (by omega)] at q2
    rw [hl] at q1
    have hk0 : k - rs.length = 0 := by
      have := (List.getElem?_eq_some_iff.mp q1).1
      simp at this
      omega
    rw [hk0] at q1 q2
    have q1 : p = a := by simpa using q1
    have q2 : r = r' := by simpa using q2
    subst q1 q2
    exact hp
theorem lc_T {β : Type} (row : β → List V) (p : α → Bool) (f : α → β) (it : Iter g L J tg xs S) (hw : ∀ x, wipe (S x (wipe σ vs)) vs = wipe σ vs) (hl : xs.length ≤ 99999)
    (hs : ∀ x, x ∈ xs → ∀ (D : Addr) (acc : List (List V)), Wp g (L ++ [(D, .rows acc, true)]) (tt (S x (wipe σ vs))) fun b L2 => b = p x ∧
      if b = true then Wp g L2 (te (S x (wipe σ vs))) fun y L3 => (∃ (q : Addr) (j : Nat) (bo : Bool), y = .ref q ∧ L3[j]? = some (q, .ob (.tup (row (f x))), bo)) ∧ (L ++ [(D, .rows acc, true)]) <+: L3 else (L ++ [(D, .rows acc, true)]) <+: L2)
    (c : ∀ D, C (.ref D) (L ++ [(D, .rows (((xs.filter p).map f).map row), true)])) : WLc g L J tg tt te vs σ C := by
  refine lc_G (fun ys => .rows (ys.map row)) (fun _ => rfl) p f it hw hl (fun _ => ⟨[], rfl, rfl, fun k a r h => by simp at h⟩) (fun x hx D acc => ?_) c
  refine (hs x hx D (acc.map row)).mono fun b L2 ⟨e, k⟩ => ⟨e, ?_⟩
  cases b with
  | true =>
    refine Wp.mono (show Wp g L2 _ _ from k) fun y L3 ⟨⟨q, j, bo, ey, hq⟩, hp⟩ => ⟨hp, fun H z => ?_⟩
    obtain ⟨o, hg, hin⟩ := (z.pre hp).look (i := L.length) (a := D) (e := .rows (acc.map row)) (b := true) (by simp)
    subst ey
    obtain ⟨as, e1, hl1, h3⟩ := hin
    subst e1
    refine ⟨_, hg, by rw [List.length_map, hl1, List.length_map], ?_⟩
    show (Ent.rows ((acc ++ [f x]).map row)).In _ _
    rw [List.map_append]
    exact rows_snoc ⟨as, rfl, hl1, h3⟩ hg (z.get hq)
  | false => exact k
end
/-! ### lists of tuples -/
section
variable {K : PySem.W.Frag} {g : Gr} {L : Led} {σ : St} {C : V → Led → Prop} {a p : Addr} {bo : Bool} {Kz : Ks} {t : TS}
theorem rows_nil {H : Hp} {o : HO} (h : (Ent.ob (.lst [])).In H o) : (Ent.rows []).In H o := ⟨[], h, rfl, fun k a r h => by simp at h⟩
theorem ws_rows (i : Nat) (k : L[i]? = some (a, .ob (.lst []), bo)) (c : Ws g (L.set i (a, .rows [], bo)) t σ Kz) : Ws g L t σ Kz := ws_weak k (fun _ _ h => rows_nil h) c
theorem ty_rows {rs : List (List V)} (i : Nat) (h : L[i]? = some (a, .rows rs, bo)) : ∀ H, At g L H → tyV K "list" (.ref a) H := fun H z => by
  obtain ⟨o, h1, as, e1, _⟩ := z.look h
  subst e1
  exact .inl ⟨rfl, _, SqL.of h1⟩
theorem wr_appT {rs : List (List V)} {r : List V} (i j : Nat) (h : L[i]? = some (a, .rows rs, true)) (hj : L[j]? = some (p, .ob (.tup r), bo)) (hl : rs.length < 100000) (c : C .non (L.set i (a, .rows (rs ++ [r]), true))) : Wp g L (rAppend (.ref a) [.ref p]) C :=
  fun H z Q q => by
    obtain ⟨o, h1, as, e1, hl1, h3⟩ := z.look h
    subst e1
    refine ⟨a, _, .ref p, rfl, rfl, h1, Nat.lt_of_lt_of_le (by rw [List.length_map, hl1]; exact hl) (by decide), q _ _ _ c ?_⟩
    exact z.chg h (fun c u e z => by rw [upd_ne z]; exact e) upd_same (rows_snoc ⟨as, rfl, hl1, h3⟩ h1 (z.get hj))
theorem wc_lenR {rs : List (List V)} (i : Nat) (h : L[i]? = some (a, .rows rs, bo)) (c : C (.int (rs.length : Int)) L) : Wp g L (rLen K [.ref a]) C := .now (fun H _ z q => by
  obtain ⟨o, h1, as, e1, hl1, h3⟩ := z.look h
  subst e1
  exact ⟨a, _, rfl, .inl (SqL.of h1), by rw [List.length_map, hl1]; exact q⟩) c
/-- extend by a list -/
theorem wr_ext {a2 : Addr} {xs ys : List V} {b2 : Bool} (i j : Nat) (h1 : L[i]? = some (a, .ob (.lst xs), true)) (h2 : L[j]? = some (a2, .ob (.lst ys), b2)) (hl : xs.length + ys.length ≤ 100000)
    (c : C .non (L.set i (a, .ob (.lst (xs ++ ys)), true))) : Wp g L (rExtend (.ref a) [.ref a2]) C :=
  fun H z Q q => ⟨a, a2, xs, ys, rfl, rfl, z.get h1, z.get h2, Nat.le_trans hl (by decide), q _ _ _ c (z.upd_chg h1)⟩
/-- iterators -/
theorem wi_rows {te : TE} {T : It → Led → Prop} (j : Nat) (h : Wp g L (te σ) fun x L1 => ∃ (a : Addr) (bo : Bool) (rs : List (List V)), x = .ref a ∧ L1[j]? = some (a, .rows rs, bo) ∧ T (Itl K a) L1) : Wp g L (iList K te σ) T :=
  fun H z Q q => h H z _ fun x L1 H1 ⟨a, bo, rs, e, s, k⟩ z1 => by
    obtain ⟨o, h1, as, e1, _⟩ := z1.look s
    subst e1
    exact ⟨a, e, ⟨_, SqL.of h1⟩, q _ _ _ k z1⟩
theorem wi_enum {tr : TA} {T : It → Led → Prop} (h : Wp g L (tr σ) fun vs L1 => ∃ (a : Addr) (xs : List V), vs = [.ref a] ∧ Seen K g L1 a xs ∧ T (Ite K a) L1) : Wp g L (iEnum K tr σ) T :=
  fun H z Q q => h H z _ fun x L1 H1 ⟨a, xs, e, s, k⟩ z1 => ⟨a, xs, e, s.at_ H1 z1, q _ _ _ k z1⟩
theorem wi_rev {tr : TA} {T : It → Led → Prop} (h : Wp g L (tr σ) fun vs L1 => ∃ (a : Addr) (xs : List V), vs = [.ref a] ∧ Seen K g L1 a xs ∧ T (Itv K a xs.length) L1) : Wp g L (iRev K tr σ) T :=
  fun H z Q q => h H z _ fun x L1 H1 ⟨a, xs, e, s, k⟩ z1 => ⟨a, xs, e, s.at_ H1 z1, q _ _ _ k z1⟩
theorem wi_revrows {tr : TA} {T : It → Led → Prop} (j : Nat) (h : Wp g L (tr σ) fun vs L1 => ∃ (a : Addr) (bo : Bool) (rs : List (List V)), vs = [.ref a] ∧ L1[j]? = some (a, .rows rs, bo) ∧ T (Itv K a rs.length) L1) : Wp g L (iRev K tr σ) T :=
  fun H z Q q => h H z _ fun x L1 H1 ⟨a, bo, rs, e, s, k⟩ z1 => by
    obtain ⟨o, h1, as, e1, hl, _⟩ := z1.look s
    subst e1
    refine ⟨a, _, e, SqL.of h1, ?_⟩
    rw [List.length_map, hl]
    exact q _ _ _ k z1
end
/-! ### promises with lists of tuples -/
section
def kRows (R : List (List V) → Prop) : Ks := { nx := fun _ _ => False, rt := fun v L => ∃ (p : Addr) (i : Nat) (rs : List (List V)), v = .ref p ∧ L[i]? = some (p, Ent.rows rs, true) ∧ R rs }
theorem eo_Rows {H0 : Hp} {R : List (List V) → Prop} {Q : VK} (h : ∀ p H' rs, R rs → H0 p = none → Same H0 H' → EntAt (.rows rs) H' p → Q (.ref p) H') : Eo ⟨H0, fun _ => False⟩ (kRows R) { nx := fun _ H' => Q .non H', rt := Q } :=
  ⟨fun _ _ _ k _ => k.elim, fun v L H ⟨p, i, rs, e, k, r⟩ z => by
    subst e
    refine h p H rs r ?_ z.since (z.look k)
    rcases z.own _ (List.mem_of_getElem? k) rfl with q | q
    · exact q
    · exact q.elim, fun _ _ _ k _ => k.elim, fun _ _ _ k _ => k.elim⟩
theorem At.newEA {g : Gr} {L : Led} {H H' : Hp} {p : Addr} {e : Ent} (h : At g L H) (s : Same H H') (n : H p = none) (he : EntAt e H' p) : At g (L ++ [(p, e, true)]) H' := by
  obtain ⟨o, h1, h2⟩ := he
  exact h.newE s n h1 h2
end
theorem rng_of {lo x : Int} {n i : Nat} (h : (rngI lo n)[i]? = some x) : i < n ∧ x = lo + (i : Int) := by
  have hk : i < n := by
    have := (List.getElem?_eq_some_iff.mp h).1
    rw [rngI_len] at this
    exact this
  rw [rngI_get hk] at h
  exact ⟨hk, (Option.some.inj h).symm⟩
/-! ### x += e -/
theorem ws_aug {g : Gr} {L : Led} {σ : St} {K : Ks} {i : Nat} {m : Int} {f : Int → Int → Int} {te : TE} (h0 : σ[i]? = some (some (.int m))) (h : Wp g L (te σ) fun y L1 => ∃ n : Int, y = .int n ∧ K.nx (σ.set i (some (.int (f m n)))) L1) : Ws g L (tAug i te (ipI f)) σ K :=
  fun H z D e => ⟨_, h0, h H z _ fun y L1 H1 ⟨n, e1, k⟩ z1 => ⟨m, n, rfl, e1, e.nx _ _ _ k z1⟩⟩
/-! ### rows of ints -/
def row2 (x : Int × Int) : List V := [.int x.1, .int x.2]
def row3 (x : Int × Int × Int) : List V := [.int x.1, .int x.2.1, .int x.2.2]
def row4 (x : Int × Int × Int × Int) : List V := [.int x.1, .int x.2.1, .int x.2.2.1, .int x.2.2.2]
theorem app_row2 {xs : List (Int × Int)} {a b : Int} : xs.map row2 ++ [[V.int a, .int b]] = (xs ++ [(a, b)]).map row2 := by rw [List.map_append]; rfl
theorem app_row3 {xs : List (Int × Int × Int)} {a b c : Int} : xs.map row3 ++ [[V.int a, .int b, .int c]] = (xs ++ [(a, b, c)]).map row3 := by rw [List.map_append]; rfl
theorem app_row4 {xs : List (Int × Int × Int × Int)} {a b c d : Int} : xs.map row4 ++ [[V.int a, .int b, .int c, .int d]] = (xs ++ [(a, b, c, d)]).map row4 := by rw [List.map_append]; rfl
theorem app_ints {xs : List Int} {v : Int} : xs.map V.int ++ [V.int v] = (xs ++ [v]).map V.int := by rw [List.map_append]; rfl
/-- the first of a list, or None -/
def headV (ys : List Int) : V := match ys with
  | [] => .non
  | y :: _ => .int y
theorem headV_at (ys : List Int) : atI (ys.map V.int ++ [.non]) 0 = some (headV ys) := by
  cases ys with
  | nil => rfl
  | cons y r => exact at_of (j := 0) (by decide) rfl
end Kr

set_option Elab.async false
set_option linter.all false
set_option maxRecDepth 100000
set_option maxHeartbeats 1000000
/-! ### min(x, default=d), max(x, default=d), min(x) over data -/
namespace L2
open PySem PySem.Spec PyProof.Rows PySem.W
def rMinDf (K : PySem.W.Frag) : List V → List V → Hp → VK → Prop := fun vs zs H Q => ∃ (a : Addr) (xs : List V) (ds : List PyData) (d : V), vs = [.ref a] ∧ zs = [d] ∧ SqL K H a xs ∧ DpAll K H xs ds ∧ AlikeAll ds ∧ PyData.depthAll ds ≤ 60 ∧ (ds = [] → Q d H) ∧
  ∀ (i : Nat) (x : V) (y : PyData) (ys : List PyData), ds = y :: ys → xs[i]? = some x → ds[i]? = some (minD y ys) → Q x H
def rMaxDf (K : PySem.W.Frag) : List V → List V → Hp → VK → Prop := fun vs zs H Q => ∃ (a : Addr) (xs : List V) (ds : List PyData) (d : V), vs = [.ref a] ∧ zs = [d] ∧ SqL K H a xs ∧ DpAll K H xs ds ∧ AlikeAll ds ∧ PyData.depthAll ds ≤ 60 ∧ (ds = [] → Q d H) ∧
  ∀ (i : Nat) (x : V) (y : PyData) (ys : List PyData), ds = y :: ys → xs[i]? = some x → ds[i]? = some (maxD y ys) → Q x H
def rMinDt (K : PySem.W.Frag) : List V → Hp → VK → Prop := fun vs H Q => ∃ (a : Addr) (xs : List V) (y : PyData) (ys : List PyData), vs = [.ref a] ∧ SqL K H a xs ∧ DpAll K H xs (y :: ys) ∧ AlikeAll (y :: ys) ∧ PyData.depthAll (y :: ys) ≤ 60 ∧
  ∀ (i : Nat) (x : V), xs[i]? = some x → (y :: ys)[i]? = some (minD y ys) → Q x H
section
variable {X : Cx}
theorem vals_at {xs : List V} {us : List Value} {i : Nat} {u : Value} (r : Vals xs us) (h : us[i]? = some u) : ∃ x, xs[i]? = some x ∧ RelV x u := by
  cases hx : xs[i]? with
  | none =>
    rw [r.none_of hx] at h
    cases h
  | some x =>
    obtain ⟨v, h1, h2⟩ := r.get hx
    rw [h] at h1
    cases h1
    exact ⟨x, rfl, h2⟩
theorem item_data {h h' : Heap} {its : List Value} {ds : List PyData} {as : List Addr} {i : Nat} {v : Value} {d : PyData} {bs : List Addr} (hr : ReadsAll h its ds as) (hv : its[i]? = some v) (hk : ∀ b o, h.get? b = some o → h'.get? b = some o) (r : Reads h' v d bs) : ds[i]? = some d := by
  obtain ⟨cs, r1, hi, _, _⟩ := readsAll_at hr i v hv
  have r2 := reads_keeps hk r1
  have e := (r2.unique _ _ r).1
  rw [← e, List.getD_eq_getElem?_getD, List.getElem?_eq_getElem hi]
  rfl
theorem cr_minDf (hc : X.calm = true) (hu : X.A.units + 64 < cLine) : CallRK X (.builtin "min") ["default"] (rMinDf X.K) := by
  intro pins s σ H vs zs us ws Q I r1 r2 h
  obtain ⟨a, xs, ds, d, rfl, rfl, hs, hd, ha, hdep, h0, h1⟩ := h
  obtain ⟨its, rv, hl, _⟩ := I.list hs
  obtain ⟨as, hr⟩ := Dp.readsAll I ds xs its hd rv
  rw [Vals.ref1 r1]
  cases r2 with
  | cons rw rr =>
    cases rr
    refine min_list_default (vs := its.toArray) (xs := ds) (I.ok.hd hc) hl.isList (by simpa using hr) ha (by omega) (fun e h' tk hk => ⟨d, H, I.kept hk, rw, h0 e⟩) fun y ys i v h' tk bs e hv hrd hk => ?_
    have hv : its[i]? = some v := by simpa using hv
    obtain ⟨x, hx, rx⟩ := vals_at rv hv
    exact ⟨x, H, I.kept hk, rx, h1 i x y ys e hx (item_data hr hv hk hrd)⟩
theorem cr_maxDf (hc : X.calm = true) (hu : X.A.units + 64 < cLine) : CallRK X (.builtin "max") ["default"] (rMaxDf X.K) := by
  intro pins s σ H vs zs us ws Q I r1 r2 h
  obtain ⟨a, xs, ds, d, rfl, rfl, hs, hd, ha, hdep, h0, h1⟩ := h
  obtain ⟨its, rv, hl, _⟩ := I.list hs
  obtain ⟨as, hr⟩ := Dp.readsAll I ds xs its hd rv
  rw [Vals.ref1 r1]
  cases r2 with
  | cons rw rr =>
    cases rr
    refine max_list_default (vs := its.toArray) (xs := ds) (I.ok.hd hc) hl.isList (by simpa using hr) ha (by omega) (fun e h' tk hk => ⟨d, H, I.kept hk, rw, h0 e⟩) fun y ys i v h' tk bs e hv hrd hk => ?_
    have hv : its[i]? = some v := by simpa using hv
    obtain ⟨x, hx, rx⟩ := vals_at rv hv
    exact ⟨x, H, I.kept hk, rx, h1 i x y ys e hx (item_data hr hv hk hrd)⟩
theorem cr_minDt (hc : X.calm = true) (hu : X.A.units + 64 < cLine) : CallR X (.builtin "min") (rMinDt X.K) := by
  intro pins s σ H vs us Q I r1 h
  obtain ⟨a, xs, y, ys, rfl, hs, hd, ha, hdep, h1⟩ := h
  obtain ⟨its, rv, hl, _⟩ := I.list hs
  obtain ⟨as, hr⟩ := Dp.readsAll I (y :: ys) xs its hd rv
  rw [Vals.ref1 r1]
  refine min_list_data (vs := its.toArray) (x := y) (xs := ys) (I.ok.hd hc) hl.isList (by simpa using hr) ha (by omega) fun i v h' tk bs hv hrd hk => ?_
  have hv : its[i]? = some v := by simpa using hv
  obtain ⟨x, hx, rx⟩ := vals_at rv hv
  exact ⟨x, H, I.kept hk, rx, h1 i x hx (item_data hr hv hk hrd)⟩
end
end L2
namespace Kr
open PySem L2 PySem.W
theorem wp_ckw {g : Gr} {L : Led} {σ : St} {C : V → Led → Prop} {r : List V → List V → Hp → VK → Prop} {tr tk : TA} (h : Wp g L (tr σ) fun vs L1 => Wp g L1 (tk σ) fun zs L2 => Wp g L2 (r vs zs) C) : Wp g L (tCKw r tr tk σ) C :=
  fun H a Q q => h H a _ fun vs L1 H1 h1 a1 => h1 H1 a1 _ fun zs L2 H2 h2 a2 => h2 H2 a2 Q q
/-! ### ints -/
theorem alike_ints (ns : List Int) : AlikeAll (ns.map PyData.int) := by
  refine ⟨fun x hx y hy => ?_, fun x hx => ?_⟩
  · obtain ⟨m, _, rfl⟩ := List.mem_map.mp hx
    obtain ⟨n, _, rfl⟩ := List.mem_map.mp hy
    rfl
  · obtain ⟨m, _, rfl⟩ := List.mem_map.mp hx
    exact fun h => nomatch h
theorem depth_ints : ∀ ns : List Int, PyData.depthAll (ns.map PyData.int) ≤ 60
  | [] => by simp [PyData.depthAll]
  | n :: r => by
    have := depth_ints r
    rw [List.map_cons]
    simp only [PyData.depthAll, PyData.depth]
    omega
theorem foldmin_is : ∀ (r : List Int) (n : Int), r.foldl min n ∈ n :: r ∧ ∀ k ∈ n :: r, r.foldl min n ≤ k
  | [], n => ⟨by simp, fun k hk => by have : k = n := by simpa using hk
                                      subst this; exact Int.le_refl _⟩
  | x :: r, n => by
    obtain ⟨h1, h2⟩ := foldmin_is r (min n x)
    rw [List.foldl_cons]
    refine ⟨?_, fun k hk => ?_⟩
    · rcases List.mem_cons.mp h1 with h | h
      · rw [h]
        rcases Int.le_total n x with q | q
        · rw [Int.min_eq_left q]; simp
        · rw [Int.min_eq_right q]; simp
      · simp [h]
    · have h0 := h2 (min n x) (by simp)
      rcases List.mem_cons.mp hk with h | h
      · omega
      · rcases List.mem_cons.mp h with h | h
        · omega
        · exact h2 k (by simp [h])
theorem foldmax_is : ∀ (r : List Int) (n : Int), r.foldl max n ∈ n :: r ∧ ∀ k ∈ n :: r, k ≤ r.foldl max n
  | [], n => ⟨by simp, fun k hk => by have : k = n := by simpa using hk
                                      subst this; exact Int.le_refl _⟩
  | x :: r, n => by
    obtain ⟨h1, h2⟩ := foldmax_is r (max n x)
    rw [List.foldl_cons]
    refine ⟨?_, fun k hk => ?_⟩
    · rcases List.mem_cons.mp h1 with h | h
      · rw [h]
        rcases Int.le_total n x with q | q
        · rw [Int.max_eq_right q]; simp
        · rw [Int.max_eq_left q]; simp
      · simp [h]
    · have h0 := h2 (max n x) (by simp)
      rcases List.mem_cons.mp hk with h | h
      · omega
      · rcases List.mem_cons.mp h with h | h
        · omega
        · exact h2 k (by simp [h])
section
variable {K : PySem.W.Frag} {g : Gr} {L : Led} {C : V → Led → Prop} {a : Addr} {d : V}
theorem dpAll_ints {H : Hp} : ∀ ns : List Int, DpAll K H (ns.map V.int) (ns.map PyData.int)
  | [] => .nil
  | n :: r => .cons (.int n) (dpAll_ints r)
theorem wc_minDI {ns : List Int} (s : Seen K g L a (ns.map V.int)) (c0 : ns = [] → C d L) (c : ∀ m, m ∈ ns → (∀ k ∈ ns, m ≤ k) → C (.int m) L) : Wp g L (rMinDf K [.ref a] [d]) C :=
  fun H z Q q => ⟨a, ns.map V.int, ns.map PyData.int, d, rfl, rfl, s.at_ H z, dpAll_ints ns, alike_ints ns, depth_ints ns, fun e => q _ _ _ (c0 (List.map_eq_nil_iff.mp e)) z, fun i x y ys e hx hm => by
    cases ns with
    | nil => cases e
    | cons n r =>
      rw [List.map_cons] at e
      injection e with e1 e2
      subst e1 e2
      rw [minD_ints] at hm
      rw [List.getElem?_map] at hx hm
      cases hi : (n :: r)[i]? with
      | none => rw [hi] at hx; cases hx
      | some k =>
        rw [hi] at hx hm
        have hx : V.int k = x := Option.some.inj hx
        have hm : PyData.int k = .int (r.foldl min n) := Option.some.inj hm
        injection hm with hm
        subst hx hm
        obtain ⟨h1, h2⟩ := foldmin_is r n
        exact q _ _ _ (c _ h1 h2) z⟩
theorem wc_maxDI {ns : List Int} (s : Seen K g L a (ns.map V.int)) (c0 : ns = [] → C d L) (c : ∀ m, m ∈ ns → (∀ k ∈ ns, k ≤ m) → C (.int m) L) : Wp g L (rMaxDf K [.ref a] [d]) C :=
  fun H z Q q => ⟨a, ns.map V.int, ns.map PyData.int, d, rfl, rfl, s.at_ H z, dpAll_ints ns, alike_ints ns, depth_ints ns, fun e => q _ _ _ (c0 (List.map_eq_nil_iff.mp e)) z, fun i x y ys e hx hm => by
    cases ns with
    | nil => cases e
    | cons n r =>
      rw [List.map_cons] at e
      injection e with e1 e2
      subst e1 e2
      rw [maxD_ints] at hm
      rw [List.getElem?_map] at hx hm
      cases hi : (n :: r)[i]? with
      | none => rw [hi] at hx; cases hx
      | some k =>
        rw [hi] at hx hm
        have hx : V.int k = x := Option.some.inj hx
        have hm : PyData.int k = .int (r.foldl max n) := Option.some.inj hm
        injection hm with hm
        subst hx hm
        obtain ⟨h1, h2⟩ := foldmax_is r n
        exact q _ _ _ (c _ h1 h2) z⟩
end
/-! ### pairs of ints -/
def dpP (x : Int × Int) : PyData := .tuple [.int x.1, .int x.2]
def ltP (y x : Int × Int) : Prop := y.1 < x.1 ∨ (y.1 = x.1 ∧ y.2 < x.2)
theorem dpP_inj {x y : Int × Int} (h : dpP x = dpP y) : x = y := by
  unfold dpP at h
  simp only [PyData.tuple.injEq, List.cons.injEq, PyData.int.injEq, and_true] at h
  exact Prod.ext h.1 h.2
theorem alike_P (xs : List (Int × Int)) : AlikeAll (xs.map dpP) := by
  refine ⟨fun x hx y hy => ?_, fun x hx => ?_⟩
  · obtain ⟨m, _, rfl⟩ := List.mem_map.mp hx
    obtain ⟨n, _, rfl⟩ := List.mem_map.mp hy
    rfl
  · obtain ⟨m, _, rfl⟩ := List.mem_map.mp hx
    exact fun h => nomatch h
theorem depth_P : ∀ xs : List (Int × Int), PyData.depthAll (xs.map dpP) ≤ 60
  | [] => by simp [PyData.depthAll]
  | n :: r => by
    have := depth_P r
    rw [List.map_cons]
    simp only [PyData.depthAll, PyData.depth, dpP]
    omega
theorem minP_is : ∀ (r : List (Int × Int)) (n : Int × Int), ∃ m, minD (dpP n) (r.map dpP) = dpP m ∧ m ∈ n :: r ∧ ∀ k ∈ n :: r, ¬ ltP k m
  | [], n => ⟨n, rfl, by simp, fun k hk => by
      have : k = n := by simpa using hk
      subst this
      unfold ltP
      omega⟩
  | x :: r, n => by
    have e : minD (dpP n) ((x :: r).map dpP) = minD (dpP (if x.1 < n.1 ∨ (x.1 = n.1 ∧ x.2 < n.2) then x else n)) (r.map dpP) := by
      unfold minD
      rw [List.map_cons, List.foldl_cons]
      congr 1
      unfold dpP
      rw [dataLt_ii]
      by_cases h : x.1 < n.1 ∨ (x.1 = n.1 ∧ x.2 < n.2)
      · rw [if_pos h, if_pos (decide_eq_true h)]
      · rw [if_neg h, if_neg (by simpa using h)]
    rw [e]
    by_cases h : x.1 < n.1 ∨ (x.1 = n.1 ∧ x.2 < n.2)
    · rw [if_pos h]
      obtain ⟨m, h1, h2, h3⟩ := minP_is r x
      refine ⟨m, h1, List.mem_cons_of_mem _ h2, fun k hk => ?_⟩
      rcases List.mem_cons.mp hk with q | q
      · have := h3 x (by simp)
        subst q
        unfold ltP at *
        omega
      · exact h3 k q
    · rw [if_neg h]
      obtain ⟨m, h1, h2, h3⟩ := minP_is r n
      refine ⟨m, h1, ?_, fun k hk => ?_⟩
      · rcases List.mem_cons.mp h2 with q | q
        · simp [q]
        · simp [q]
      · rcases List.mem_cons.mp hk with q | q
        · exact h3 k (by simp [q])
        · rcases List.mem_cons.mp q with q | q
          · have := h3 n (by simp)
            subst q
            unfold ltP at *
            omega
          · exact h3 k (by simp [q])
section
variable {K : PySem.W.Frag} {g : Gr} {L : Led} {C : V → Led → Prop} {a : Addr} {d : V} {bo : Bool}
theorem dpAll_P {H : Hp} : ∀ (as : List Addr) (xs : List (Int × Int)), as.length = xs.length → (∀ (k : Nat) (b : Addr) (r : List V), as[k]? = some b → (xs.map row2)[k]? = some r → H b = some (.tup r)) → DpAll K H (as.map V.ref) (xs.map dpP)
  | [], [], _, _ => .nil
  | [], _ :: _, h, _ => by cases h
  | _ :: _, [], h, _ => by cases h
  | b :: as, x :: xs, h, k => .cons (.tup (SqT.of (k 0 b (row2 x) rfl rfl)) (.cons (.int _) (.cons (.int _) .nil))) (dpAll_P as xs (by simpa using h) fun i c r h1 h2 => k (i + 1) c r h1 h2)
/-- the least of a list of pairs, or the default -/
theorem wc_minDP {xs : List (Int × Int)} (j : Nat) (hj : L[j]? = some (a, .rows (xs.map row2), bo)) (c0 : xs = [] → C d L) (c : ∀ x, x ∈ xs → (∀ y ∈ xs, ¬ ltP y x) → ∀ p, C (.ref p) (L ++ [(p, .ob (.tup (row2 x)), false)])) : Wp g L (rMinDf K [.ref a] [d]) C :=
  fun H z Q q => by
    obtain ⟨o, h1, as, e1, hl, hr⟩ := z.look hj
    subst e1
    refine ⟨a, as.map V.ref, xs.map dpP, d, rfl, rfl, SqL.of h1, dpAll_P as xs (by simpa using hl) hr, alike_P xs, depth_P xs, fun e => q _ _ _ (c0 (List.map_eq_nil_iff.mp e)) z, fun i x y ys e hx hm => ?_⟩
    cases xs with
    | nil => cases e
    | cons n r =>
      rw [List.map_cons] at e
      injection e with e1 e2
      subst e1 e2
      obtain ⟨m, h2, h3, h4⟩ := minP_is r n
      rw [h2, List.getElem?_map] at hm
      cases hi : (n :: r)[i]? with
      | none => rw [hi] at hm; cases hm
      | some k =>
        rw [hi] at hm
        have hm : dpP k = dpP m := Option.some.inj hm
        have hm := dpP_inj hm
        subst hm
        rw [List.getElem?_map] at hx
        cases hb : as[i]? with
        | none => rw [hb] at hx; cases hx
        | some b =>
          rw [hb] at hx
          have hx : V.ref b = x := Option.some.inj hx
          subst hx
          exact q _ _ _ (c k h3 h4 b) (z.addT (hr i b (row2 k) hb (by rw [List.getElem?_map, hi]; rfl)))
theorem wc_minP {xs : List (Int × Int)} (j : Nat) (hj : L[j]? = some (a, .rows (xs.map row2), bo)) (hne : xs ≠ []) (c : ∀ x, x ∈ xs → (∀ y ∈ xs, ¬ ltP y x) → ∀ p, C (.ref p) (L ++ [(p, .ob (.tup (row2 x)), false)])) : Wp g L (rMinDt K [.ref a]) C :=
  fun H z Q q => by
    obtain ⟨o, h1, as, e1, hl, hr⟩ := z.look hj
    subst e1
    cases xs with
    | nil => exact absurd rfl hne
    | cons n r =>
      refine ⟨a, as.map V.ref, dpP n, r.map dpP, rfl, SqL.of h1, dpAll_P as (n :: r) (by simpa using hl) hr, alike_P (n :: r), depth_P (n :: r), fun i x hx hm => ?_⟩
      obtain ⟨m, h2, h3, h4⟩ := minP_is r n
      rw [h2] at hm
      have hm : ((n :: r).map dpP)[i]? = some (dpP m) := hm
      rw [List.getElem?_map] at hm
      cases hi : (n :: r)[i]? with
      | none => rw [hi] at hm; cases hm
      | some k =>
        rw [hi] at hm
        have hm := dpP_inj (Option.some.inj hm)
        subst hm
        rw [List.getElem?_map] at hx
        cases hb : as[i]? with
        | none => rw [hb] at hx; cases hx
        | some b =>
          rw [hb] at hx
          have hx : V.ref b = x := Option.some.inj hx
          subst hx
          exact q _ _ _ (c k h3 h4 b) (z.addT (hr i b (row2 k) hb (by rw [List.getElem?_map, hi]; rfl)))
/-- found.extend([t] * int(..)) of tuples -/
theorem wr_extT {rs : List (List V)} {r : List V} {a2 p : Addr} {ys : List V} {b2 b3 : Bool} (i j k : Nat) (h : L[i]? = some (a, .rows rs, true)) (h2 : L[j]? = some (a2, .ob (.lst ys), b2)) (hy : ys = [.ref p]) (h3 : L[k]? = some (p, .ob (.tup r), b3)) (hl : rs.length < 99999)
    (c : C .non (L.set i (a, .rows (rs ++ [r]), true))) : Wp g L (rExtend (.ref a) [.ref a2]) C :=
  fun H z Q q => by
    obtain ⟨o, h1, as, e1, hl1, h4⟩ := z.look h
    subst e1 hy
    refine ⟨a, a2, _, _, rfl, rfl, h1, z.get h2, Nat.le_trans (show _ ≤ 100000 by rw [List.length_map, hl1]; simp; omega) (by decide), q _ _ _ c ?_⟩
    exact z.chg h (fun c u e z => by rw [upd_ne z]; exact e) upd_same (rows_snoc ⟨as, rfl, hl1, h4⟩ h1 (z.get h3))
theorem wr_extN {rs : List (List V)} {a2 : Addr} {ys : List V} {b2 : Bool} (i j : Nat) (h : L[i]? = some (a, .rows rs, true)) (h2 : L[j]? = some (a2, .ob (.lst ys), b2)) (hy : ys = []) (hl : rs.length < 99999) (c : C .non (L.set i (a, .rows rs, true))) : Wp g L (rExtend (.ref a) [.ref a2]) C :=
  fun H z Q q => by
    obtain ⟨o, h1, as, e1, hl1, h4⟩ := z.look h
    subst e1 hy
    refine ⟨a, a2, _, _, rfl, rfl, h1, z.get h2, Nat.le_trans (show _ ≤ 100000 by rw [List.length_map, hl1]; simp; omega) (by decide), q _ _ _ c ?_⟩
    rw [List.append_nil]
    refine z.chg h (fun c u e z => by rw [upd_ne z]; exact e) upd_same ⟨as, rfl, hl1, fun k b r q1 q2 => ?_⟩
    have q3 := h4 k b r q1 q2
    rw [upd_ne]
    · exact q3
    · intro e
      subst e
      rw [h1] at q3
      cases q3
end
/-! ### a promise: None, or a new pair of ints -/
section
def kP (A : Prop) (R : Int → Int → Prop) : Ks := { nx := fun _ _ => A, rt := fun v L => (v = .non ∧ A) ∨ ∃ (x y : Int) (p : Addr) (i : Nat), v = .ref p ∧ L[i]? = some (p, Ent.ob (.tup [.int x, .int y]), true) ∧ R x y }
theorem eo_P {H0 : Hp} {A : Prop} {R : Int → Int → Prop} {Q : VK} (h1 : A → ∀ H', Same H0 H' → Q .non H') (h2 : ∀ x y p H', R x y → H0 p = none → Same H0 H' → H' p = some (.tup [.int x, .int y]) → Q (.ref p) H') : Eo ⟨H0, fun _ => False⟩ (kP A R) { nx := fun _ H' => Q .non H', rt := Q } :=
  ⟨fun σ L H k z => h1 k _ z.since, fun v L H k z => by
    rcases k with ⟨e, k⟩ | ⟨x, y, p, i, e, k, r⟩
    · subst e
      exact h1 k _ z.since
    · subst e
      refine h2 x y p H r ?_ z.since (z.get k)
      rcases z.own _ (List.mem_of_getElem? k) rfl with q | q
      · exact q
      · exact q.elim, fun _ _ _ k _ => k.elim, fun _ _ _ k _ => k.elim⟩
end
/-! ### a list of pairs compared -/
theorem canLay_P : ∀ xs : List (Int × Int), PyData.canLayAll0 (xs.map dpP) = true
  | [] => by simp [PyData.canLayAll0]
  | x :: r => by
    rw [List.map_cons]
    simp only [PyData.canLayAll0, dpP, PyData.canLay0, canLay_P r, Bool.and_true, Bool.true_and]
theorem shaped_P (xs : List (Int × Int)) : SeqAt.shaped (.list (xs.map dpP)) = true := by
  have h1 := depth_P xs
  have h2 : PyData.depth (.list (xs.map dpP)) ≤ 64 := by simp only [PyData.depth]; omega
  show (PyData.canLay0 (.list (xs.map dpP)) && decide (PyData.depth (.list (xs.map dpP)) ≤ 64)) = true
  rw [Bool.and_eq_true]
  exact ⟨by simp only [PyData.canLay0]; exact canLay_P xs, decide_eq_true h2⟩
section
variable {K : PySem.W.Frag} {g : Gr} {L : Led} {C : V → Led → Prop} {a a2 : Addr} {bo : Bool}
theorem dp_rows {xs : List (Int × Int)} (j : Nat) (hj : L[j]? = some (a, .rows (xs.map row2), bo)) : DpA K g L (.ref a) (.list (xs.map dpP)) := fun H z => by
  obtain ⟨o, h1, as, e1, hl, hr⟩ := z.look hj
  subst e1
  exact .lst (SqL.of h1) (dpAll_P as xs (by simpa using hl) hr)
theorem eqv_P : ∀ xs ys : List (Int × Int), PyData.eqvAll (xs.map dpP) (ys.map dpP) = decide (xs = ys)
  | [], [] => by simp [PyData.eqvAll]
  | [], _ :: _ => by simp [PyData.eqvAll]
  | _ :: _, [] => by simp [PyData.eqvAll]
  | x :: xs, y :: ys => by
    rw [List.map_cons, List.map_cons]
    unfold PyData.eqvAll
    rw [eqv_P xs ys]
    have e : PyData.eqv (dpP x) (dpP y) = decide (x = y) := by
      unfold dpP
      rw [Bool.eq_iff_iff]
      simp only [PyData.eqv, PyData.eqvAll, Bool.and_eq_true, decide_eq_true_eq, beq_iff_eq, and_true]
      exact ⟨fun h => Prod.ext h.1 h.2, fun h => by rw [h]; exact ⟨rfl, rfl⟩⟩
    rw [e, Bool.eq_iff_iff]
    simp
theorem wr_neRN {xs : List (Int × Int)} (j : Nat) (hj : L[j]? = some (a, .rows (xs.map row2), bo)) (s2 : Seen K g L a2 []) (c : C (.bl (!decide (xs = []))) L) : Wp g L (rNeD K (.ref a) (.ref a2)) C :=
  wr_neD (dp_rows j hj) (dp_lst s2 dps_nil) (shaped_P xs) rfl (by
    have e : PyData.eqv (.list (xs.map dpP)) (.list []) = decide (xs = []) := by
      unfold PyData.eqv
      exact eqv_P xs []
    rw [e]
    exact c)
end
theorem eqv_pair (x y : Int) : PyData.eqv (.tuple [.int x, .int y]) (.tuple [.int x, .int y]) = true := by
  simp [PyData.eqv, PyData.eqvAll]
/-! ### several new objects at once -/
theorem At.news {g : Gr} {L E : Led} {H H' : Hp} (z : At g L H) (s : Same H H') (h : ∀ q ∈ E, H q.1 = none ∧ ∃ o, H' q.1 = some o ∧ q.2.1.In H' o) (nd : (E.map (·.1)).Nodup) : At g (L ++ E) H' := by
  refine ⟨fun c o e m => s _ _ (z.old c o e m), fun q hq => ?_, fun q hq hb => ?_, ?_⟩
  · rcases List.mem_append.mp hq with hq | hq
    · obtain ⟨o, h1, h2⟩ := z.led q hq
      exact ⟨o, s _ _ h1, h2.same s⟩
    · exact (h q hq).2
  · rcases List.mem_append.mp hq with hq | hq
    · exact z.own q hq hb
    · by_cases hmu : g.mu q.1
      · exact .inr hmu
      · refine .inl ?_
        cases e : g.H0 q.1 with
        | none => rfl
        | some u =>
          have := (h q hq).1
          rw [z.old q.1 u e hmu] at this
          cases this
  · rw [List.pairwise_append]
    refine ⟨z.nd, ?_, fun x hx y hy e => ?_⟩
    · have := List.nodup_iff_pairwise_ne.mp nd
      rw [List.pairwise_map] at this
      exact this.imp fun hne e => absurd e hne
    · obtain ⟨o, h1, _⟩ := z.led x hx
      rw [e, (h y hy).1] at h1
      cases h1
end Kr

set_option Elab.async false
set_option linter.all false
set_option maxRecDepth 100000
/-! ### more rules -/
namespace Kr
open PySem L2
section
variable {K : PySem.W.Frag} {g : Gr} {L : Led} {C : V → Led → Prop} {a : Addr}
/-- None or a number, told as one value -/
def IsOpt (N : Prop) (S : Int → Prop) (v : V) : Prop := (v = .non ∧ N) ∨ ∃ n : Int, v = .int n ∧ S n
theorem wc_opt {m : Hp → (V → Hp → Prop) → Prop} {N : Prop} {S : Int → Prop} (w : (N → C .non L) → (∀ n : Int, S n → C (.int n) L) → Wp g L m C) (h : ∀ v : V, IsOpt N S v → C v L) : Wp g L m C :=
  w (fun q => h _ (.inl ⟨rfl, q⟩)) (fun n q => h _ (.inr ⟨n, rfl, q⟩))
theorem cut_one (ns : List Int) : cutV (ns.map V.int) (some 1) none = (ns.drop 1).map V.int := by
  unfold cutV
  have h1 : HT.sIx (ns.map V.int).length 0 (some 1) = min 1 ns.length := by
    unfold HT.sIx
    simp
  have h2 : HT.sIx (ns.map V.int).length (ns.map V.int).length none = (ns.map V.int).length := rfl
  rw [h1, h2, List.length_map, ← List.map_drop]
  cases ns with
  | nil => rfl
  | cons n r =>
    simp
    rw [List.take_of_length_le (by simp)]
theorem wr_slO {ms : List Int} (s : Seen K g L a (ms.map V.int)) (c : ∀ p, C (.ref p) (L ++ [(p, .ob (.lst ((ms.drop 1).map V.int)), true)])) : Wp g L (rSlL K (.ref a) (some 1) none) C :=
  wr_slL s (by rw [cut_one]; exact c)
end
end Kr

set_option Elab.async false
set_option linter.all false
set_option maxRecDepth 100000
set_option maxHeartbeats 1000000
/-! ### a list of tuples, item by item by one name -/
namespace Kr
open PySem L2
structure IterN {α : Type} (g : Gr) (L : Led) (J : It) (tg : TG) (xs : List α) (row : α → List V) (S : α → Addr → St → St) : Prop where
  at_ : ∀ H, At g L H → J.stop xs.length H ∧ ∀ i x, xs[i]? = some x → J.go i H ∧ ∀ v H', J.yld i H v H' → Same H H' ∧ ∃ pr : Addr, H' pr = some (.tup (row x)) ∧ ∀ σ (Q : St → Hp → Prop), Q (S x pr σ) H' → tg v σ H' Q
theorem iter_rowsN {α : Type} {g : Gr} {L : Led} {a : Addr} {Kf : PySem.W.Frag} {bo : Bool} (i : Nat) (row : α → List V) {xs : List α} (j : Nat) (hj : L[j]? = some (a, .rows (xs.map row), bo)) :
    IterN g L (Itl Kf a) (gName i) xs row (fun _ pr σ => σ.set i (some (.ref pr))) := ⟨fun H z => by
  obtain ⟨o, h1, as, e1, hl, hr⟩ := z.look hj
  subst e1
  rw [List.length_map] at hl
  have hs : SqL Kf H a (as.map V.ref) := SqL.of h1
  refine ⟨⟨_, hs, by rw [List.length_map, hl]; exact Nat.le_refl _⟩, fun k x hx => ?_⟩
  have hk : k < as.length := by
    have := (List.getElem?_eq_some_iff.mp hx).1
    omega
  have hx2 : (as.map V.ref)[k]? = some (.ref as[k]) := by rw [List.getElem?_map, List.getElem?_eq_getElem hk]; rfl
  have hx3 := hr k as[k] (row x) (List.getElem?_eq_getElem hk) (by rw [List.getElem?_map, hx]; rfl)
  refine ⟨⟨_, _, hs, hx2⟩, fun v H' hy => ?_⟩
  obtain ⟨e1, e2⟩ := hy
  subst e1
  have e3 := e2 _ hs
  rw [hx2] at e3
  have e3 := Option.some.inj e3
  subst e3
  exact ⟨same_refl, as[k], hx3, fun σ Q q => q⟩⟩
section
variable {α : Type} {g : Gr} {L : Led} {σ : St} {K : Ks} {tg : TG} {tb : TS} {J : It} {xs : List α} {row : α → List V} {S : α → Addr → St → St}
theorem wf_GN (I : Nat → St → Led → Prop) (it : ∀ i σ L, I i σ L → IterN g L J tg xs row S) (h0 : I 0 σ L)
    (hs : ∀ i x pr σ L, xs[i]? = some x → I i σ L → Ws g (L ++ [(pr, .ob (.tup (row x)), false)]) tb (S x pr σ) { K with nx := fun σ' L' => ∃ L3, I (i + 1) σ' L3 ∧ L3 <+: L', ct := fun σ' L' => ∃ L3, I (i + 1) σ' L3 ∧ L3 <+: L', bk := K.nx })
    (hd : ∀ σ L, I xs.length σ L → K.nx σ L) : WFor g L J tg tb σ K := fun H z D e => by
  refine ⟨fun i m σ H => i ≤ xs.length ∧ m = xs.length - i ∧ ∃ L, I i σ L ∧ At g L H, ⟨xs.length, Nat.zero_le _, rfl, L, h0, z⟩, ?_⟩
  rintro i m σ H ⟨hi, rfl, L, k, z⟩
  obtain ⟨h1, h2⟩ := (it i σ L k).at_ H z
  by_cases hlt : i < xs.length
  · obtain ⟨h3, h4⟩ := h2 i xs[i] (List.getElem?_eq_getElem hlt)
    refine .inr ⟨h3, fun σ' H' => ∃ L, I (i + 1) σ' L ∧ At g L H', fun σ' H' q => ⟨xs.length - (i + 1), by omega, hlt, rfl, q⟩, fun v H' y => ?_⟩
    obtain ⟨h5, pr, hpr, h6⟩ := h4 v H' y
    refine h6 σ _ ?_
    have kk : ∀ σ' L' H', (∃ L3, I (i + 1) σ' L3 ∧ L3 <+: L') → At g L' H' → ∃ L, I (i + 1) σ' L ∧ At g L H' := fun σ' L' H' ⟨L3, hi, hp⟩ z' => ⟨L3, hi, z'.pre hp⟩
    exact hs i xs[i] pr σ L (List.getElem?_eq_getElem hlt) k H' ((z.same h5).addT hpr) _ ⟨kk, e.rt, e.nx, kk⟩
  · have e1 : i = xs.length := by omega
    subst e1
    exact .inl ⟨h1, e.nx _ _ _ (hd σ L k) z⟩
theorem wf_SN (it : IterN g L J tg xs row S) (I : Nat → List (Option (Option V)) → Prop) (h0 : ∃ vs, σ = putA σ vs ∧ I 0 vs)
    (hs : ∀ i x pr vs, xs[i]? = some x → I i vs → Ws g (L ++ [(pr, .ob (.tup (row x)), false)]) tb (S x pr (putA σ vs)) { K with nx := fun σ' L' => ∃ vs', (σ' = putA σ vs' ∧ I (i + 1) vs') ∧ L <+: L', ct := fun σ' L' => ∃ vs', (σ' = putA σ vs' ∧ I (i + 1) vs') ∧ L <+: L', bk := K.nx })
    (hd : ∀ vs, I xs.length vs → K.nx (putA σ vs) L) : WFor g L J tg tb σ K := by
  obtain ⟨vs0, e0, k0⟩ := h0
  refine wf_GN (xs := xs) (S := S) (fun i σ' L' => ∃ vs, (σ' = putA σ vs ∧ I i vs) ∧ L' = L) (fun i σ' L' ⟨vs, _, e⟩ => e ▸ it) ⟨vs0, ⟨e0, k0⟩, rfl⟩ ?_ ?_
  · rintro i x pr σ' L' hi ⟨vs, ⟨rfl, k⟩, rfl⟩
    intro H3 z3 D e
    have kk : ∀ σ' L'' H', (∃ vs', (σ' = putA σ vs' ∧ I (i + 1) vs') ∧ L' <+: L'') → At g L'' H' → D.nx σ' H' := fun σ' L'' H' ⟨vs', h1, h2⟩ z' => e.nx σ' L'' H' ⟨L', ⟨vs', h1, rfl⟩, h2⟩ z'
    have kc : ∀ σ' L'' H', (∃ vs', (σ' = putA σ vs' ∧ I (i + 1) vs') ∧ L' <+: L'') → At g L'' H' → D.ct σ' H' := fun σ' L'' H' ⟨vs', h1, h2⟩ z' => e.ct σ' L'' H' ⟨L', ⟨vs', h1, rfl⟩, h2⟩ z'
    exact hs i x pr vs hi k H3 z3 D ⟨kk, e.rt, e.bk, kc⟩
  · rintro σ' L' ⟨vs, ⟨rfl, k⟩, rfl⟩
    exact hd vs k
theorem wf_AN (j : Nat) {a : Addr} {e0 : Ent} (hj : L[j]? = some (a, e0, true)) (it : ∀ e, IterN g (L.set j (a, e, true)) J tg xs row S) (I : Nat → List (Option (Option V)) → Ent → Prop) (h0 : ∃ vs, σ = putA σ vs ∧ I 0 vs e0)
    (hs : ∀ i x pr vs e, xs[i]? = some x → I i vs e → Ws g (L.set j (a, e, true) ++ [(pr, .ob (.tup (row x)), false)]) tb (S x pr (putA σ vs)) { K with nx := fun σ' L' => ∃ vs' e', (σ' = putA σ vs' ∧ I (i + 1) vs' e') ∧ L.set j (a, e', true) <+: L', ct := fun σ' L' => ∃ vs' e', (σ' = putA σ vs' ∧ I (i + 1) vs' e') ∧ L.set j (a, e', true) <+: L', bk := K.nx })
    (hd : ∀ vs e, I xs.length vs e → K.nx (putA σ vs) (L.set j (a, e, true))) : WFor g L J tg tb σ K := by
  obtain ⟨vs0, e0', k0⟩ := h0
  refine wf_GN (xs := xs) (S := S) (fun i σ' L' => ∃ vs e, (σ' = putA σ vs ∧ I i vs e) ∧ L' = L.set j (a, e, true)) (fun i σ' L' ⟨vs, e, _, q⟩ => q ▸ it e) ⟨vs0, _, ⟨e0', k0⟩, (set_self hj).symm⟩ ?_ ?_
  · rintro i x pr σ' L' hi ⟨vs, en, ⟨rfl, k⟩, rfl⟩
    intro H3 z3 D e
    have kk : ∀ σ' L'' H', (∃ vs' e', (σ' = putA σ vs' ∧ I (i + 1) vs' e') ∧ L.set j (a, e', true) <+: L'') → At g L'' H' → D.nx σ' H' := fun σ' L'' H' ⟨vs', e', h1, h2⟩ z' => e.nx σ' L'' H' ⟨_, ⟨vs', e', h1, rfl⟩, h2⟩ z'
    have kc : ∀ σ' L'' H', (∃ vs' e', (σ' = putA σ vs' ∧ I (i + 1) vs' e') ∧ L.set j (a, e', true) <+: L'') → At g L'' H' → D.ct σ' H' := fun σ' L'' H' ⟨vs', e', h1, h2⟩ z' => e.ct σ' L'' H' ⟨_, ⟨vs', e', h1, rfl⟩, h2⟩ z'
    exact hs i x pr vs en hi k H3 z3 D ⟨kk, e.rt, e.bk, kc⟩
  · rintro σ' L' ⟨vs, en, ⟨rfl, k⟩, rfl⟩
    exact hd vs en k
end
section
variable {α : Type} {g : Gr} {L : Led} {σ : St} {C : V → Led → Prop} {tt : TT} {te : TE} {tg : TG} {J : It} {xs : List α} {row : α → List V} {S : α → Addr → St → St} {vs : List Nat}
theorem lc_GN {β : Type} (En : List β → Ent) (hmv : ∀ ys, (En ys).mov = true) (p : α → Bool) (f : α → β) (it : IterN g L J tg xs row S) (hw : ∀ x pr, wipe (S x pr (wipe σ vs)) vs = wipe σ vs) (hl : xs.length ≤ 99999)
    (e0 : ∀ H, (En []).In H (.lst []))
    (hs : ∀ x pr, x ∈ xs → ∀ (D : Addr) (acc : List β), Wp g (L ++ [(D, En acc, true)] ++ [(pr, .ob (.tup (row x)), false)]) (tt (S x pr (wipe σ vs))) fun b L2 => b = p x ∧
      if b = true then Wp g L2 (te (S x pr (wipe σ vs))) fun y L3 => (L ++ [(D, En acc, true)]) <+: L3 ∧ ∀ H, At g L3 H → ∃ ac, H D = some (.lst ac) ∧ ac.length = acc.length ∧ (En (acc ++ [f x])).In (upd H D (.lst (ac ++ [y]))) (.lst (ac ++ [y])) else (L ++ [(D, En acc, true)]) <+: L2)
    (c : ∀ D, C (.ref D) (L ++ [(D, En ((xs.filter p).map f), true)])) : WLc g L J tg tt te vs σ C := fun H z Q q D hD => by
  have hi : ∀ e : Ent, (L ++ [(D, e, true)])[L.length]? = some (D, e, true) := fun o => by simp
  have hsub : ∀ {e : Ent} {H : Hp}, At g (L ++ [(D, e, true)]) H → At g L H := fun z => z.pre ⟨_, rfl⟩
  refine ⟨fun i m H => i ≤ xs.length ∧ m = xs.length - i ∧ At g (L ++ [(D, En (((xs.take i).filter p).map f), true)]) H, ⟨xs.length, Nat.zero_le _, rfl, ?_⟩, ?_⟩
  · refine z.newE (fun c u e => by rw [upd_ne (ne_of_none e hD)]; exact e) hD upd_same ?_
    simpa using e0 _
  rintro i m H ⟨hi0, rfl, z⟩
  obtain ⟨h1, h2⟩ := it.at_ H (hsub z)
  by_cases hlt : i < xs.length
  · have hxi := List.getElem?_eq_getElem hlt
    obtain ⟨h3, h4⟩ := h2 i xs[i] hxi
    refine .inr ⟨h3, fun H' => At g (L ++ [(D, En (((xs.take (i + 1)).filter p).map f), true)]) H', fun H' q => ⟨xs.length - (i + 1), by omega, hlt, rfl, q⟩, fun v H' y => ?_⟩
    obtain ⟨h5, pr, hpr, h6⟩ := h4 v H' y
    refine h6 _ _ ⟨hw _ _, ?_⟩
    have hacc := filter_take_succ p f hxi
    have hlen : (((xs.take i).filter p).map f).length < 100000 := by
      have := List.length_filter_le p (xs.take i)
      have h3 : (xs.take i).length ≤ xs.length := by simp; omega
      rw [List.length_map]
      omega
    generalize ((xs.take i).filter p).map f = acc at z hacc hlen
    refine hs xs[i] pr (List.mem_of_getElem? hxi) D acc H' ((z.same h5).addT hpr) _ fun b L2 H2 ⟨eb, k⟩ z2 => ?_
    subst eb
    cases hp : p xs[i] with
    | true =>
      rw [hp] at k hacc
      have k : Wp g L2 _ _ := k
      refine k H2 z2 _ fun y L3 H3 ⟨hpre, hn⟩ z3 => ?_
      obtain ⟨ac, q1, q2, q3⟩ := hn H3 z3
      have z4 := z3.pre hpre
      refine ⟨ac, q1, by rw [q2]; exact Nat.lt_of_lt_of_le hlen (by decide), ?_⟩
      have z5 := z4.chg (e' := En (acc ++ [f xs[i]])) (H' := upd H3 D (.lst (ac ++ [y]))) (o := .lst (ac ++ [y])) (hi _) (fun c u e z => by rw [upd_ne z]; exact e) upd_same q3 (hmv _)
      rw [List.set_append_right _ _ (Nat.le_refl _), Nat.sub_self] at z5
      rw [hacc]
      exact z5
    | false =>
      rw [hp] at k hacc
      have k : _ <+: L2 := k
      have e2 : ((xs.take (i + 1)).filter p).map f = acc := by rw [hacc]; simp
      show At g _ H2
      rw [e2]
      exact z2.pre k
  · have e1 : i = xs.length := by omega
    subst e1
    rw [List.take_length] at z
    exact .inl ⟨h1, q _ _ _ (c D) z⟩
theorem lc_VN {β : Type} (T : β → V) (p : α → Bool) (f : α → β) (it : IterN g L J tg xs row S) (hw : ∀ x pr, wipe (S x pr (wipe σ vs)) vs = wipe σ vs) (hl : xs.length ≤ 99999)
    (hs : ∀ x pr, x ∈ xs → ∀ (D : Addr) (acc : List V), Wp g (L ++ [(D, .ob (.lst acc), true)] ++ [(pr, .ob (.tup (row x)), false)]) (tt (S x pr (wipe σ vs))) fun b L2 => b = p x ∧
      if b = true then Wp g L2 (te (S x pr (wipe σ vs))) fun y L3 => y = T (f x) ∧ (L ++ [(D, .ob (.lst acc), true)]) <+: L3 else (L ++ [(D, .ob (.lst acc), true)]) <+: L2)
    (c : ∀ D, C (.ref D) (L ++ [(D, .ob (.lst (((xs.filter p).map f).map T)), true)])) : WLc g L J tg tt te vs σ C := by
  refine lc_GN (fun ys => .ob (.lst (ys.map T))) (fun _ => rfl) p f it hw hl (fun _ => rfl) (fun x pr hx D acc => ?_) c
  refine (hs x pr hx D (acc.map T)).mono fun b L2 ⟨e, k⟩ => ⟨e, ?_⟩
  cases b with
  | true =>
    refine Wp.mono (show Wp g L2 _ _ from k) fun y L3 ⟨ey, hp⟩ => ⟨hp, fun H z => ?_⟩
    have hg := (z.pre hp).get (i := L.length) (a := D) (o := .lst (acc.map T)) (b := true) (by simp)
    subst ey
    refine ⟨_, hg, by rw [List.length_map], ?_⟩
    show HO.lst _ = HO.lst _
    rw [List.map_append]
    rfl
  | false => exact k
theorem lc_TN {β : Type} (rw_ : β → List V) (p : α → Bool) (f : α → β) (it : IterN g L J tg xs row S) (hw : ∀ x pr, wipe (S x pr (wipe σ vs)) vs = wipe σ vs) (hl : xs.length ≤ 99999)
    (hs : ∀ x pr, x ∈ xs → ∀ (D : Addr) (acc : List (List V)), Wp g (L ++ [(D, .rows acc, true)] ++ [(pr, .ob (.tup (row x)), false)]) (tt (S x pr (wipe σ vs))) fun b L2 => b = p x ∧
      if b = true then Wp g L2 (te (S x pr (wipe σ vs))) fun y L3 => (∃ (q : Addr) (j : Nat) (bo : Bool), y = .ref q ∧ L3[j]? = some (q, .ob (.tup (rw_ (f x))), bo)) ∧ (L ++ [(D, .rows acc, true)]) <+: L3 else (L ++ [(D, .rows acc, true)]) <+: L2)
    (c : ∀ D, C (.ref D) (L ++ [(D, .rows (((xs.filter p).map f).map rw_), true)])) : WLc g L J tg tt te vs σ C := by
  refine lc_GN (fun ys => .rows (ys.map rw_)) (fun _ => rfl) p f it hw hl (fun _ => ⟨[], rfl, rfl, fun k a r h => by simp at h⟩) (fun x pr hx D acc => ?_) c
  refine (hs x pr hx D (acc.map rw_)).mono fun b L2 ⟨e, k⟩ => ⟨e, ?_⟩
  cases b with
  | true =>
    refine Wp.mono (show Wp g L2 _ _ from k) fun y L3 ⟨⟨q, j, bo, ey, hq⟩, hp⟩ => ⟨hp, fun H z => ?_⟩
    obtain ⟨o, hg, hin⟩ := (z.pre hp).look (i := L.length) (a := D) (e := .rows (acc.map rw_)) (b := true) (by simp)
    subst ey
    obtain ⟨as, e1, hl1, h3⟩ := hin
    subst e1
    refine ⟨_, hg, by rw [List.length_map, hl1, List.length_map], ?_⟩
    show (Ent.rows ((acc ++ [f x]).map rw_)).In _ _
    rw [List.map_append]
    exact rows_snoc ⟨as, rfl, hl1, h3⟩ hg (z.get hq)
  | false => exact k
end
/-- an item of a list of tuples -/
theorem wr_ixR {K : PySem.W.Frag} {g : Gr} {L : Led} {C : V → Led → Prop} {a : Addr} {bo : Bool} {rs : List (List V)} {r : List V} {k : Int} {jj : Nat} (j : Nat) (hj : L[j]? = some (a, .rows rs, bo)) (hk : ixN rs.length k = some jj) (hr : rs[jj]? = some r) (c : ∀ p, C (.ref p) (L ++ [(p, .ob (.tup r), false)])) : Wp g L (rIxL K (.ref a) (.int k)) C :=
  fun H z Q q => by
    obtain ⟨o, h1, as, e1, hl, hrs⟩ := z.look hj
    subst e1
    have hlt : jj < as.length := by rw [hl]; exact (List.getElem?_eq_some_iff.mp hr).1
    have hx3 := hrs jj as[jj] r (List.getElem?_eq_getElem hlt) hr
    refine ⟨a, as.map V.ref, k, .ref as[jj], rfl, rfl, SqL.of h1, ?_, q _ _ _ (c _) (z.addT hx3)⟩
    unfold atI
    rw [List.length_map, hl, hk]
    show (as.map V.ref)[jj]? = _
    rw [List.getElem?_map, List.getElem?_eq_getElem hlt]
    rfl
end Kr
/-! ### rows of numbers and None as data -/
namespace Kr
open PySem L2
def plV : V → Bool
  | .int _ => true
  | .non => true
  | _ => false
def dV : V → PyData
  | .int n => .int n
  | _ => .none
def dR (r : List V) : PyData := .tuple (r.map dV)
section
variable {K : PySem.W.Frag} {H : Hp}
theorem dp_dV {v : V} (h : plV v = true) : Dp K H v (dV v) := by
  cases v with
  | int n => exact .int n
  | non => exact .non
  | _ => cases h
theorem dpAll_dV : ∀ {r : List V}, r.all plV = true → DpAll K H r (r.map dV)
  | [], _ => .nil
  | v :: r, h => by
    rw [List.all_cons, Bool.and_eq_true] at h
    exact .cons (dp_dV h.1) (dpAll_dV h.2)
theorem eqv_dV {v w : V} (h1 : plV v = true) (h2 : plV w = true) : (dV v).eqv (dV w) = decide (v = w) := by
  cases v with
  | int n =>
    cases w with
    | int m =>
      rw [Bool.eq_iff_iff]
      simp [dV, PyData.eqv]
    | non => simp [dV, PyData.eqv]
    | _ => cases h2
  | non =>
    cases w with
    | int m => simp [dV, PyData.eqv]
    | non => simp [dV, PyData.eqv]
    | _ => cases h2
  | _ => cases h1
theorem eqvAll_dV : ∀ {r q : List V}, r.all plV = true → q.all plV = true → PyData.eqvAll (r.map dV) (q.map dV) = decide (r = q)
  | [], [], _, _ => by simp [PyData.eqvAll]
  | [], _ :: _, _, _ => by simp [PyData.eqvAll]
  | _ :: _, [], _, _ => by simp [PyData.eqvAll]
  | v :: r, w :: q, h1, h2 => by
    rw [List.all_cons, Bool.and_eq_true] at h1 h2
    rw [List.map_cons, List.map_cons]
    unfold PyData.eqvAll
    rw [eqv_dV h1.1 h2.1, eqvAll_dV h1.2 h2.2, Bool.eq_iff_iff]
    simp
theorem eqv_dR {r q : List V} (h1 : r.all plV = true) (h2 : q.all plV = true) : (dR r).eqv (dR q) = decide (r = q) := by
  unfold dR PyData.eqv
  exact eqvAll_dV h1 h2
theorem eqvAll_dR : ∀ {rs qs : List (List V)}, rs.all (fun r => r.all plV) = true → qs.all (fun r => r.all plV) = true → PyData.eqvAll (rs.map dR) (qs.map dR) = decide (rs = qs)
  | [], [], _, _ => by simp [PyData.eqvAll]
  | [], _ :: _, _, _ => by simp [PyData.eqvAll]
  | _ :: _, [], _, _ => by simp [PyData.eqvAll]
  | v :: r, w :: q, h1, h2 => by
    rw [List.all_cons, Bool.and_eq_true] at h1 h2
    rw [List.map_cons, List.map_cons]
    unfold PyData.eqvAll
    rw [eqv_dR h1.1 h2.1, eqvAll_dR h1.2 h2.2, Bool.eq_iff_iff]
    simp
theorem canLay_dV (v : V) : PyData.canLay0 (dV v) = true := by
  cases v <;> simp [dV, PyData.canLay0]
theorem canLayAll_dV : ∀ r : List V, PyData.canLayAll0 (r.map dV) = true
  | [] => by simp [PyData.canLayAll0]
  | v :: r => by
    rw [List.map_cons]
    simp only [PyData.canLayAll0, canLay_dV v, canLayAll_dV r, Bool.and_true]
theorem canLayAll_dR : ∀ rs : List (List V), PyData.canLayAll0 (rs.map dR) = true
  | [] => by simp [PyData.canLayAll0]
  | r :: rs => by
    rw [List.map_cons]
    simp only [PyData.canLayAll0, dR, PyData.canLay0, canLayAll_dV r, canLayAll_dR rs, Bool.and_true]
theorem depth_dV : ∀ r : List V, PyData.depthAll (r.map dV) ≤ 10
  | [] => by simp [PyData.depthAll]
  | v :: r => by
    have := depth_dV r
    have h : PyData.depth (dV v) ≤ 10 := by cases v <;> simp [dV, PyData.depth]
    rw [List.map_cons]
    simp only [PyData.depthAll]
    omega
theorem depth_dR : ∀ rs : List (List V), PyData.depthAll (rs.map dR) ≤ 20
  | [] => by simp [PyData.depthAll]
  | r :: rs => by
    have := depth_dR rs
    have h := depth_dV r
    rw [List.map_cons]
    simp only [PyData.depthAll, dR, PyData.depth]
    omega
theorem shaped_dR (rs : List (List V)) : SeqAt.shaped (.list (rs.map dR)) = true := by
  have h1 := depth_dR rs
  have h2 : PyData.depth (.list (rs.map dR)) ≤ 64 := by simp only [PyData.depth]; omega
  show (PyData.canLay0 (.list (rs.map dR)) && decide (PyData.depth (.list (rs.map dR)) ≤ 64)) = true
  rw [Bool.and_eq_true]
  exact ⟨by simp only [PyData.canLay0]; exact canLayAll_dR rs, decide_eq_true h2⟩
theorem dpAll_dR {H : Hp} : ∀ (as : List Addr) (rs : List (List V)), as.length = rs.length → rs.all (fun r => r.all plV) = true → (∀ (k : Nat) (b : Addr) (r : List V), as[k]? = some b → rs[k]? = some r → H b = some (.tup r)) → DpAll K H (as.map V.ref) (rs.map dR)
  | [], [], _, _, _ => .nil
  | [], _ :: _, h, _, _ => by cases h
  | _ :: _, [], h, _, _ => by cases h
  | a :: as, r :: rs, h, hp, hr => by
    rw [List.all_cons, Bool.and_eq_true] at hp
    exact .cons (.tup (SqT.of (hr 0 a r rfl rfl)) (dpAll_dV hp.1)) (dpAll_dR as rs (by simpa using h) hp.2 fun k b q h1 h2 => hr (k + 1) b q h1 h2)
end
section
variable {K : PySem.W.Frag} {g : Gr} {L : Led} {C : V → Led → Prop} {a a2 : Addr} {bo b2 : Bool}
theorem dp_rowsG {rs : List (List V)} (j : Nat) (hj : L[j]? = some (a, .rows rs, bo)) (hp : rs.all (fun r => r.all plV) = true) : DpA K g L (.ref a) (.list (rs.map dR)) := fun H z => by
  obtain ⟨o, h1, as, e1, hl, hr⟩ := z.look hj
  subst e1
  exact .lst (SqL.of h1) (dpAll_dR as rs hl hp hr)
theorem eqv_rows {rs qs : List (List V)} (h1 : rs.all (fun r => r.all plV) = true) (h2 : qs.all (fun r => r.all plV) = true) : PyData.eqv (.list (rs.map dR)) (.list (qs.map dR)) = decide (rs = qs) := by
  unfold PyData.eqv
  exact eqvAll_dR h1 h2
theorem wr_neRR {rs qs : List (List V)} (i j : Nat) (hi : L[i]? = some (a, .rows rs, bo)) (hj : L[j]? = some (a2, .rows qs, b2)) (h1 : rs.all (fun r => r.all plV) = true) (h2 : qs.all (fun r => r.all plV) = true) (c : C (.bl (!decide (rs = qs))) L) : Wp g L (rNeD K (.ref a) (.ref a2)) C :=
  wr_neD (dp_rowsG i hi h1) (dp_rowsG j hj h2) (shaped_dR rs) (shaped_dR qs) (by rw [eqv_rows h1 h2]; exact c)
theorem wr_eqRR {rs qs : List (List V)} (i j : Nat) (hi : L[i]? = some (a, .rows rs, bo)) (hj : L[j]? = some (a2, .rows qs, b2)) (h1 : rs.all (fun r => r.all plV) = true) (h2 : qs.all (fun r => r.all plV) = true) (c : C (.bl (decide (rs = qs))) L) : Wp g L (rEqD K (.ref a) (.ref a2)) C :=
  wr_eqD (dp_rowsG i hi h1) (dp_rowsG j hj h2) (shaped_dR rs) (shaped_dR qs) (by rw [eqv_rows h1 h2]; exact c)
theorem wr_neRL {rs : List (List V)} (i : Nat) (hi : L[i]? = some (a, .rows rs, bo)) (h1 : rs.all (fun r => r.all plV) = true) (s2 : Seen K g L a2 []) (c : C (.bl (!decide (rs = []))) L) : Wp g L (rNeD K (.ref a) (.ref a2)) C :=
  wr_neD (dp_rowsG i hi h1) (dp_lst s2 dps_nil) (shaped_dR rs) rfl (by
    have e := eqv_rows (rs := rs) (qs := []) h1 rfl
    rw [show PyData.eqv (.list (rs.map dR)) (.list []) = decide (rs = []) from e]
    exact c)
theorem wr_eqRL {rs : List (List V)} (i : Nat) (hi : L[i]? = some (a, .rows rs, bo)) (h1 : rs.all (fun r => r.all plV) = true) (s2 : Seen K g L a2 []) (c : C (.bl (decide (rs = []))) L) : Wp g L (rEqD K (.ref a) (.ref a2)) C :=
  wr_eqD (dp_rowsG i hi h1) (dp_lst s2 dps_nil) (shaped_dR rs) rfl (by
    have e := eqv_rows (rs := rs) (qs := []) h1 rfl
    rw [show PyData.eqv (.list (rs.map dR)) (.list []) = decide (rs = []) from e]
    exact c)
theorem pl_row2 (xs : List (Int × Int)) : (xs.map row2).all (fun r => r.all plV) = true := by
  rw [List.all_eq_true]
  intro r hr
  obtain ⟨x, _, rfl⟩ := List.mem_map.mp hr
  rfl
theorem pl_row3 (xs : List (Int × Int × Int)) : (xs.map row3).all (fun r => r.all plV) = true := by
  rw [List.all_eq_true]
  intro r hr
  obtain ⟨x, _, rfl⟩ := List.mem_map.mp hr
  rfl
theorem pl_row4 (xs : List (Int × Int × Int × Int)) : (xs.map row4).all (fun r => r.all plV) = true := by
  rw [List.all_eq_true]
  intro r hr
  obtain ⟨x, _, rfl⟩ := List.mem_map.mp hr
  rfl
end
end Kr
/-! ### over a tuple -/
namespace Kr
open PySem L2
theorem wi_tup {g : Gr} {L : Led} {σ : St} {T : It → Led → Prop} {Kf : PySem.W.Frag} {tl : TE} (h : Wp g L (tl σ) fun x L1 => ∃ (a : Addr) (xs : List V), x = V.ref a ∧ SeenT Kf g L1 a xs ∧ T (Itt Kf a) L1) : Wp g L (iTup Kf tl σ) T :=
  fun H z Q q => h H z _ fun x L1 H1 ⟨a, xs, e, s, c⟩ z1 => ⟨a, e, ⟨xs, s.at_ H1 z1⟩, q _ _ _ c z1⟩
theorem iter_tup {g : Gr} {L : Led} {a : Addr} {i : Nat} {Kf : PySem.W.Frag} {xs : List V} (s : SeenT Kf g L a xs) : Iter g L (Itt Kf a) (gName i) xs (fun x σ => σ.set i (some x)) := ⟨fun H z => by
  have hs := s.at_ H z
  refine ⟨⟨_, hs, Nat.le_refl _⟩, fun k x hx => ?_⟩
  refine ⟨⟨_, _, hs, hx⟩, fun v H' hy => ?_⟩
  obtain ⟨e1, e2⟩ := hy
  subst e1
  have e3 := e2 _ hs
  rw [hx] at e3
  have e3 := Option.some.inj e3
  subst e3
  exact ⟨same_refl, fun σ Q q => q⟩⟩
end Kr

set_option Elab.async false
set_option linter.all false
set_option maxRecDepth 100000
set_option maxHeartbeats 4000000
/-! ### set(xs) of a list of ints; sorted of it, any number of members -/
namespace Kr
open PySem PySem.Spec PyProof.Rows L2
section
variable {P : Program} {w : World} {A : Around} {E : Value → Shared → Prop} {s : Shared}
theorem call_set_listI {l : Addr} {items : Array Value} (ns : List Int) {Q : Value → Shared → Prop} (hh : A.handled = none) (hl : s.heap.IsList l items) (hit : IntsAre items.toList ns) (hb : ns.length + 1 < scanBound)
    (h : ∀ (h' : Heap) (tk c : Nat), SetR w h' s.heap.objs.size (fun j => decide (j ∈ ns)) c → c ≤ ns.length → (∀ b o, s.heap.get? b = some o → h'.get? b = some o) → Q (.ref s.heap.objs.size) { s with heap := h', toks := tk }) :
    wpAny (model P w) A (call (.type "set") [.ref l]) Q E s := by
  have hisz : items.size = ns.length := by
    have q := IntsAre.length hit
    rw [Array.length_toList] at q
    exact q
  obtain ⟨c, tl, hmro⟩ := F.called_set.mro
  have hmade := F.called_set.made
  have hsub := F.called_set.sub
  refine wpAny_call (codeAny_of_tree ?_)
  show wpAny _ _ (callAny (.type "set") _) _ _ _
  refine wpAny_pure ⟨Code.quiet_builtin _ (by decide +kernel), codeAny_builtin F.entry_type_call ?_⟩
  rw [Around.under_plain (weight_type_call_type "set" [.ref l] []) rfl]
  have h1 := F.called_set.notType
  have h2 := F.called_set.canCreate
  have hct := F.typeCall_set_1 (.ref l)
  repeat (any_goals (first | assumption | wp_step))
  refine codeAny_mono (code_set_led1 (.ref l) (E := E) (Q₁ := fun obj s₁ => obj = .ref s.heap.objs.size ∧ s₁ = { s with heap := s.heap.push { cls := .type "set", dict := none, data := .set #[] 0 (.fresh 0 0 (!w.params.followText "set-order")) } }) ⟨rfl, rfl⟩) fun r s₁ hr => ?_
  cases r with
  | error e => exact hr
  | ok fl =>
    cases fl with
    | ret obj =>
      obtain ⟨rfl, rfl⟩ := hr
      have hS : (s.heap.push { cls := .type "set", dict := none, data := .set #[] 0 (.fresh 0 0 (!w.params.followText "set-order")) }).get? s.heap.objs.size = some { cls := .type "set", dict := none, data := .set #[] 0 (.fresh 0 0 (!w.params.followText "set-order")) } := Heap.get?_push_size _ rfl
      have hT : Shared.TypeIs { s with heap := s.heap.push { cls := .type "set", dict := none, data := .set #[] 0 (.fresh 0 0 (!w.params.followText "set-order")) } } (.ref s.heap.objs.size) "set" := ⟨_, hS, rfl⟩
      have hli := F.called_set.init.lookup
      have hbi := F.called_set.init.bind (.ref s.heap.objs.size)
      repeat (any_goals (first | assumption | wp_step))
      refine codeAny_mono (codeAny_call_builtin (R := wants (fun r s₂ => r = .none ∧ ∃ h' tk c, s₂ = { s with heap := h', toks := tk } ∧ SetR w h' s.heap.objs.size (fun j => decide (j ∈ ns)) c ∧ c ≤ ns.length ∧
          (∀ b o, s.heap.get? b = some o → h'.get? b = some o)) E) F.called_set.init.plain F.entry_set_init (check_set_init_1 hT ?_)) fun r₂ s₂ hr₂ => ?_
      · obtain ⟨ol, hol, hcl, nl, hdl⟩ := hl
        obtain ⟨ocls, odict, odata, oslots⟩ := ol
        simp only at hcl hdl
        subst hcl; subst hdl
        have hol' : (s.heap.push { cls := .type "set", dict := none, data := .set #[] 0 (.fresh 0 0 (!w.params.followText "set-order")) }).get? l = some { cls := .type "list", dict := odict, data := .seq items nl, slots := oslots } := Heap.get?_push_of_some _ hol
        have hsls := F.sub_list_set
        have hslf := F.sub_list_frozenset
        have hne : (Value.type "list" == Value.type "dict") = false := by decide
        have hl1 : (s.heap.push { cls := .type "set", dict := none, data := .set #[] 0 (.fresh 0 0 (!w.params.followText "set-order")) }).IsList l items := ⟨_, hol', rfl, nl, rfl⟩
        unfold Builtin.«set.__init__» noKeywords Builtin.Frozenset.updateFrom
        generalize hPI : pyIter = PI
        wp_walk
        subst hPI
        refine wpAny_pyIter_list hl1 ?_
        refine wpAny_bind (wpAny_runValue ?_)
        have hlS : l < s.heap.objs.size := Heap.lt_size hol
        have hh3 : A.in1.in1.in1.handled = none := by simp [hh]
        have hz1 : (s.heap.push { cls := .type "set", dict := none, data := .set #[] 0 (.fresh 0 0 (!w.params.followText "set-order")) }).objs.size = s.heap.objs.size + 1 := Heap.size_push ..
        have hneI : l ≠ (s.heap.push { cls := .type "set", dict := none, data := .set #[] 0 (.fresh 0 0 (!w.params.followText "set-order")) }).objs.size := by
          rw [Heap.size_push]; exact Nat.ne_of_lt (Nat.lt_succ_of_lt hlS)
        have hSf : s.heap.objs.size ∉ [(s.heap.push { cls := .type "set", dict := none, data := .set #[] 0 (.fresh 0 0 (!w.params.followText "set-order")) }).objs.size, l] := by
          rw [Heap.size_push]; simp only [List.mem_cons, List.mem_singleton, List.not_mem_nil, or_false, not_or]
          exact ⟨Nat.ne_of_lt (Nat.lt_succ_self _), Nat.ne_of_gt hlS⟩
        have hval : ∀ (i : Nat) (v : Value), items[i]? = some v → ∃ k t, ns[i]? = some k ∧ v = .int k t := fun i v hv => by
          have hi : i < ns.length := by rw [← hisz]; exact (Array.getElem?_eq_some_iff.mp hv).1
          obtain ⟨t, e⟩ := PyProof.Rows.IntsAre.int_at hit i v (by rw [Array.getElem?_toList]; exact hv)
          refine ⟨ns[i], t, List.getElem?_eq_getElem hi, ?_⟩
          rw [e, List.getD_eq_getElem?_getD, List.getElem?_eq_getElem hi] <;> rfl
        refine set_update_ints ((Walks.list hh3 _ l hneI items).toS) s.heap.objs.size
          hSf ns hisz hb hval (items.size - 0) 0 _ (by omega) (Nat.zero_le _)
          ⟨⟨_, Heap.get?_push_size _ rfl, rfl, rfl⟩, (hl1.push _)⟩ ?hS0 ?hR
        case hS0 =>
          have hget : ((s.heap.push { cls := .type "set", dict := none, data := .set #[] 0 (.fresh 0 0 (!w.params.followText "set-order")) }).push { cls := .type "list_iterator", data := .fields #[.ref l, .int 0 0] }).get? s.heap.objs.size
              = some { cls := .type "set", dict := none, data := .set #[] 0 (.fresh 0 0 (!w.params.followText "set-order")) } := Heap.get?_push_of_some _ hS
          exact ⟨0, Nat.le_refl 0, setR_new_at hget⟩
        case hR =>
          intro s' c' hm hc' hS'
          obtain ⟨h', g2, d', tk', os'⟩ := s'
          have eg : g2 = s.gens := hm.gens
          have ed : d' = s.drawn := hm.drawn
          have eo : os' = s.os := hm.os
          subst eg; subst ed; subst eo
          show wpAny _ _ _ _ _ _
          refine wpAny_pure ?_
          show wpAny _ _ (ret Value.none) _ _ _
          rw [hisz] at hc'
          refine wpAny_pure ⟨rfl, h', tk', c', rfl, hS', hc', fun b o e => ?_⟩
          have hb0 : b < s.heap.objs.size := Heap.lt_size e
          have hb1 : b ≠ s.heap.objs.size := Nat.ne_of_lt hb0
          have hb2 : b ≠ (s.heap.push { cls := .type "set", dict := none, data := .set #[] 0 (.fresh 0 0 (!w.params.followText "set-order")) }).objs.size := by
            rw [Heap.size_push]; exact Nat.ne_of_lt (Nat.lt_succ_of_lt hb0)
          exact hm.heap b o (by simp only [List.mem_cons, List.mem_singleton, List.not_mem_nil, or_false, not_or]; exact ⟨hb1, hb2⟩) (Heap.get?_push_of_some _ (Heap.get?_push_of_some _ e))
      · cases r₂ with
        | error e => exact hr₂
        | ok fl₂ =>
          cases fl₂ with
          | ret r =>
            obtain ⟨rfl, h', tk, c', rfl, hS', hc', hk'⟩ := hr₂
            repeat (any_goals (first | assumption | wp_step))
            exact h _ _ _ hS' hc' hk'
          | _ => exact hr₂.elim
    | _ => exact hr.elim
/-- sorted(found), any number of members -/
theorem sorted_setO {a : Addr} {S : Int → Bool} {n : Nat} {Q : Value → Shared → Prop} (R : SetR w s.heap a S n) (hh : A.handled = none) (hz : n ≤ sizeLine)
    (hQ : ∀ s' p (out : Array Value) (c : Nat) (ns : List Int), (∀ b o, s.heap.get? b = some o → s'.heap.get? b = some o) → s'.gens = s.gens → s'.os = s.os → s.heap.objs.size ≤ p →
      s'.heap.get? p = some (seqObj "list" out c) → IntsAre out.toList ns → ns.Pairwise (· < ·) → (∀ k, k ∈ ns ↔ S k = true) → ns.length = n → Q (.ref p) s') :
    wpAny (model P w) A (call (.builtin "sorted") [.ref a]) Q E s := by
  obtain ⟨o, es, ep, t, ho, hex, hd, g, nd, hm, hb, hf, hn, hr, hl⟩ := R
  refine Calls.call_function_entry kind_sorted plain_sorted entry_sorted (args_sorted1 _) ?_
  unfold Builtin.«sorted»
  refine wpAny_bind (m := checkCount "sorted" 1 1 _) (wpAny_pure ?_)
  refine wpAny_bind (collect_set (A := A.in1) hh ⟨o, ho, hex.1, hd⟩ hf hb hr hl fun s1 vs k1 hz1 g1 o1 pm => ?_)
  have hvl : vs.length = n := by rw [pm.length_eq, List.length_map, Array.length_toList]; exact hn
  have hI : IntsAre vs (vs.map SrtO.iv) := SrtO.ints_iv fun v hv => by
    obtain ⟨e, he, q⟩ := List.mem_map.mp (pm.mem_iff.mp hv)
    obtain ⟨k, tk, h1, _⟩ := g e he
    exact ⟨k, tk, by rw [← q]; exact h1⟩
  have hkey : ∀ e ∈ es.toList, SrtO.iv e.2 = keyOf e := fun e he => by
    obtain ⟨k, tk, h1, _⟩ := g e he
    unfold keyOf
    rw [h1]
    rfl
  have pk : (vs.map SrtO.iv).Perm (es.toList.map keyOf) := by
    have q := pm.map SrtO.iv
    rw [List.map_map] at q
    have e2 : es.toList.map (SrtO.iv ∘ fun x => x.2) = es.toList.map keyOf := List.map_congr_left fun e he => hkey e he
    rw [← e2]
    exact q
  refine wpAny_bind (wpAny_newList ?_ (by rw [hvl]; exact hz))
  have hoL : (s1.heap.push (seqObj "list" vs.toArray 0)).get? s1.heap.objs.size = some (seqObj "list" vs.toArray 0) := Heap.get?_push_size _ rfl
  refine wpAny_bind (wpAny_holding (wpAny_call_entry PyProof.Rows.slot_list_sort ⟨_, hoL, rfl⟩ PyProof.Rows.entry_list_sort (SrtO.list_sort_ord SrtO.swo_int hoL (by rw [hvl]; exact hz) (fun h2 => SrtO.ints_sortable hI h2) fun out h1 h2 => ⟨_, rfl, ?_⟩) (PyProof.Rows.args_list_sort _)))
  obtain ⟨q1, q2, q3⟩ := SrtO.ints_out hI h1 h2
  obtain ⟨c, hc⟩ := PyProof.Rows.sortedHeap_at (vs := vs) (out := out.toArray) hoL
  have pn : (out.map SrtO.iv).Perm (es.toList.map keyOf) := q2.trans pk
  refine wpAny_pure ⟨_, rfl, hQ _ s1.heap.objs.size out.toArray c (out.map SrtO.iv) (fun b u e => ?_) g1 o1 hz1 hc (by simpa using q1) (lt_of_le_nodup _ q3 (pn.nodup_iff.mpr nd)) (fun k => by rw [pn.mem_iff, ← hm k]) ?_⟩
  · have q := k1 b u e
    have hlt := Heap.lt_size q
    show (sortedHeap (s1.heap.push (seqObj "list" vs.toArray 0)) s1.heap.objs.size vs out.toArray).get? b = some u
    rw [PyProof.Rows.sortedHeap_old (Nat.ne_of_lt hlt) (by rw [size_push']; exact Nat.lt_succ_of_lt hlt)]
    exact Heap.get?_push_of_some _ q
  · rw [pn.length_eq, List.length_map, Array.length_toList]; exact hn
end
section
variable {X : Cx}
def rSetI (K : PySem.W.Frag) (w : World) : List V → Hp → VK → Prop := fun xs H Q => ∃ (l : Addr) (ns : List Int), xs = [V.ref l] ∧ SqL K H l (ns.map V.int) ∧ ns.length ≤ 4000 ∧ ∀ (p : Addr) (c : Nat), H p = none → c ≤ ns.length → Q (.ref p) (upd H p (SetO w p (fun j => decide (j ∈ ns)) c))
theorem cr_setI (hc : X.calm = true) : CallR X (.type "set") (rSetI X.K X.w) := by
  intro pins s σ H xs us Q I r h
  obtain ⟨l, ns, rfl, hq, hl, q⟩ := h
  rw [Vals.ref1 r]
  obtain ⟨its, rv, pl, hz⟩ := I.list hq
  refine call_set_listI ns (I.ok.hd hc) pl.isList (by simpa using RZ.intsAre_vals rv) (by unfold scanBound; omega) fun h' tk c hS hc' hk => ?_
  exact ⟨.ref _, upd H s.heap.objs.size (SetO X.w s.heap.objs.size (fun j => decide (j ∈ ns)) c), I.laid (t' := tk) hk (Nat.le_refl _) (setO_new hS), rfl, q _ c (I.hok.fresh (Nat.le_refl _)) hc'⟩
def rSortedSetO (w : World) : List V → Hp → VK → Prop := fun vs H Q => ∃ (a : Addr) (S : Int → Bool) (n : Nat), vs = [V.ref a] ∧ H a = some (SetO w a S n) ∧ n ≤ 4000 ∧
  ∀ (ns : List Int) (p : Addr), ns.Pairwise (· < ·) → (∀ k : Int, k ∈ ns ↔ S k = true) → ns.length = n → H p = none → Q (.ref p) (upd H p (.lst (ns.map V.int)))
theorem cr_sortedSetO (hc : X.calm = true) : CallR X (.builtin "sorted") (rSortedSetO X.w) := by
  intro pins s σ H vs us Q I r h
  obtain ⟨a, S, n, rfl, ha, h64, q⟩ := h
  have R := setO_get I ha
  rw [Vals.ref1 r]
  refine sorted_setO R (I.ok.hd hc) (by rw [sizeLine_eq]; omega) fun s' p out c ns k g o hp hg hi hs hm hl => ?_
  have hlen : (ns.map V.int).length ≤ sizeLine := by rw [List.length_map, hl, sizeLine_eq]; omega
  have hn : H p = none := I.hok.fresh hp
  have J : Inv X pins σ (upd H p (.lst (ns.map V.int))) { s with heap := s'.heap, gens := s'.gens, drawn := s'.drawn, toks := s'.toks } :=
    I.call (ch := []) (Un.laid k hp hn) (I.hok.laid k hp ⟨hlen, out.toList, c, vals_of_ints hi, hg⟩) (by rw [g]; exact I.bare) (fun _ z => nomatch z)
  have e : s' = { s with heap := s'.heap, gens := s'.gens, drawn := s'.drawn, toks := s'.toks } := by
    cases s'
    cases s
    cases o
    rfl
  rw [e]
  exact ⟨.ref p, _, J, rfl, q ns p hs hm hl hn⟩
end
section
variable {K : PySem.W.Frag} {w : World} {g : Gr} {L : Led} {C : V → Led → Prop} {a : Addr}
theorem wc_set {ns : List Int} (s : Seen K g L a (ns.map V.int)) (hl : ns.length ≤ 4000) (c : ∀ (p : Addr) (n : Nat), n ≤ ns.length → C (.ref p) (L ++ [(p, .ob (SetO w p (fun j => decide (j ∈ ns)) n), true)])) : Wp g L (rSetI K w [.ref a]) C :=
  fun H z Q q => ⟨a, ns, rfl, s.at_ H z, hl, fun p n hp hn => q _ _ _ (c p n hn) (z.upd_new hp)⟩
theorem wc_sortedSet {S : Int → Bool} {n : Nat} {bo : Bool} (i : Nat) (h : L[i]? = some (a, .ob (SetO w a S n), bo)) (hn : n ≤ 4000) (c : ∀ (ns : List Int) (p : Addr), ns.Pairwise (· < ·) → (∀ k : Int, k ∈ ns ↔ S k = true) → ns.length = n → C (.ref p) (L ++ [(p, .ob (.lst (ns.map V.int)), true)])) : Wp g L (rSortedSetO w [.ref a]) C :=
  fun H z Q q => ⟨a, S, n, rfl, z.get h, hn, fun ns p h1 h2 h3 hp => q _ _ _ (c ns p h1 h2 h3) (z.upd_new hp)⟩
end
end Kr

set_option Elab.async false
set_option linter.all false
set_option maxRecDepth 100000
/-! ### None or a number, compared -/
namespace Kr
open PySem L2
def leV (v : V) (hi : Int) : Bool := match v with
  | .int n => decide (n ≤ hi)
  | _ => false
def ltV (v : V) (hi : Int) : Bool := match v with
  | .int n => decide (n < hi)
  | _ => false
section
variable {g : Gr} {L : Led} {C : V → Led → Prop}
theorem wr_leO {v : V} {hi : Int} (h : ∃ n : Int, v = .int n) (c : C (.bl (leV v hi)) L) : Wp g L (rI0 (fun i j => .bl (decide (i ≤ j))) v (.int hi)) C := by
  obtain ⟨n, rfl⟩ := h
  exact wr0 c
theorem wr_ltO {v : V} {hi : Int} (h : ∃ n : Int, v = .int n) (c : C (.bl (ltV v hi)) L) : Wp g L (rI0 (fun i j => .bl (decide (i < j))) v (.int hi)) C := by
  obtain ⟨n, rfl⟩ := h
  exact wr0 c
end
end Kr
namespace Kr
open PySem L2
def inO (v : V) (ns : List Int) : Bool := match v with
  | .int n => decide (n ∈ ns)
  | _ => false
theorem wr_inO {K : PySem.W.Frag} {g : Gr} {L : Led} {C : V → Led → Prop} {a : Addr} {v : V} {ns : List Int} (h : v = .non ∨ ∃ n : Int, v = .int n) (s : Seen K g L a (ns.map V.int)) (c : C (.bl (inO v ns)) L) : Wp g L (rIn K false v (.ref a)) C := by
  rcases h with rfl | ⟨n, rfl⟩
  · refine wr_in s rfl flat_ints ?_
    have e : inV .non (ns.map V.int) = false := by
      unfold inV
      rw [List.any_eq_false]
      intro x hx
      obtain ⟨m, _, rfl⟩ := List.mem_map.mp hx
      simp [eqV]
    rw [e]
    exact c
  · exact wr_inI s c
end Kr

set_option Elab.async false
set_option linter.all false
set_option maxRecDepth 100000
set_option maxHeartbeats 1000000
/-! ### least of a list; something else put into a list of tuples -/
open PySem L2
namespace Kr
section
variable {K : PySem.W.Frag} {g : Gr} {L : Led} {σ : St} {C : V → Led → Prop} {a p : Addr} {bo : Bool}
theorem wp_lst0 (c : ∀ p, C (.ref p) (L ++ [(p, .ob (.lst (([] : List Int).map V.int)), true)])) : Wp g L (tLst tNil σ) C := wp_lst (wa_nil ⟨by simp, c⟩)
theorem wc_minL {ns : List Int} (s : Seen K g L a (ns.map V.int)) (h0 : 0 < ns.length) (c : ∀ m : Int, m ∈ ns → (∀ k ∈ ns, m ≤ k) → C (.int m) L) : Wp g L (rMin K [.ref a]) C :=
  fun H z Q q => ⟨a, ns, rfl, s.at_ H z, h0, fun m h1 h2 => q _ _ _ (c m h1 h2) z⟩
theorem wr_appX {rs : List (List V)} {x : V} (i : Nat) (h : L[i]? = some (a, .rows rs, true)) (hl : rs.length < 100000) (c : ∀ xs : List V, C .non (L.set i (a, .ob (.lst xs), true))) : Wp g L (rAppend (.ref a) [x]) C :=
  fun H z Q q => by
    obtain ⟨o, h1, as, e1, hl1, h3⟩ := z.look h
    subst e1
    refine ⟨a, _, x, rfl, rfl, h1, Nat.lt_of_lt_of_le (by rw [List.length_map, hl1]; exact hl) (by decide), q _ _ _ (c (as.map V.ref ++ [x])) ?_⟩
    exact z.chg h (fun c u e z => by rw [upd_ne z]; exact e) upd_same rfl
theorem wp_bm0 {T : String} {r : V → List V → Hp → VK → Prop} {te : TE} (h : Wp g L (te σ) fun x L1 => (∀ H, At g L1 H → tyV K T x H) ∧ Wp g L1 (r x []) C) : Wp g L (tBM0 K T r te σ) C :=
  fun H z Q q => h H z _ fun x L1 H1 ⟨k, h1⟩ z1 => ⟨k H1 z1, h1 H1 z1 Q q⟩
/-- the last row taken off a list of tuples -/
theorem wr_popR {rs : List (List V)} {r : List V} (i : Nat) (h : L[i]? = some (a, .rows (rs ++ [r]), true)) (c : ∀ p, C (.ref p) (L.set i (a, .rows rs, true) ++ [(p, .ob (.tup r), false)])) : Wp g L (rPop (.ref a) []) C :=
  fun H z Q q => by
    obtain ⟨o, h1, as, e1, hl1, h3⟩ := z.look h
    subst e1
    have hne : as ≠ [] := fun e => by
      subst e
      simp at hl1
    obtain ⟨as0, p, rfl⟩ : ∃ as0 p, as = as0 ++ [p] := ⟨as.dropLast, as.getLast hne, (List.dropLast_concat_getLast hne).symm⟩
    have hl0 : as0.length = rs.length := by simpa using hl1
    have hp : H p = some (.tup r) := h3 as0.length p r (by simp) (by rw [hl0]; simp)
    have hup : ∀ (c : Addr) (u : List V) (w : HO), H c = some (.tup u) → upd H a w c = some (.tup u) := fun c u w e => by
      rw [upd_ne (fun z => by
        subst z
        rw [h1] at e
        cases e)]
      exact e
    refine ⟨a, _, .ref p, rfl, rfl, h1, by simp, q _ _ _ (c p) ?_⟩
    rw [show ((as0 ++ [p]).map V.ref).dropLast = as0.map V.ref by simp]
    have z2 := z.chg (e' := .rows rs) h (fun c u e z => by rw [upd_ne z]; exact e) (upd_same (o := .lst (as0.map V.ref))) ⟨as0, rfl, hl0, fun k c u hk hu => hup _ _ _ (h3 k c u (by rw [List.getElem?_append_left (List.getElem?_eq_some_iff.mp hk).1]; exact hk) (by rw [List.getElem?_append_left (List.getElem?_eq_some_iff.mp hu).1]; exact hu))⟩
    exact z2.addT (hup _ _ _ hp)
theorem wr_popM {α : Type} {rs : List α} {x : α} {f : α → List V} (i : Nat) (h : L[i]? = some (a, .rows ((rs ++ [x]).map f), true)) (c : ∀ p, C (.ref p) (L.set i (a, .rows (rs.map f), true) ++ [(p, .ob (.tup (f x)), false)])) : Wp g L (rPop (.ref a) []) C :=
  wr_popR i (by rw [h, List.map_append]; rfl) c
end
/-! ### enumerate of a list of tuples, with a target in a target -/
section
variable {α : Type} {g : Gr} {L : Led} {a : Addr} {i : Nat} {Kf : PySem.W.Frag} {bo : Bool} {K : PySem.W.Frag} {σ : St}
theorem iter_enumR (i1 : Nat) (is : List Nat) (row : α → List V) {xs : List α} {n : Nat} (j : Nat) (hj : L[j]? = some (a, .rows (xs.map row), bo)) (hn : ∀ x, (row x).length = n) (hi : is.length = n) :
    Iter g L (Ite Kf a) (gTup Kf 2 (gCons (gName i1) (gCons (gTup Kf n (gNames is)) gNil))) xs.zipIdx (fun x σ => setL is (row x.1) (σ.set i1 (some (.int (x.2 : Nat))))) := ⟨fun H z => by
  obtain ⟨o, h1, as, e1, hl, hr⟩ := z.look hj
  subst e1
  rw [List.length_map] at hl
  have hs : SqL Kf H a (as.map V.ref) := SqL.of h1
  refine ⟨⟨_, hs, by rw [List.length_map, List.length_zipIdx, hl]; exact Nat.le_refl _⟩, fun k x hx => ?_⟩
  rw [List.getElem?_zipIdx] at hx
  cases hq : xs[k]? with
  | none => rw [hq] at hx; cases hx
  | some y =>
    rw [hq] at hx
    have hx : (y, 0 + k) = x := Option.some.inj hx
    subst hx
    have hk : k < as.length := by
      have := (List.getElem?_eq_some_iff.mp hq).1
      omega
    have hx2 : (as.map V.ref)[k]? = some (.ref as[k]) := by rw [List.getElem?_map, List.getElem?_eq_getElem hk]; rfl
    have hx3 := hr k as[k] (row y) (List.getElem?_eq_getElem hk) (by rw [List.getElem?_map, hq]; rfl)
    refine ⟨⟨_, _, hs, hx2⟩, fun v H' hy => ?_⟩
    obtain ⟨t, w, e1, e2, e3, e4⟩ := hy
    have e5 := e4 _ hs
    rw [hx2] at e5
    have e5 := Option.some.inj e5
    subst e5 e1 e3
    have hx4 : upd H t (.tup [.int (k : Nat), .ref as[k]]) as[k] = some (.tup (row y)) := by rw [upd_ne (ne_of_none hx3 e2)]; exact hx3
    refine ⟨fun c u h => by rw [upd_ne (ne_of_none h e2)]; exact h, fun σ Q q => ⟨t, _, rfl, SqT.of upd_same, rfl, ?_⟩⟩
    have e6 : (0 + k : Nat) = k := Nat.zero_add k
    have q : Q (setL is (row y) (σ.set i1 (some (.int ((0 + k : Nat) : Int))))) _ := q
    rw [e6] at q
    exact ⟨_, _, rfl, _, _, rfl, _, _, rfl, SqT.of hx4, hn y, gNames_ok is (row y) (by rw [hi, hn]) ⟨rfl, q⟩⟩⟩
theorem wi_enumR {tr : TA} {T : It → Led → Prop} (j : Nat) (h : Wp g L (tr σ) fun vs L1 => ∃ (a : Addr) (bo : Bool) (rs : List (List V)), vs = [.ref a] ∧ L1[j]? = some (a, .rows rs, bo) ∧ T (Ite K a) L1) : Wp g L (iEnum K tr σ) T :=
  fun H z Q q => h H z _ fun x L1 H1 ⟨a, bo, rs, e, s, k⟩ z1 => by
    obtain ⟨o, h1, as, e1, _⟩ := z1.look s
    subst e1
    exact ⟨a, _, e, SqL.of h1, q _ _ _ k z1⟩
theorem room65 {k : Nat} {A : Around} (r : Room k A) : A.units + 65 < cLine := by have := r.un; omega
/-- None is no tuple of a list -/
theorem wr_inRN {C : V → Led → Prop} {rs : List (List V)} (i : Nat) (hi : L[i]? = some (a, .rows rs, bo)) (h1 : rs.all (fun r => r.all plV) = true) (c : C (.bl false) L) : Wp g L (rInD K .non (.ref a)) C :=
  .now (fun H _ z q => ⟨_, _, dp_non H z, dp_rowsG i hi h1 H z, rfl, shaped_dR rs, by
    have e : ((rs.map dR).any fun z => PyData.eqv z .none) = false := by
      rw [List.any_eq_false]
      intro x hx
      obtain ⟨r, _, rfl⟩ := List.mem_map.mp hx
      unfold dR
      simp [PyData.eqv]
    rw [e]
    exact q⟩) c
end
end Kr

set_option Elab.async false
set_option linter.all false
set_option maxRecDepth 100000
set_option maxHeartbeats 1000000
/-! ### a comprehension over a few written items, turn by turn; lists of lists -/
open PySem L2
namespace Kr
section
variable {α : Type} {g : Gr} {L : Led} {σ : St} {C : V → Led → Prop} {tt : TT} {te : TE} {tg : TG} {J : It} {S : α → St → St} {vs : List Nat}
/-- what is left to do: the items that are left, what the list at D has, the ledger -/
def Un (g : Gr) (J : It) (tg : TG) (tt : TT) (te : TE) (vs : List Nat) (σ : St) (S : α → St → St) (C : V → Led → Prop) (xs0 : List α) (D : Addr) (j : Nat) : List α → List V → Led → Prop
  | [], _, L => Iter g L J tg xs0 S ∧ C (.ref D) L
  | x :: r, acc, L => Iter g L J tg xs0 S ∧ Wp g L (tt (S x (wipe σ vs))) fun b L2 => if b = true then Wp g L2 (te (S x (wipe σ vs))) fun y L3 => L3[j]? = some (D, .ob (.lst acc), true) ∧ acc.length < 100000 ∧ Un g J tg tt te vs σ S C xs0 D j r (acc ++ [y]) (L3.set j (D, .ob (.lst (acc ++ [y])), true)) else L2[j]? = some (D, .ob (.lst acc), true) ∧ Un g J tg tt te vs σ S C xs0 D j r acc L2
variable {xs0 r : List α} {x : α} {D : Addr} {j : Nat} {acc : List V}
theorem un_cons (it : Iter g L J tg xs0 S) (h : Wp g L (tt (S x (wipe σ vs))) fun b L2 => if b = true then Wp g L2 (te (S x (wipe σ vs))) fun y L3 => L3[j]? = some (D, .ob (.lst acc), true) ∧ acc.length < 100000 ∧ Un g J tg tt te vs σ S C xs0 D j r (acc ++ [y]) (L3.set j (D, .ob (.lst (acc ++ [y])), true)) else L2[j]? = some (D, .ob (.lst acc), true) ∧ Un g J tg tt te vs σ S C xs0 D j r acc L2) : Un g J tg tt te vs σ S C xs0 D j (x :: r) acc L := ⟨it, h⟩
theorem un_nil (it : Iter g L J tg xs0 S) (h : C (.ref D) L) : Un g J tg tt te vs σ S C xs0 D j [] acc L := ⟨it, h⟩
theorem un_nf {xs : List α} {acc' : List V} {L' : Led} (e1 : acc = acc') (e2 : L = L') (h : Un g J tg tt te vs σ S C xs0 D j xs acc' L') : Un g J tg tt te vs σ S C xs0 D j xs acc L := by
  subst e1 e2
  exact h
theorem Un.it : ∀ {xs : List α} {acc : List V} {L : Led}, Un g J tg tt te vs σ S C xs0 D j xs acc L → Iter g L J tg xs0 S
  | [], _, _, h => h.1
  | _ :: _, _, _, h => h.1
theorem lc_U {xs : List α} (it0 : Iter g L J tg xs S) (hw : ∀ x, wipe (S x (wipe σ vs)) vs = wipe σ vs) (h : ∀ D, Un g J tg tt te vs σ S C xs D L.length xs [] (L ++ [(D, .ob (.lst []), true)])) : WLc g L J tg tt te vs σ C := fun H z Q q D hD => by
  refine ⟨fun i m H => i ≤ xs.length ∧ m = xs.length - i ∧ ∃ acc L', L'[L.length]? = some (D, .ob (.lst acc), true) ∧ At g L' H ∧ Un g J tg tt te vs σ S C xs D L.length (xs.drop i) acc L', ⟨xs.length, Nat.zero_le _, rfl, [], L ++ [(D, .ob (.lst []), true)], by simp, z.upd_new hD, (by rw [List.drop_zero]; exact h D)⟩, ?_⟩
  rintro i m H ⟨hi0, rfl, acc, L', hj, z, u⟩
  obtain ⟨h1, h2⟩ := u.it.at_ H z
  by_cases hlt : i < xs.length
  · have hxi := List.getElem?_eq_getElem hlt
    obtain ⟨h3, h4⟩ := h2 i xs[i] hxi
    refine .inr ⟨h3, fun H' => ∃ acc L', L'[L.length]? = some (D, .ob (.lst acc), true) ∧ At g L' H' ∧ Un g J tg tt te vs σ S C xs D L.length (xs.drop (i + 1)) acc L', fun H' q => ⟨xs.length - (i + 1), by omega, hlt, rfl, q⟩, fun v H' y => ?_⟩
    obtain ⟨h5, h6⟩ := h4 v H' y
    refine h6 _ _ ⟨hw _, ?_⟩
    rw [List.drop_eq_getElem_cons hlt] at u
    obtain ⟨_, u⟩ := u
    refine u H' (z.same h5) _ fun b L2 H2 k z2 => ?_
    cases b with
    | true =>
      have k : Wp g L2 _ _ := k
      show te _ _ _
      refine k H2 z2 _ fun y L3 H3 ⟨k1, k2, k3⟩ z3 => ?_
      refine ⟨acc, z3.get k1, Nat.lt_of_lt_of_le k2 (by decide), _, _, ?_, z3.upd_chg (o := .lst (acc ++ [y])) k1, k3⟩
      exact List.getElem?_set_self (List.getElem?_eq_some_iff.mp k1).1
    | false => exact ⟨acc, L2, k.1, z2, k.2⟩
  · have e1 : i = xs.length := by omega
    subst e1
    rw [List.drop_length] at u
    exact .inl ⟨h1, q _ _ _ u.2 z⟩
end
section
variable {g : Gr} {L : Led} {σ : St} {C : V → Led → Prop} {a : Addr} {i : Nat} {Kf : PySem.W.Frag}
/-- a list whose items are any values -/
theorem iter_listV {xs : List V} (s : Seen Kf g L a xs) : Iter g L (Itl Kf a) (gName i) xs (fun x σ => σ.set i (some x)) := ⟨fun H z => by
  obtain ⟨h1, h2⟩ := (iter_list (i := i) id (xs := xs) (by rw [List.map_id]; exact s)).at_ H z
  exact ⟨h1, h2⟩⟩
theorem wg_unl {N : St → Led → Prop} {n : Nat} {u : TGs} {xs : List V} (s : Seen Kf g L a xs) (hn : xs.length = n) (h : Wgs g L u xs σ N) : Wg g L (gUnl Kf n u) (.ref a) σ N := fun H z Q q => ⟨a, xs, rfl, s.at_ H z, hn, h H z Q q⟩
theorem wr_catL {a2 : Addr} {xs ys zs : List V} {b1 b2 : Bool} (i j : Nat) (h1 : L[i]? = some (a, .ob (.lst xs), b1)) (h2 : L[j]? = some (a2, .ob (.lst ys), b2)) (e : xs ++ ys = zs) (hl : xs.length + ys.length ≤ 100000)
    (c : ∀ p, C (.ref p) (L ++ [(p, .ob (.lst zs), true)])) : Wp g L (rCat (.ref a) (.ref a2)) C := by
  subst e
  exact wr_cat i j h1 h2 hl c
theorem wr_slLL {xs zs : List V} {lo hi : Option Int} (s : Seen Kf g L a xs) (e : cutV xs lo hi = zs) (c : ∀ p, C (.ref p) (L ++ [(p, .ob (.lst zs), true)])) : Wp g L (rSlL Kf (.ref a) lo hi) C := by
  subst e
  exact wr_slL s c
end
theorem pi_listK {X : Cx} {tg e : Expr} {te : TE} {Kf : PySem.W.Frag} (hK : X.K = Kf) (he : PE X e te) : PI X tg e (iList Kf te) := hK ▸ pi_list he
/-! ### unpacking of a list or a tuple -/
def gOr (t1 t2 : TG) : TG := fun v σ H Q => t1 v σ H Q ∨ t2 v σ H Q
theorem pg_or {X : Cx} {tg : Expr} {t1 t2 : TG} (h1 : PG X tg t1) (h2 : PG X tg t2) : PG X tg (gOr t1 t2) := ⟨fun pins s σ H v u Q I r hw => hw.elim (fun h => h1.run pins s σ H v u Q I r h) (fun h => h2.run pins s σ H v u Q I r h)⟩
theorem wg_seq {g : Gr} {L : Led} {σ : St} {Kf Kf' : PySem.W.Frag} {N : St → Led → Prop} {n n' : Nat} {u : TGs} {a : Addr} {xs : List V} (hs : g.H0 a = some (.tup xs) ∨ g.H0 a = some (.lst xs)) (hm : ¬ g.mu a) (hn : xs.length = n) (hn' : xs.length = n') (h : Wgs g L u xs σ N) : Wg g L (gOr (gTup Kf n u) (gUnl Kf' n' u)) (.ref a) σ N :=
  fun H z Q q => by
    rcases hs with e | e
    · exact .inl ⟨a, xs, rfl, SqT.of (z.old _ _ e hm), hn, h H z Q q⟩
    · exact .inr ⟨a, xs, rfl, SqL.of (z.old _ _ e hm), hn', h H z Q q⟩
/-! ### a list of tuples and one tuple more -/
section
variable {g : Gr} {L : Led} {C : V → Led → Prop} {a a2 p : Addr} {b1 b2 b3 : Bool}
theorem wr_catRT {rs : List (List V)} {r : List V} (i j k : Nat) (h : L[i]? = some (a, .rows rs, b1)) (h2 : L[j]? = some (a2, .ob (.lst [.ref p]), b2)) (h3 : L[k]? = some (p, .ob (.tup r), b3)) (hl : rs.length ≤ 99999) (c : ∀ q, C (.ref q) (L ++ [(q, .rows (rs ++ [r]), true)])) : Wp g L (rCat (.ref a) (.ref a2)) C :=
  fun H z Q q => by
    obtain ⟨o, h1, as, e1, hl1, h4⟩ := z.look h
    subst e1
    refine ⟨a, a2, _, _, rfl, rfl, h1, z.get h2, Nat.le_trans (by rw [List.length_map, hl1]; simp; omega : _ ≤ 100000) (by decide), fun s hs => q _ _ _ (c s) ?_⟩
    have up : ∀ (c : Addr) (u : HO), H c = some u → upd H s (.lst (as.map V.ref ++ [.ref p])) c = some u := fun c u e => by rw [upd_ne (ne_of_none e hs)]; exact e
    refine z.newE up hs upd_same ⟨as ++ [p], by simp, by simp [hl1], fun k' c' u hk hu => ?_⟩
    by_cases q1 : k' < as.length
    · rw [List.getElem?_append_left q1] at hk
      rw [List.getElem?_append_left (by omega)] at hu
      exact up _ _ (h4 k' c' u hk hu)
    · rw [List.getElem?_append_right (by omega)] at hk
      rw [List.getElem?_append_right (by omega), ← hl1] at hu
      have e0 : k' - as.length = 0 := by
        have := (List.getElem?_eq_some_iff.mp hk).1
        simp at this
        omega
      rw [e0] at hk hu
      have hk : p = c' := Option.some.inj hk
      have hu : r = u := Option.some.inj hu
      subst hk hu
      exact up _ _ (z.get h3)
end
/-! ### None, or a new tuple of a number and a number or None -/
section
def kW {β : Type} (row : β → List V) (A : Prop) (R : β → Prop) : Ks := { nx := fun _ _ => A, rt := fun v L => (v = .non ∧ A) ∨ ∃ (x : β) (p : Addr) (i : Nat), v = .ref p ∧ L[i]? = some (p, Ent.ob (.tup (row x)), true) ∧ R x }
theorem eo_W {β : Type} {row : β → List V} {H0 : Hp} {A : Prop} {R : β → Prop} {Q : VK} (h1 : A → ∀ H', Same H0 H' → Q .non H') (h2 : ∀ x p H', R x → H0 p = none → Same H0 H' → H' p = some (.tup (row x)) → Q (.ref p) H') : Eo ⟨H0, fun _ => False⟩ (kW row A R) { nx := fun _ H' => Q .non H', rt := Q } :=
  ⟨fun σ L H k z => h1 k _ z.since, fun v L H k z => by
    rcases k with ⟨e, k⟩ | ⟨x, p, i, e, k, r⟩
    · subst e
      exact h1 k _ z.since
    · subst e
      refine h2 x p H r ?_ z.since (z.get k)
      rcases z.own _ (List.mem_of_getElem? k) rfl with q | q
      · exact q
      · exact q.elim, fun _ _ _ e _ => e.elim, fun _ _ _ e _ => e.elim⟩
end
/-! ### loops: two own objects grow; a name that gets a new object in each turn -/
section
variable {α : Type} {g : Gr} {L : Led} {σ : St} {K : Ks} {tg : TG} {tb : TS} {J : It} {xs : List α} {S : α → St → St}
theorem wf_Gs (I : Nat → St → Led → Prop) (it : ∀ i σ L, I i σ L → Iter g L J tg xs S) (h0 : I 0 σ L)
    (hs : ∀ i x σ L, xs[i]? = some x → I i σ L → Ws g L tb (S x σ) { K with nx := fun σ' L' => ∃ L3, I (i + 1) σ' L3 ∧ L3.Sublist L', ct := fun σ' L' => ∃ L3, I (i + 1) σ' L3 ∧ L3.Sublist L', bk := K.nx })
    (hd : ∀ σ L, I xs.length σ L → K.nx σ L) : WFor g L J tg tb σ K := fun H z D e => by
  refine ⟨fun i m σ H => i ≤ xs.length ∧ m = xs.length - i ∧ ∃ L, I i σ L ∧ At g L H, ⟨xs.length, Nat.zero_le _, rfl, L, h0, z⟩, ?_⟩
  rintro i m σ H ⟨hi, rfl, L, k, z⟩
  obtain ⟨h1, h2⟩ := (it i σ L k).at_ H z
  by_cases hlt : i < xs.length
  · obtain ⟨h3, h4⟩ := h2 i xs[i] (List.getElem?_eq_getElem hlt)
    refine .inr ⟨h3, fun σ' H' => ∃ L, I (i + 1) σ' L ∧ At g L H', fun σ' H' q => ⟨xs.length - (i + 1), by omega, hlt, rfl, q⟩, fun v H' y => ?_⟩
    obtain ⟨h5, h6⟩ := h4 v H' y
    refine h6 σ _ ?_
    have kk : ∀ σ' L' H', (∃ L3, I (i + 1) σ' L3 ∧ L3.Sublist L') → At g L' H' → ∃ L, I (i + 1) σ' L ∧ At g L H' := fun σ' L' H' ⟨L3, hi, hp⟩ z' => ⟨L3, hi, z'.sub hp⟩
    exact hs i xs[i] σ L (List.getElem?_eq_getElem hlt) k H' (z.same h5) _ ⟨kk, e.rt, e.nx, kk⟩
  · have e1 : i = xs.length := by omega
    subst e1
    exact .inl ⟨h1, e.nx _ _ _ (hd σ L k) z⟩
theorem wf_A2 (j j2 : Nat) {a a2 : Addr} {e0 e02 : Ent} (hj : L[j]? = some (a, e0, true)) (hj2 : L[j2]? = some (a2, e02, true)) (hne : j ≠ j2) (it : ∀ e e2, Iter g ((L.set j (a, e, true)).set j2 (a2, e2, true)) J tg xs S) (I : Nat → List (Option (Option V)) → Ent → Ent → Prop) (h0 : ∃ vs, σ = putA σ vs ∧ I 0 vs e0 e02)
    (hs : ∀ i x vs e e2, xs[i]? = some x → I i vs e e2 → Ws g ((L.set j (a, e, true)).set j2 (a2, e2, true)) tb (S x (putA σ vs)) { K with nx := fun σ' L' => ∃ vs' e' e2', (σ' = putA σ vs' ∧ I (i + 1) vs' e' e2') ∧ (L.set j (a, e', true)).set j2 (a2, e2', true) <+: L', ct := fun σ' L' => ∃ vs' e' e2', (σ' = putA σ vs' ∧ I (i + 1) vs' e' e2') ∧ (L.set j (a, e', true)).set j2 (a2, e2', true) <+: L', bk := K.nx })
    (hd : ∀ vs e e2, I xs.length vs e e2 → K.nx (putA σ vs) ((L.set j (a, e, true)).set j2 (a2, e2, true))) : WFor g L J tg tb σ K := by
  obtain ⟨vs0, e0', k0⟩ := h0
  have hL : (L.set j (a, e0, true)).set j2 (a2, e02, true) = L := by
    rw [set_self hj, set_self hj2]
  refine wf_G (xs := xs) (S := S) (fun i σ' L' => ∃ vs e e2, (σ' = putA σ vs ∧ I i vs e e2) ∧ L' = (L.set j (a, e, true)).set j2 (a2, e2, true)) (fun i σ' L' ⟨vs, e, e2, _, q⟩ => q ▸ it e e2) ⟨vs0, _, _, ⟨e0', k0⟩, hL.symm⟩ ?_ ?_
  · rintro i x σ' L' hi ⟨vs, en, en2, ⟨rfl, k⟩, rfl⟩
    intro H3 z3 D e
    have kk : ∀ σ' L'' H', (∃ vs' e' e2', (σ' = putA σ vs' ∧ I (i + 1) vs' e' e2') ∧ (L.set j (a, e', true)).set j2 (a2, e2', true) <+: L'') → At g L'' H' → D.nx σ' H' := fun σ' L'' H' ⟨vs', e', e2', h1, h2⟩ z' => e.nx σ' L'' H' ⟨_, ⟨vs', e', e2', h1, rfl⟩, h2⟩ z'
    have kc : ∀ σ' L'' H', (∃ vs' e' e2', (σ' = putA σ vs' ∧ I (i + 1) vs' e' e2') ∧ (L.set j (a, e', true)).set j2 (a2, e2', true) <+: L'') → At g L'' H' → D.ct σ' H' := fun σ' L'' H' ⟨vs', e', e2', h1, h2⟩ z' => e.ct σ' L'' H' ⟨_, ⟨vs', e', e2', h1, rfl⟩, h2⟩ z'
    exact hs i x vs en en2 hi k H3 z3 D ⟨kk, e.rt, e.bk, kc⟩
  · rintro σ' L' ⟨vs, en, en2, ⟨rfl, k⟩, rfl⟩
    exact hd vs en en2 k
theorem sub_one {L0 L' : Led} {e : Addr × Ent × Bool} (h : L0 <+: L') (hq : ∃ q, L0.length ≤ q ∧ L'[q]? = some e) : (L0 ++ [e]).Sublist L' := by
  obtain ⟨r, rfl⟩ := h
  obtain ⟨q, h1, h2⟩ := hq
  rw [List.getElem?_append_right h1] at h2
  exact List.Sublist.append (List.Sublist.refl _) (List.singleton_sublist.mpr (List.mem_of_getElem? h2))
theorem wf_X1 (L0 : Led) (x0 : Addr × Ent × Bool) (hL : L = L0 ++ [x0]) (it : ∀ e, Iter g (L0 ++ [e]) J tg xs S) (I : Nat → List (Option (Option V)) → (Addr × Ent × Bool) → Prop) (h0 : ∃ vs, σ = putA σ vs ∧ I 0 vs x0)
    (hs : ∀ i x vs e, xs[i]? = some x → I i vs e → Ws g (L0 ++ [e]) tb (S x (putA σ vs)) { K with nx := fun σ' L' => ∃ vs' e', (σ' = putA σ vs' ∧ I (i + 1) vs' e') ∧ L0 <+: L' ∧ ∃ q, L0.length ≤ q ∧ L'[q]? = some e', ct := fun σ' L' => ∃ vs' e', (σ' = putA σ vs' ∧ I (i + 1) vs' e') ∧ L0 <+: L' ∧ ∃ q, L0.length ≤ q ∧ L'[q]? = some e', bk := K.nx })
    (hd : ∀ vs e, I xs.length vs e → K.nx (putA σ vs) (L0 ++ [e])) : WFor g L J tg tb σ K := by
  obtain ⟨vs0, e0', k0⟩ := h0
  subst hL
  refine wf_Gs (xs := xs) (S := S) (fun i σ' L' => ∃ vs e, (σ' = putA σ vs ∧ I i vs e) ∧ L' = L0 ++ [e]) (fun i σ' L' ⟨vs, e, _, q⟩ => q ▸ it e) ⟨vs0, _, ⟨e0', k0⟩, rfl⟩ ?_ ?_
  · rintro i x σ' L' hi ⟨vs, en, ⟨rfl, k⟩, rfl⟩
    intro H3 z3 D e
    have kk : ∀ σ' L'' H', (∃ vs' e', (σ' = putA σ vs' ∧ I (i + 1) vs' e') ∧ L0 <+: L'' ∧ ∃ q, L0.length ≤ q ∧ L''[q]? = some e') → At g L'' H' → D.nx σ' H' := fun σ' L'' H' ⟨vs', e', h1, h2, h3⟩ z' => e.nx σ' L'' H' ⟨_, ⟨vs', e', h1, rfl⟩, sub_one h2 h3⟩ z'
    have kc : ∀ σ' L'' H', (∃ vs' e', (σ' = putA σ vs' ∧ I (i + 1) vs' e') ∧ L0 <+: L'' ∧ ∃ q, L0.length ≤ q ∧ L''[q]? = some e') → At g L'' H' → D.ct σ' H' := fun σ' L'' H' ⟨vs', e', h1, h2, h3⟩ z' => e.ct σ' L'' H' ⟨_, ⟨vs', e', h1, rfl⟩, sub_one h2 h3⟩ z'
    exact hs i x vs en hi k H3 z3 D ⟨kk, e.rt, e.bk, kc⟩
  · rintro σ' L' ⟨vs, en, ⟨rfl, k⟩, rfl⟩
    exact hd vs en k
end
end Kr
/-! ### a comprehension over a list of ints, with draws and a test -/
namespace Kr
open PySem L2
section
variable {g : Gr} {L : Led} {σ : St} {C C' : V → Led → Prop} {tt : TT} {te : TE} {i : Nat}
theorem lc_ID (E : Nat → Ent) (hE : ∀ {n m : Nat} {H : Hp} {o : HO}, n ≤ m → (E n).In H o → (E m).In H o) {Kf : PySem.W.Frag} {b : Addr} {ns : List Int} {bo : Bool} (j c N m : Nat) {a : Addr} {n0 : Nat} (P : Int → Prop) (hj : L[j]? = some (a, E n0, true)) (hm : L[m]? = some (b, .ob (.lst (ns.map V.int)), bo)) (hmj : m ≠ j) (hN : ns.length ≤ N) (hl : N ≤ 99999)
    (hs : ∀ (k : Nat) (x : Int), ns[k]? = some x → ∀ (D : Addr) (acc : List V), Wp g (L.set j (a, E (n0 + c * k), true) ++ [(D, .ob (.lst acc), true)]) (tt ((wipe σ [i]).set i (some (.int x)))) fun b L2 => if b = true then
      Wp g L2 (te ((wipe σ [i]).set i (some (.int x)))) (fun y L3 => (∃ v : Int, y = .int v ∧ P v) ∧ ∃ d, d ≤ c ∧ (L.set j (a, E (n0 + c * k + d), true) ++ [(D, .ob (.lst acc), true)]) <+: L3) else (L.set j (a, E (n0 + c * k), true) ++ [(D, .ob (.lst acc), true)]) <+: L2)
    (cc : ∀ (D : Addr) (ys : List Int), ys.length ≤ N → (∀ y ∈ ys, P y) → C (.ref D) (L.set j (a, E (n0 + c * N), true) ++ [(D, .ob (.lst (ys.map V.int)), true)])) (hEm : ∀ n, (E n).mov = true := by intro _; rfl) : WLc g L (Itl Kf b) (gName i) tt te [i] σ C := fun H z Q q D hD => by
  have hjl : j < L.length := (List.getElem?_eq_some_iff.mp hj).1
  have hi : ∀ (e : Addr × Ent × Bool) (o : HO), (L.set j e ++ [(D, Ent.ob o, true)])[L.length]? = some (D, Ent.ob o, true) := fun e o => by
    rw [List.getElem?_append_right (by rw [List.length_set]; exact Nat.le_refl _), List.length_set, Nat.sub_self]
    rfl
  have weak : ∀ {k k' : Nat} {ys : List V} {H : Hp}, k ≤ k' → At g (L.set j (a, E k, true) ++ [(D, .ob (.lst ys), true)]) H → At g (L.set j (a, E k', true) ++ [(D, .ob (.lst ys), true)]) H := fun {k k' ys H} hk z => by
    have hj2 : (L.set j (a, E k, true) ++ [(D, Ent.ob (.lst ys), true)])[j]? = some (a, E k, true) := by
      rw [List.getElem?_append_left (by rw [List.length_set]; exact hjl), List.getElem?_set_self hjl]
    have z6 := z.weak (i := j) (e' := E k') hj2 (fun _ o ho => hE hk ho) (hEm _)
    rw [List.set_append_left _ _ (by rw [List.length_set]; exact hjl), List.set_set] at z6
    exact z6
  refine lc_list (K := Kf) (a := b) (xs := ns.map V.int) (fun k H => ∃ ys : List Int, ys.length ≤ k ∧ (∀ y ∈ ys, P y) ∧ At g (L.set j (a, E (n0 + c * k), true) ++ [(D, .ob (.lst (ys.map V.int)), true)]) H) ⟨[], Nat.le_refl _, fun y h => (by cases h), ?_⟩ (fun k H _ ⟨ys, _, _, z⟩ => ?_) (fun k x H hx ⟨ys, h1, h2, z⟩ => ?_) fun H ⟨ys, h1, h2, z⟩ => ?_
  · rw [Nat.mul_zero, Nat.add_zero, set_self hj]
    exact z.upd_new hD
  · refine (seen (K := Kf) (xs := ns.map V.int) (bo := bo) m ?_).at_ H z
    have hml : m < L.length := (List.getElem?_eq_some_iff.mp hm).1
    rw [List.getElem?_append_left (by rw [List.length_set]; exact hml), List.getElem?_set_ne (Ne.symm hmj), hm]
  · rw [List.getElem?_map] at hx
    obtain ⟨n, hn, rfl⟩ := Option.map_eq_some_iff.mp hx
    have hk : k < ns.length := (List.getElem?_eq_some_iff.mp hn).1
    refine ⟨wipe1 σ i _, ?_⟩
    refine hs k n hn D _ H z _ fun b L2 H2 kk z2 => ?_
    cases b with
    | false =>
      have kk : _ <+: L2 := kk
      exact ⟨ys, by omega, h2, weak (by have : c * (k + 1) = c * k + c := Nat.mul_succ c k; omega) (z2.pre kk)⟩
    | true =>
      show te _ _ _
      refine kk H2 z2 _ fun y L3 H3 ⟨⟨v, ey, hv⟩, d, hd, hpre⟩ z3 => ?_
      subst ey
      have z4 := z3.pre hpre
      refine ⟨ys.map V.int, z4.get (hi _ _), by rw [List.length_map]; exact Nat.lt_of_lt_of_le (show ys.length < 99999 + 1 by omega) (by decide), ys ++ [v], by simp; omega, fun y hy => ?_, ?_⟩
      · rcases List.mem_append.mp hy with h | h
        · exact h2 y h
        · have : y = v := by simpa using h
          exact this ▸ hv
      · have z5 := z4.upd_chg (o := .lst (ys.map V.int ++ [.int v])) (hi _ _)
        have e1 : (L.set j (a, E (n0 + c * k + d), true) ++ [(D, Ent.ob (.lst (ys.map V.int)), true)]).set L.length (D, Ent.ob (.lst (ys.map V.int ++ [.int v])), true) = L.set j (a, E (n0 + c * k + d), true) ++ [(D, Ent.ob (.lst (ys.map V.int ++ [.int v])), true)] := by
          rw [List.set_append_right _ _ (by rw [List.length_set]; exact Nat.le_refl _), List.length_set, Nat.sub_self]
          rfl
        rw [e1] at z5
        rw [List.map_append]
        exact weak (by have : c * (k + 1) = c * k + c := Nat.mul_succ c k; omega) z5
  · rw [List.length_map] at h1 z
    exact q _ _ _ (cc D ys (by omega) h2) (weak (by have := Nat.mul_le_mul_left c hN; omega) z)
end
end Kr

set_option Elab.async false
set_option linter.all false
set_option maxRecDepth 100000
namespace Kr
open PySem L2
/-! ### a result that is None or a new list of ints -/
def kWL (A : Prop) (R : List Int → Prop) : Ks := { nx := fun _ _ => A, rt := fun v L => (v = .non ∧ A) ∨ ∃ (x : List Int) (p : Addr) (i : Nat), v = .ref p ∧ L[i]? = some (p, Ent.ob (.lst (x.map V.int)), true) ∧ R x }
theorem eo_WL {H0 : Hp} {A : Prop} {R : List Int → Prop} {Q : VK} (h1 : A → ∀ H', Same H0 H' → Q .non H') (h2 : ∀ x p H', R x → H0 p = none → Same H0 H' → H' p = some (.lst (x.map V.int)) → Q (.ref p) H') : Eo ⟨H0, fun _ => False⟩ (kWL A R) { nx := fun _ H' => Q .non H', rt := Q } :=
  ⟨fun _ _ _ hA z => h1 hA _ z.since, fun v L H' hk z => by
    rcases hk with ⟨rfl, hA⟩ | ⟨x, p, i, rfl, hi, hR⟩
    · exact h1 hA _ z.since
    · exact h2 x p H' hR (by
        rcases z.own _ (List.mem_of_getElem? hi) rfl with q | q
        · exact q
        · exact q.elim) z.since (z.get hi), fun _ _ _ hk _ => hk.elim, fun _ _ _ hk _ => hk.elim⟩
end Kr
namespace Kr
open PySem L2
theorem ws_par3 {g : Gr} {L : Led} {σ : St} {K : Ks} {i j l : Nat} {tr : TA} (h : Wp g L (tr σ) fun vs L1 => ∃ u v w, vs = [u, v, w] ∧ K.nx (((σ.set i (some u)).set j (some v)).set l (some w)) L1) : Ws g L (tPar3 i j l tr) σ K :=
  fun H z D e => h H z _ fun vs L1 H1 ⟨u, v, w, e1, k⟩ z1 => ⟨u, v, w, e1, e.nx _ _ _ k z1⟩
end Kr

namespace Kr
open PySem L2
/-! ### None, or a new tuple of a number and a new list of ints -/
def kPL (A : Prop) (R : Int → List Int → Prop) : Ks := { nx := fun _ _ => A, rt := fun v L => (v = .non ∧ A) ∨ ∃ (d : Int) (ns : List Int) (q p : Addr) (i j : Nat), v = .ref p ∧ i ≠ j ∧ L[i]? = some (q, Ent.ob (.lst (ns.map V.int)), true) ∧ L[j]? = some (p, Ent.ob (.tup [.int d, .ref q]), true) ∧ R d ns }
theorem eo_PL {H0 : Hp} {A : Prop} {R : Int → List Int → Prop} {Q : VK} (h1 : A → ∀ H', Same H0 H' → Q .non H') (h2 : ∀ d ns q p H', R d ns → q ≠ p → H0 q = none → H0 p = none → Same H0 H' → H' q = some (.lst (ns.map V.int)) → H' p = some (.tup [.int d, .ref q]) → Q (.ref p) H') :
    Eo ⟨H0, fun _ => False⟩ (kPL A R) { nx := fun _ H' => Q .non H', rt := Q } :=
  ⟨fun _ _ _ hA z => h1 hA _ z.since, fun v L H' hk z => by
    rcases hk with ⟨rfl, hA⟩ | ⟨d, ns, q, p, i, j, rfl, hij, e1, e2, hR⟩
    · exact h1 hA _ z.since
    · have nn : ∀ {l : Nat} {c : Addr} {u : Ent}, L[l]? = some (c, u, true) → H0 c = none := fun hc => by
        rcases z.own _ (List.mem_of_getElem? hc) rfl with w | w
        · exact w
        · exact w.elim
      exact h2 d ns q p H' hR (z.ne e1 e2 hij (.inl rfl)) (nn e1) (nn e2) z.since (z.get e1) (z.get e2), fun _ _ _ hk _ => hk.elim, fun _ _ _ hk _ => hk.elim⟩
end Kr

namespace Kr
open PySem L2
theorem wr_eqRN {K : PySem.W.Frag} {g : Gr} {L : Led} {C : V → Led → Prop} {a a2 : Addr} {bo : Bool} {xs : List (Int × Int)} (j : Nat) (hj : L[j]? = some (a, .rows (xs.map row2), bo)) (s2 : Seen K g L a2 []) (c : C (.bl (decide (xs = []))) L) : Wp g L (rEqD K (.ref a) (.ref a2)) C :=
  wr_eqD (dp_rows j hj) (dp_lst s2 dps_nil) (shaped_P xs) rfl (by
    have e : PyData.eqv (.list (xs.map dpP)) (.list []) = decide (xs = []) := by
      unfold PyData.eqv
      exact eqv_P xs []
    rw [e]
    exact c)
end Kr

set_option Elab.async false
set_option linter.all false
set_option maxRecDepth 100000
set_option maxHeartbeats 4000000
namespace Kr
open PySem L2 PySem.W
/-! ### zip of two lists -/
section
variable {K Kf : PySem.W.Frag} {g : Gr} {L : Led} {σ : St} {C : V → Led → Prop} {a b p : Addr} {bo : Bool} {α β : Type}
theorem wi_zip {tr : TA} {T : It → Led → Prop} (h : Wp g L (tr σ) fun vs L1 => ∃ (a b : Addr) (xs ys : List V), vs = [.ref a, .ref b] ∧ Seen K g L1 a xs ∧ Seen K g L1 b ys ∧ T (Itz K a b) L1) : Wp g L (iZip K tr σ) T :=
  fun H z Q q => h H z _ fun vs L1 H1 ⟨a, b, xs, ys, e, s1, s2, k⟩ z1 => ⟨a, b, xs, ys, e, s1.at_ H1 z1, s2.at_ H1 z1, q _ _ _ k z1⟩
theorem iter_zip (i1 i2 : Nat) (T : α → V) (T2 : β → V) {xs : List α} {ys : List β} (s : Seen Kf g L a (xs.map T)) (s2 : Seen Kf g L b (ys.map T2)) : Iter g L (Itz Kf a b) (gTup Kf 2 (gNames [i1, i2])) (xs.zip ys) (fun x σ => (σ.set i1 (some (T x.1))).set i2 (some (T2 x.2))) := ⟨fun H z => by
  have hs := s.at_ H z
  have hs2 := s2.at_ H z
  refine ⟨⟨_, _, hs, hs2, by rw [List.length_map, List.length_map, List.length_zip]; omega⟩, fun k x hx => ?_⟩
  obtain ⟨x, y⟩ := x
  rw [List.getElem?_zip_eq_some] at hx
  obtain ⟨q1, q2⟩ := hx
  have hx2 : (xs.map T)[k]? = some (T x) := by rw [List.getElem?_map, q1]; rfl
  have hy2 : (ys.map T2)[k]? = some (T2 y) := by rw [List.getElem?_map, q2]; rfl
  refine ⟨⟨_, _, _, _, hs, hs2, hx2, hy2⟩, fun v H' hy => ?_⟩
  obtain ⟨t, w, w2, e1, e2, e3, e4, e5⟩ := hy
  have e6 := e4 _ hs
  have e7 := e5 _ hs2
  rw [hx2] at e6
  rw [hy2] at e7
  have e6 := Option.some.inj e6
  have e7 := Option.some.inj e7
  subst e6 e7 e1 e3
  refine ⟨fun c u h => by rw [upd_ne (ne_of_none h e2)]; exact h, fun σ Q q => ⟨t, _, rfl, SqT.of upd_same, rfl, ?_⟩⟩
  exact gNames_ok [i1, i2] [T x, T2 y] rfl q⟩
/-! ### a slice of a tuple -/
theorem wr_slT {xs zs : List V} {lo hi : Option Int} {n : Nat} (s : SeenT K g L a xs) (hn : xs.length = n) (hw : ¬ (HT.sIx n 0 lo = 0 ∧ HT.sIx n n hi = n)) (e : cutV xs lo hi = zs) (c : ∀ p, C (.ref p) (L ++ [(p, .ob (.tup zs), true)])) : Wp g L (rSlT K (.ref a) lo hi) C := by
  subst e hn
  exact fun H z Q q => ⟨a, xs, rfl, s.at_ H z, hw, fun p hp => q _ _ _ (c p) (z.upd_new hp)⟩
/-! ### (rows + [None]): what stands first -/
theorem wr_catH {rs : List (List V)} {a2 : Addr} {b1 b2 : Bool} (i j : Nat) (h1 : L[i]? = some (a, .rows rs, b1)) (h2 : L[j]? = some (a2, .ob (.lst [.non]), b2)) (hl : rs.length < 99999)
    (c0 : rs = [] → ∀ p, C (.ref p) (L ++ [(p, .ob (.lst [.non]), true)])) (c1 : ∀ r rest, rs = r :: rest → ∀ (a0 : Addr) (zs : List V) (p : Addr), C (.ref p) ((L ++ [(a0, .ob (.tup r), false)]) ++ [(p, .ob (.lst (.ref a0 :: zs)), true)])) : Wp g L (rCat (.ref a) (.ref a2)) C :=
  fun H z Q q => by
    obtain ⟨o, ho, as, e1, hl1, h3⟩ := z.look h1
    subst e1
    refine ⟨a, a2, _, _, rfl, rfl, ho, z.get h2, Nat.le_trans (show (as.map V.ref).length + 1 ≤ 100000 by rw [List.length_map, hl1]; omega) (by decide), fun p hp => ?_⟩
    cases rs with
    | nil =>
      have : as = [] := List.length_eq_zero_iff.mp (by simpa using hl1)
      subst this
      exact q _ _ _ (c0 rfl p) (z.upd_new hp)
    | cons r rest =>
      cases as with
      | nil => cases hl1
      | cons a0 as =>
        have ht := h3 0 a0 r rfl rfl
        exact q _ _ _ (c1 r rest rfl a0 _ p) ((z.addT ht).upd_new hp)
/-! ### None, or a tuple of two ints that stands there -/
def kPT (A : Prop) (R : Int → Int → Prop) : Ks := { nx := fun _ _ => False, rt := fun v L => (v = .non ∧ A) ∨ ∃ (x y : Int) (p : Addr) (i : Nat) (bo : Bool), v = .ref p ∧ L[i]? = some (p, Ent.ob (.tup [.int x, .int y]), bo) ∧ R x y }
theorem eo_PT {H0 : Hp} {A : Prop} {R : Int → Int → Prop} {Q : VK} (h1 : A → ∀ H', Same H0 H' → Q .non H') (h2 : ∀ x y p H', R x y → Same H0 H' → H' p = some (.tup [.int x, .int y]) → Q (.ref p) H') : Eo ⟨H0, fun _ => False⟩ (kPT A R) { nx := fun _ H' => Q .non H', rt := Q } :=
  ⟨fun σ L H k z => k.elim, fun v L H k z => by
    rcases k with ⟨e, k⟩ | ⟨x, y, p, i, bo, e, k, r⟩
    · subst e
      exact h1 k _ z.since
    · subst e
      exact h2 x y p H r z.since (z.get k), fun _ _ _ k _ => k.elim, fun _ _ _ k _ => k.elim⟩
end
/-! ### the least of a list of triples -/
def dpT (x : Int × Int × Int) : PyData := .tuple [.int x.1, .int x.2.1, .int x.2.2]
def ltT (y x : Int × Int × Int) : Prop := y.1 < x.1 ∨ (y.1 = x.1 ∧ (y.2.1 < x.2.1 ∨ (y.2.1 = x.2.1 ∧ y.2.2 < x.2.2)))
instance (y x : Int × Int × Int) : Decidable (ltT y x) := by unfold ltT; infer_instance
theorem ltT_trans {x y z : Int × Int × Int} (h : ¬ ltT z y) (k : ltT x y) : ¬ ltT z x := by
  unfold ltT at *
  omega
theorem ltT_le {x y z : Int × Int × Int} (h : ¬ ltT z x) (k : ¬ ltT x y) : ¬ ltT z y := by
  unfold ltT at *
  omega
theorem ltT_irrefl {x : Int × Int × Int} : ¬ ltT x x := by
  unfold ltT
  omega
theorem dpT_inj {x y : Int × Int × Int} (h : dpT x = dpT y) : x = y := by
  unfold dpT at h
  simp only [PyData.tuple.injEq, List.cons.injEq, PyData.int.injEq, and_true] at h
  exact Prod.ext h.1 (Prod.ext h.2.1 h.2.2)
open PyProof.Rows in
theorem dataLt_iii (x y : Int × Int × Int) : dataLt (dpT x) (dpT y) = decide (ltT x y) := by
  unfold dpT
  rw [dataLt_tuple, dataLt_cons (by simp [alike]), dataLt_cons (by simp [alike]), dataLt_cons (by simp [alike]), dataLt_int, dataLt_int, dataLt_int]
  have e : PyProof.Rows.lexLt itemOrd (keyToksAll []) (keyToksAll []) = false := lex_irrefl _
  rw [e]
  simp only [PyData.eqv, beq_iff_eq]
  unfold ltT
  by_cases h1 : x.1 = y.1 <;> by_cases h2 : x.2.1 = y.2.1 <;> by_cases h3 : x.2.2 = y.2.2 <;> simp [h1, h2, h3]
theorem alike_T (xs : List (Int × Int × Int)) : AlikeAll (xs.map dpT) := by
  refine ⟨fun x hx y hy => ?_, fun x hx => ?_⟩
  · obtain ⟨m, _, rfl⟩ := List.mem_map.mp hx
    obtain ⟨n, _, rfl⟩ := List.mem_map.mp hy
    rfl
  · obtain ⟨m, _, rfl⟩ := List.mem_map.mp hx
    exact fun h => nomatch h
theorem depth_T : ∀ xs : List (Int × Int × Int), PyData.depthAll (xs.map dpT) ≤ 60
  | [] => by simp [PyData.depthAll]
  | n :: r => by
    have := depth_T r
    rw [List.map_cons]
    simp only [PyData.depthAll, PyData.depth, dpT]
    omega
theorem minT_is : ∀ (r : List (Int × Int × Int)) (n : Int × Int × Int), ∃ m, minD (dpT n) (r.map dpT) = dpT m ∧ m ∈ n :: r ∧ ∀ k ∈ n :: r, ¬ ltT k m
  | [], n => ⟨n, rfl, by simp, fun k hk => by
      have : k = n := by simpa using hk
      subst this
      exact ltT_irrefl⟩
  | x :: r, n => by
    have e : minD (dpT n) ((x :: r).map dpT) = minD (dpT (if ltT x n then x else n)) (r.map dpT) := by
      unfold minD
      rw [List.map_cons, List.foldl_cons]
      congr 1
      rw [dataLt_iii]
      by_cases h : ltT x n
      · rw [if_pos h, if_pos (decide_eq_true h)]
      · rw [if_neg h, if_neg (by simpa using h)]
    rw [e]
    by_cases h : ltT x n
    · rw [if_pos h]
      obtain ⟨m, h1, h2, h3⟩ := minT_is r x
      refine ⟨m, h1, List.mem_cons_of_mem _ h2, fun k hk => ?_⟩
      rcases List.mem_cons.mp hk with q | q
      · have := h3 x (by simp)
        subst q
        unfold ltT at *
        omega
      · exact h3 k q
    · rw [if_neg h]
      obtain ⟨m, h1, h2, h3⟩ := minT_is r n
      refine ⟨m, h1, ?_, fun k hk => ?_⟩
      · rcases List.mem_cons.mp h2 with q | q
        · simp [q]
        · simp [q]
      · rcases List.mem_cons.mp hk with q | q
        · exact h3 k (by simp [q])
        · rcases List.mem_cons.mp q with q | q
          · have := h3 n (by simp)
            subst q
            unfold ltT at *
            omega
          · exact h3 k (by simp [q])
section
variable {K : PySem.W.Frag} {g : Gr} {L : Led} {C : V → Led → Prop} {a : Addr} {d : V} {bo : Bool}
theorem dpAll_T {H : Hp} : ∀ (as : List Addr) (xs : List (Int × Int × Int)), as.length = xs.length → (∀ (k : Nat) (b : Addr) (r : List V), as[k]? = some b → (xs.map row3)[k]? = some r → H b = some (.tup r)) → DpAll K H (as.map V.ref) (xs.map dpT)
  | [], [], _, _ => .nil
  | [], _ :: _, h, _ => by cases h
  | _ :: _, [], h, _ => by cases h
  | b :: as, x :: xs, h, k => .cons (.tup (SqT.of (k 0 b (row3 x) rfl rfl)) (.cons (.int _) (.cons (.int _) (.cons (.int _) .nil)))) (dpAll_T as xs (by simpa using h) fun i c r h1 h2 => k (i + 1) c r h1 h2)
theorem wc_minT {xs : List (Int × Int × Int)} (j : Nat) (hj : L[j]? = some (a, .rows (xs.map row3), bo)) (hne : xs ≠ []) (c : ∀ x, x ∈ xs → (∀ y ∈ xs, ¬ ltT y x) → ∀ p, C (.ref p) (L ++ [(p, .ob (.tup (row3 x)), false)])) : Wp g L (rMinDt K [.ref a]) C :=
  fun H z Q q => by
    obtain ⟨o, h1, as, e1, hl, hr⟩ := z.look hj
    subst e1
    cases xs with
    | nil => exact absurd rfl hne
    | cons n r =>
      refine ⟨a, as.map V.ref, dpT n, r.map dpT, rfl, SqL.of h1, dpAll_T as (n :: r) (by simpa using hl) hr, alike_T (n :: r), depth_T (n :: r), fun i x hx hm => ?_⟩
      obtain ⟨m, h2, h3, h4⟩ := minT_is r n
      rw [h2] at hm
      have hm : ((n :: r).map dpT)[i]? = some (dpT m) := hm
      rw [List.getElem?_map] at hm
      cases hi : (n :: r)[i]? with
      | none => rw [hi] at hm; cases hm
      | some k =>
        rw [hi] at hm
        have hm := dpT_inj (Option.some.inj hm)
        subst hm
        rw [List.getElem?_map] at hx
        cases hb : as[i]? with
        | none => rw [hb] at hx; cases hx
        | some b =>
          rw [hb] at hx
          have hx : V.ref b = x := Option.some.inj hx
          subst hx
          exact q _ _ _ (c k h3 h4 b) (z.addT (hr i b (row3 k) hb (by rw [List.getElem?_map, hi]; rfl)))
end
theorem atI_cons0 {x : V} {xs : List V} : atI (x :: xs) 0 = some x := by simp [atI, ixN]
/-- max(list, default=z): one value -/
theorem wc_maxDW {K : PySem.W.Frag} {g : Gr} {L : Led} {C : V → Led → Prop} {a : Addr} {ns : List Int} {z0 : Int} (s : Seen K g L a (ns.map V.int)) (c : ∀ w : Int, ((ns = [] ∧ w = z0) ∨ w ∈ ns) → (∀ k ∈ ns, k ≤ w) → C (.int w) L) : Wp g L (rMaxDf K [.ref a] [.int z0]) C :=
  wc_maxDI s (fun h => c z0 (.inl ⟨h, rfl⟩) (by rw [h]; simp)) (fun m hm hM => c m (.inr hm) hM)
end Kr

set_option Elab.async false
set_option linter.all false
set_option maxRecDepth 100000
/-! powers, plain -/
namespace Ma
theorem pow_pos {b : Int} (h : 2 ≤ b) (k : Nat) : 1 ≤ b ^ k := by
  induction k with
  | zero => simp
  | succ k ih =>
    rw [Int.pow_succ]
    have : b ^ k * 1 ≤ b ^ k * b := Int.mul_le_mul_of_nonneg_left (by omega) (by omega)
    omega
theorem pow_step {b : Int} (h : 2 ≤ b) (k : Nat) : 2 * b ^ k ≤ b ^ (k + 1) := by
  rw [Int.pow_succ, Int.mul_comm]
  exact Int.mul_le_mul_of_nonneg_left h (by have := pow_pos h k; omega)
theorem pow_mono {b : Int} (h : 2 ≤ b) {i j : Nat} (hij : i ≤ j) : b ^ i ≤ b ^ j := by
  induction j with
  | zero => have : i = 0 := by omega
            subst this; exact Int.le_refl _
  | succ j ih =>
    by_cases e : i = j + 1
    · subst e; exact Int.le_refl _
    · have := ih (by omega)
      have := pow_step h j
      have := pow_pos h j
      omega
theorem pow_lt {b : Int} (h : 2 ≤ b) {i j : Nat} (hij : i < j) : b ^ i < b ^ j := by
  have h1 := pow_mono h (show i + 1 ≤ j by omega)
  have h2 := pow_step h i
  have h3 := pow_pos h i
  omega
theorem pow_inj {b : Int} (h : 2 ≤ b) {i j : Nat} (e : b ^ i = b ^ j) : i = j := by
  rcases Nat.lt_trichotomy i j with q | q | q
  · have := pow_lt h q; omega
  · exact q
  · have := pow_lt h q; omega
theorem pow_lt_iff {b : Int} (h : 2 ≤ b) {i j : Nat} (e : b ^ i < b ^ j) : i < j := by
  rcases Nat.lt_or_ge i j with q | q
  · exact q
  · have := pow_mono h q; omega
theorem two_le_pow {b : Int} (h : 2 ≤ b) (k : Nat) : 2 ^ k ≤ b ^ k := by
  induction k with
  | zero => simp
  | succ k ih =>
    have := pow_step h k
    rw [Int.pow_succ]
    omega
theorem pow_small {b : Int} (h : 2 ≤ b) {k : Nat} (hk : b ^ k ≤ 10 ^ 61) : k < 210 := by
  rcases Nat.lt_or_ge k 210 with q | q
  · exact q
  · have h1 := two_le_pow h k
    have h2 := pow_mono (b := 2) (by decide) q
    have h3 : (10 : Int) ^ 61 < 2 ^ 210 := by decide
    omega
theorem pow_le_big {b : Int} {k : Nat} (h1 : 2 ≤ b) (h2 : b ≤ 1000) (hk : k ≤ 30) : b ^ k ≤ 10 ^ 90 := by
  have key : ∀ k : Nat, b ^ k ≤ 1000 ^ k := fun k => by
    induction k with
    | zero => simp
    | succ k ih =>
      rw [Int.pow_succ, Int.pow_succ]
      have := pow_pos h1 k
      have h3 : b ^ k * b ≤ b ^ k * 1000 := Int.mul_le_mul_of_nonneg_left h2 (by omega)
      have h4 : b ^ k * 1000 ≤ 1000 ^ k * 1000 := Int.mul_le_mul_of_nonneg_right ih (by decide)
      omega
  have h3 := key k
  have h4 := pow_mono (b := 1000) (by decide) hk
  have h5 : (1000 : Int) ^ 30 = 10 ^ 90 := by decide
  omega
theorem pow_le_30 {b : Int} {k : Nat} (h1 : 2 ≤ b) (h2 : b ≤ 1000) (hk : k ≤ 9) : b ^ k ≤ 10 ^ 27 := by
  have key : ∀ k : Nat, b ^ k ≤ 1000 ^ k := fun k => by
    induction k with
    | zero => simp
    | succ k ih =>
      rw [Int.pow_succ, Int.pow_succ]
      have := pow_pos h1 k
      have h3 : b ^ k * b ≤ b ^ k * 1000 := Int.mul_le_mul_of_nonneg_left h2 (by omega)
      have h4 : b ^ k * 1000 ≤ 1000 ^ k * 1000 := Int.mul_le_mul_of_nonneg_right ih (by decide)
      omega
  have h3 := key k
  have h4 := pow_mono (b := 1000) (by decide) hk
  have h5 : (1000 : Int) ^ 9 = 10 ^ 27 := by decide
  omega
theorem top_big {b m : Int} {k : Nat} (h : 2 ≤ b) (hm : m ≤ 10 ^ 60) (hk : (k = 0 ∨ b ^ k ≤ m) ∧ m < b ^ (k + 1) ∧ k < 210) : -(10 ^ 200) ≤ b ^ k ∧ b ^ k ≤ 10 ^ 200 := by
  have h1 := pow_pos h k
  rcases hk.1 with q | q
  · subst q
    simp
  · omega
def IsPow (b u : Int) : Prop := ∃ j : Nat, u = b ^ j
theorem IsPow.one (b : Int) : IsPow b 1 := ⟨0, by simp⟩
theorem IsPow.mul {b u : Int} (h : IsPow b u) : IsPow b (u * b) := by
  obtain ⟨j, e⟩ := h
  exact ⟨j + 1, by rw [e, Int.pow_succ]⟩
theorem IsPow.pos {b u : Int} (hb : 2 ≤ b) (h : IsPow b u) : 1 ≤ u := by
  obtain ⟨j, e⟩ := h
  rw [e]
  exact pow_pos hb j
theorem IsPow.next {b u v : Int} (hb : 2 ≤ b) (hu : IsPow b u) (hv : IsPow b v) (h : u < v) : u * b ≤ v := by
  obtain ⟨i, rfl⟩ := hu
  obtain ⟨j, rfl⟩ := hv
  rw [← Int.pow_succ]
  exact pow_mono hb (pow_lt_iff hb h)
/-- the greatest power up to m -/
def IsTop (b m u : Int) : Prop := IsPow b u ∧ u ≤ m ∧ m < u * b
theorem IsTop.uniq {b m u v : Int} (hb : 2 ≤ b) (hu : IsTop b m u) (hv : IsTop b m v) : u = v := by
  obtain ⟨p1, l1, g1⟩ := hu
  obtain ⟨p2, l2, g2⟩ := hv
  rcases Int.lt_trichotomy u v with q | q | q
  · have := p1.next hb p2 q; omega
  · exact q
  · have := p2.next hb p1 q; omega
/-- the least factor -/
def IsFac (b age loss F : Int) : Prop := (age ≤ 1 ∧ F = 1) ∨ (1 < age ∧ ∃ u, IsTop b (loss + 1) u ∧ 2 ≤ F ∧ (F - 2) * u < age - 1 ∧ age - 1 ≤ (F - 1) * u)
/-- the least power that is enough for an age -/
def IsSafe (b f age v : Int) : Prop := IsPow b v ∧ age ≤ (f - 1) * v + 1 ∧ ∀ u, IsPow b u → age ≤ (f - 1) * u + 1 → v ≤ u
theorem ceil_ok {a u : Int} (hu : 1 ≤ u) (ha : 1 ≤ a) : 2 ≤ (a + u - 1) / u + 1 ∧ ((a + u - 1) / u + 1 - 2) * u < a ∧ a ≤ ((a + u - 1) / u + 1 - 1) * u := by
  have h0 := Int.mul_ediv_add_emod (a + u - 1) u
  have h1 := Int.emod_nonneg (a + u - 1) (show u ≠ 0 by omega)
  have h2 := Int.emod_lt_of_pos (a + u - 1) (show 0 < u by omega)
  generalize (a + u - 1) / u = q at *
  generalize (a + u - 1) % u = r at *
  have e1 : (q + 1 - 2) * u = u * q - u := by rw [show q + 1 - 2 = q - 1 by omega, Int.sub_mul, Int.mul_comm]; omega
  have e2 : (q + 1 - 1) * u = u * q := by rw [show q + 1 - 1 = q by omega, Int.mul_comm]
  rw [e1, e2]
  refine ⟨?_, by omega, by omega⟩
  rcases Int.lt_or_le q 1 with z | z
  · have : u * q ≤ u * 0 := Int.mul_le_mul_of_nonneg_left (by omega) (by omega)
    omega
  · omega
theorem fac_pos {b age loss F : Int} (h : IsFac b age loss F) : 1 ≤ F ∧ (F = 1 → age ≤ 1) := by
  rcases h with ⟨h1, e⟩ | ⟨h1, u, _, h2, _⟩
  · omega
  · omega
/-- the law k70, in numbers -/
theorem fac_none {b age loss F v : Int} (hb : 2 ≤ b) (hF : IsFac b age loss F) (h : 1000000 < F) (hv : IsSafe b 1000000 age v) : loss < v - 1 := by
  rcases hF with ⟨_, e⟩ | ⟨h1, u, ⟨p, l, gt⟩, _, h3, h4⟩
  · omega
  · obtain ⟨pv, a1, _⟩ := hv
    have hu := p.pos hb
    have k1 : (1000000 + 1 - 2) * u ≤ (F - 2) * u := Int.mul_le_mul_of_nonneg_right (by omega) (by omega)
    rcases Int.lt_or_le u v with q | q
    · have := p.next hb pv q; omega
    · have : (1000000 - 1) * v ≤ (1000000 - 1) * u := Int.mul_le_mul_of_nonneg_left q (by decide)
      omega
theorem fac_some {b age loss F v : Int} (hb : 2 ≤ b) (hF : IsFac b age loss F) (hl : 0 ≤ loss) (hv : IsSafe b F age v) : v - 1 ≤ loss := by
  rcases hF with ⟨h1, e⟩ | ⟨h1, u, ⟨p, l, gt⟩, _, h3, h4⟩
  · subst e
    have := hv.2.2 1 (IsPow.one b) (by omega)
    omega
  · have := hv.2.2 u p (by omega)
    omega
theorem fac_less {b age loss F v : Int} (hb : 2 ≤ b) (hF : IsFac b age loss F) (h : 1 < F) (hv : IsSafe b (F - 1) age v) : loss < v - 1 := by
  rcases hF with ⟨_, e⟩ | ⟨h1, u, ⟨p, l, gt⟩, _, h3, h4⟩
  · omega
  · obtain ⟨pv, a1, _⟩ := hv
    have hu := p.pos hb
    rcases Int.lt_or_le u v with q | q
    · have := p.next hb pv q; omega
    · have k1 : (F - 1 - 1) * v ≤ (F - 1 - 1) * u := Int.mul_le_mul_of_nonneg_left q (by omega)
      have e : F - 1 - 1 = F - 2 := by omega
      rw [e] at k1 a1
      omega
theorem fac_age {b age loss F u : Int} (hb : 2 ≤ b) (hF : IsFac b age loss F) (hu : IsTop b (loss + 1) u) : age ≤ (F - 1) * u + 1 ∧ (1 < F → (F - 1 - 1) * u + 1 < age) := by
  rcases hF with ⟨h1, e⟩ | ⟨h1, u', hu', _, h3, h4⟩
  · subst e
    omega
  · have := hu.uniq hb hu'
    subst this
    have e : F - 1 - 1 = F - 2 := by omega
    rw [e]
    omega
theorem fac_uniq {b age loss F G : Int} (hb : 2 ≤ b) (hF : IsFac b age loss F) (hG : IsFac b age loss G) : F = G := by
  rcases hF with ⟨h1, e⟩ | ⟨h1, u, hu, f2, h3, h4⟩
  · rcases hG with ⟨_, e'⟩ | ⟨h1', _⟩
    · omega
    · omega
  · rcases hG with ⟨_, e'⟩ | ⟨h1', v, hv, g2, h3', h4'⟩
    · omega
    · have e := hu.uniq hb hv
      subst e
      have up := hu.1.pos hb
      rcases Int.lt_trichotomy F G with q | q | q
      · have : (F - 1) * u ≤ (G - 2) * u := Int.mul_le_mul_of_nonneg_right (by omega) (by omega)
        omega
      · exact q
      · have : (G - 1) * u ≤ (F - 2) * u := Int.mul_le_mul_of_nonneg_right (by omega) (by omega)
        omega
end Ma

set_option Elab.async false
set_option linter.all false
set_option maxRecDepth 100000
/-! units, parents, chains, plain -/
namespace Ma
/-- the greatest power of b that divides n, by fuel -/
def unitN (b : Int) : Nat → Int → Int
  | 0, _ => 1
  | k + 1, n => if n % b = 0 then b * unitN b k (n / b) else 1
def unitF (b n : Int) : Int := unitN b n.toNat n
theorem unitN_pow (b : Int) : ∀ (k : Nat) (n : Int), IsPow b (unitN b k n)
  | 0, _ => IsPow.one b
  | k + 1, n => by
    unfold unitN
    split
    · rw [Int.mul_comm]
      exact (unitN_pow b k _).mul
    · exact IsPow.one b
theorem unitN_dvd (b : Int) : ∀ (k : Nat) (n : Int), unitN b k n ∣ n
  | 0, n => Int.one_dvd n
  | k + 1, n => by
    unfold unitN
    split
    · rename_i h
      have e : n = b * (n / b) := by
        have := Int.mul_ediv_add_emod n b
        omega
      have := unitN_dvd b k (n / b)
      have q := Int.mul_dvd_mul (Int.dvd_refl b) this
      rw [← e] at q
      exact q
    · exact Int.one_dvd n
theorem div_lt {b n : Int} (hb : 2 ≤ b) (hn : 1 ≤ n) (h : n % b = 0) : 1 ≤ n / b ∧ n / b < n := by
  have e : n = b * (n / b) := by
    have := Int.mul_ediv_add_emod n b
    omega
  have h1 : 1 ≤ n / b := by
    rcases Int.lt_or_le (n / b) 1 with q | q
    · have : b * (n / b) ≤ b * 0 := Int.mul_le_mul_of_nonneg_left (by omega) (by omega)
      omega
    · exact q
  have : 2 * (n / b) ≤ b * (n / b) := Int.mul_le_mul_of_nonneg_right hb (by omega)
  omega
theorem unitN_not {b : Int} (hb : 2 ≤ b) : ∀ (k : Nat) (n : Int), 1 ≤ n → n.toNat ≤ k → ¬ (unitN b k n * b ∣ n)
  | 0, n, h1, h2 => by omega
  | k + 1, n, h1, h2 => by
    unfold unitN
    split
    · rename_i h
      have d := div_lt hb h1 h
      have ih := unitN_not hb k (n / b) d.1 (by omega)
      intro q
      apply ih
      have e : n = b * (n / b) := by
        have := Int.mul_ediv_add_emod n b
        omega
      rw [e, Int.mul_assoc] at q
      have e2 : b * (n / b) / b = n / b := Int.mul_ediv_cancel_left _ (by omega)
      rw [e2] at q
      exact Int.dvd_of_mul_dvd_mul_left (by omega) q
    · rename_i h
      rw [Int.one_mul]
      intro q
      exact h (Int.emod_eq_zero_of_dvd q)
/-- what a unit is -/
def IsUnit (b n u : Int) : Prop := IsPow b u ∧ u ∣ n ∧ ¬ (u * b ∣ n)
theorem unitF_is {b n : Int} (hb : 2 ≤ b) (hn : 1 ≤ n) : IsUnit b n (unitF b n) := ⟨unitN_pow b _ _, unitN_dvd b _ _, unitN_not hb _ _ hn (Nat.le_refl _)⟩
theorem pow_dvd {b u v : Int} (hb : 2 ≤ b) (hu : IsPow b u) (hv : IsPow b v) (h : u ≤ v) : u ∣ v := by
  obtain ⟨i, rfl⟩ := hu
  obtain ⟨j, rfl⟩ := hv
  have hij : i ≤ j := by
    rcases Nat.lt_or_ge j i with q | q
    · have := pow_lt hb q
      omega
    · exact q
  obtain ⟨d, rfl⟩ := Nat.le.dest hij
  exact ⟨b ^ d, by rw [Int.pow_add]⟩
theorem IsUnit.uniq {b n u v : Int} (hb : 2 ≤ b) (hu : IsUnit b n u) (hv : IsUnit b n v) : u = v := by
  rcases Int.lt_trichotomy u v with q | q | q
  · exact absurd (Int.dvd_trans (pow_dvd hb hu.1.mul hv.1 (hu.1.next hb hv.1 q)) hv.2.1) hu.2.2
  · exact q
  · exact absurd (Int.dvd_trans (pow_dvd hb hv.1.mul hu.1 (hv.1.next hb hu.1 q)) hu.2.1) hv.2.2
theorem IsUnit.eq {b n u : Int} (hb : 2 ≤ b) (hn : 1 ≤ n) (hu : IsUnit b n u) : u = unitF b n := hu.uniq hb (unitF_is hb hn)
theorem unitF_pos {b n : Int} (hb : 2 ≤ b) : 1 ≤ unitF b n := (unitN_pow b _ _).pos hb
theorem unitF_pow {b n : Int} : IsPow b (unitF b n) := unitN_pow b _ _
theorem unitF_dvd {b n : Int} : unitF b n ∣ n := unitN_dvd b _ _
theorem unitF_le {b n : Int} (hn : 1 ≤ n) : unitF b n ≤ n := Int.le_of_dvd (by omega) unitF_dvd
/-- a power divides n exactly if it is at most the unit -/
theorem dvd_iff {b n u : Int} (hb : 2 ≤ b) (hn : 1 ≤ n) (hu : IsPow b u) : u ∣ n ↔ u ≤ unitF b n := by
  constructor
  · intro h
    rcases Int.lt_or_le (unitF b n) u with q | q
    · have := unitF_is hb hn
      exact absurd (Int.dvd_trans (pow_dvd hb this.1.mul hu (this.1.next hb hu q)) h) this.2.2
    · exact q
  · intro h
    exact Int.dvd_trans (pow_dvd hb hu unitF_pow h) unitF_dvd
/-- the parent -/
def parF (b n : Int) : Int := n / (unitF b n * b) * (unitF b n * b)
theorem ub_pos {b n : Int} (hb : 2 ≤ b) : 2 ≤ unitF b n * b := by
  have h1 : 1 * b ≤ unitF b n * b := Int.mul_le_mul_of_nonneg_right (unitF_pos hb) (by omega)
  omega
theorem parF_le {b n : Int} (hb : 2 ≤ b) : parF b n ≤ n ∧ n < parF b n + unitF b n * b := by
  have h := ub_pos (b := b) (n := n) hb
  have h0 := Int.mul_ediv_add_emod n (unitF b n * b)
  have h1 := Int.emod_nonneg n (show unitF b n * b ≠ 0 by omega)
  have h2 := Int.emod_lt_of_pos n (show 0 < unitF b n * b by omega)
  unfold parF
  rw [Int.mul_comm] at h0
  omega
theorem parF_dvd {b n : Int} : unitF b n * b ∣ parF b n := ⟨n / (unitF b n * b), by unfold parF; rw [Int.mul_comm]⟩
theorem parF_lt {b n : Int} (hb : 2 ≤ b) (hn : 1 ≤ n) : parF b n < n := by
  have h := (parF_le (n := n) hb).1
  have : parF b n ≠ n := fun e => (unitF_is hb hn).2.2 (by have := parF_dvd (b := b) (n := n); rw [e] at this; exact this)
  omega
theorem parF_nonneg {b n : Int} (hb : 2 ≤ b) (hn : 0 ≤ n) : 0 ≤ parF b n := by
  unfold parF
  have := ub_pos (b := b) (n := n) hb
  exact Int.mul_nonneg (Int.ediv_nonneg hn (by omega)) (by omega)
/-- n lies at least a unit above its parent -/
theorem parF_gap {b n : Int} (hb : 2 ≤ b) (hn : 1 ≤ n) : parF b n + unitF b n ≤ n := by
  have h1 : unitF b n ∣ n - parF b n := Int.dvd_sub unitF_dvd (Int.dvd_trans ⟨b, rfl⟩ parF_dvd)
  have h2 := parF_lt hb hn
  have := Int.le_of_dvd (by omega) h1
  omega
/-- the chain, by fuel -/
def chainN (b : Int) : Nat → Int → List Int
  | 0, n => [n]
  | k + 1, n => if n ≤ 0 then [n] else n :: chainN b k (parF b n)
def chainF (b n : Int) : List Int := chainN b n.toNat n
theorem chainN_fuel {b : Int} (hb : 2 ≤ b) : ∀ (k j : Nat) (n : Int), n.toNat ≤ k → n.toNat ≤ j → chainN b k n = chainN b j n
  | 0, 0, n, _, _ => rfl
  | 0, j + 1, n, h, _ => by
    unfold chainN
    rw [if_pos (by omega)]
  | k + 1, 0, n, _, h => by
    unfold chainN
    rw [if_pos (by omega)]
  | k + 1, j + 1, n, h1, h2 => by
    unfold chainN
    split
    · rfl
    · have := parF_lt (b := b) (n := n) hb (by omega)
      rw [chainN_fuel hb k j (parF b n) (by omega) (by omega)]
theorem chainF_zero (b : Int) : chainF b 0 = [0] := rfl
theorem chainF_pos {b n : Int} (hb : 2 ≤ b) (hn : 1 ≤ n) : chainF b n = n :: chainF b (parF b n) := by
  have hk : ∃ k, n.toNat = k + 1 := ⟨n.toNat - 1, by omega⟩
  obtain ⟨k, e⟩ := hk
  unfold chainF
  rw [e]
  show (if n ≤ 0 then [n] else n :: chainN b k (parF b n)) = _
  rw [if_neg (by omega)]
  have := parF_lt hb hn
  have := parF_nonneg (b := b) (n := n) hb (by omega)
  rw [chainN_fuel hb k (parF b n).toNat (parF b n) (by omega) (Nat.le_refl _)]
theorem chainF_len {b : Int} (hb : 2 ≤ b) : ∀ (d j k : Nat) (n : Int), k = j + d → 0 ≤ n → b ^ j ∣ n → n < b ^ k → (chainF b n).length ≤ d + 1
  | 0, j, k, n, e, h0, hd, hl => by
    have hz : n = 0 := by
      have e2 : k = j := by omega
      subst e2
      rcases Int.lt_or_le 0 n with q | q
      · have := Int.le_of_dvd q hd
        omega
      · omega
    subst hz
    simp [chainF_zero]
  | d + 1, j, k, n, e, h0, hd, hl => by
    by_cases hz : n = 0
    · subst hz
      simp [chainF_zero]
    · rw [chainF_pos hb (by omega), List.length_cons]
      obtain ⟨i, hi⟩ := unitF_pow (b := b) (n := n)
      have hji : b ^ j ≤ b ^ i := by
        rw [← hi]
        exact (dvd_iff hb (by omega) ⟨j, rfl⟩).mp hd
      have hij : j ≤ i := by
        rcases Nat.lt_or_ge i j with q | q
        · have := pow_lt hb q
          omega
        · exact q
      have hd2 : b ^ (j + 1) ∣ parF b n := by
        have h1 := parF_dvd (b := b) (n := n)
        rw [hi, ← Int.pow_succ] at h1
        exact Int.dvd_trans (pow_dvd hb ⟨_, rfl⟩ ⟨_, rfl⟩ (pow_mono hb (by omega))) h1
      have hp := parF_lt (b := b) (n := n) hb (by omega)
      have := chainF_len hb d (j + 1) k (parF b n) (by omega) (parF_nonneg hb h0) hd2 (by omega)
      omega
theorem chainF_small {b n : Int} (hb : 2 ≤ b) (h0 : 0 ≤ n) (h : n ≤ 10 ^ 61) : (chainF b n).length ≤ 211 := by
  refine chainF_len hb 210 0 210 n rfl h0 (by simp) ?_
  have h1 := two_le_pow hb 210
  have h2 : (10 : Int) ^ 61 < 2 ^ 210 := by decide
  omega
/-- membership in a chain is to lie in the block -/
theorem mem_chain {b : Int} (hb : 2 ≤ b) : ∀ (k : Nat) (n m : Int), n.toNat ≤ k → 0 ≤ n → 1 ≤ m → (m ∈ chainF b n ↔ m ≤ n ∧ n < m + unitF b m)
  | 0, n, m, hk, h0, hm => by
    have hz : n = 0 := by omega
    subst hz
    rw [chainF_zero]
    simp
    omega
  | k + 1, n, m, hk, h0, hm => by
    by_cases hz : n = 0
    · subst hz
      rw [chainF_zero]
      simp
      omega
    · rw [chainF_pos hb (by omega), List.mem_cons]
      have hp := parF_lt (b := b) (n := n) hb (by omega)
      have hp0 := parF_nonneg (b := b) (n := n) hb h0
      have ih := mem_chain hb k (parF b n) m (by omega) hp0 hm
      rw [ih]
      have hu := unitF_pos (b := b) (n := m) hb
      have hun := unitF_pos (b := b) (n := n) hb
      have hle := parF_le (b := b) (n := n) hb
      constructor
      · rintro (e | ⟨h1, h2⟩)
        · subst e
          omega
        · refine ⟨by omega, ?_⟩
          -- the block of m is a multiple of its unit; n lies below the next multiple of unit n * b
          rcases Int.lt_or_le n (m + unitF b m) with q | q
          · exact q
          · exfalso
            -- parent < m + um ≤ n, and um is a power: um ≤ un (else un * b ∣ um, and then parent's next multiple ...)
            rcases Int.lt_or_le (unitF b n) (unitF b m) with r | r
            · have hn := unitF_pow (b := b) (n := n)
              have hm' := unitF_pow (b := b) (n := m)
              have dv : unitF b n * b ∣ unitF b m := pow_dvd hb hn.mul hm' (hn.next hb hm' r)
              have dm : unitF b n * b ∣ m + unitF b m := Int.dvd_add (Int.dvd_trans dv unitF_dvd) dv
              have dd : unitF b n * b ∣ m + unitF b m - parF b n := Int.dvd_sub dm parF_dvd
              have := Int.le_of_dvd (by omega) dd
              omega
            · -- um ≤ un: parent is a multiple of un * b, so of um * b; m ≤ parent < m + um, m multiple of um: parent = m
              have hn := unitF_pow (b := b) (n := n)
              have hm' := unitF_pow (b := b) (n := m)
              have dp : unitF b m * b ∣ parF b n := Int.dvd_trans (Int.mul_dvd_mul (pow_dvd hb hm' hn r) (Int.dvd_refl b)) parF_dvd
              have dq : unitF b m ∣ parF b n - m := Int.dvd_sub (Int.dvd_trans ⟨b, rfl⟩ dp) unitF_dvd
              have e : parF b n = m := by
                rcases Int.lt_or_le 0 (parF b n - m) with z | z
                · have := Int.le_of_dvd z dq
                  omega
                · omega
              exact (unitF_is hb hm).2.2 (e ▸ dp)
      · rintro ⟨h1, h2⟩
        by_cases e : m = n
        · exact .inl e
        · refine .inr ⟨?_, by omega⟩
          -- m < n < m + um: um > un (else n - m would be a multiple of um)
          have hn := unitF_pow (b := b) (n := n)
          have hm' := unitF_pow (b := b) (n := m)
          rcases Int.lt_or_le (unitF b n) (unitF b m) with r | r
          · have dv : unitF b n * b ∣ m := Int.dvd_trans (pow_dvd hb hn.mul hm' (hn.next hb hm' r)) unitF_dvd
            have dd : unitF b n * b ∣ m - parF b n := Int.dvd_sub dv parF_dvd
            rcases Int.lt_or_le (parF b n) m with z | z
            · have := Int.le_of_dvd (by omega) dd
              omega
            · exact z
          · exfalso
            have dd : unitF b m ∣ n - m := Int.dvd_sub (Int.dvd_trans (pow_dvd hb hm' hn r) unitF_dvd) unitF_dvd
            have := Int.le_of_dvd (by omega) dd
            omega
theorem zero_mem_chain {b : Int} (hb : 2 ≤ b) : ∀ (k : Nat) (n : Int), n.toNat ≤ k → 0 ≤ n → (0 : Int) ∈ chainF b n
  | 0, n, hk, h0 => by
    have hz : n = 0 := by omega
    subst hz
    simp [chainF_zero]
  | k + 1, n, hk, h0 => by
    by_cases hz : n = 0
    · subst hz
      simp [chainF_zero]
    · rw [chainF_pos hb (by omega)]
      have hp := parF_lt (b := b) (n := n) hb (by omega)
      exact List.mem_cons_of_mem _ (zero_mem_chain hb k (parF b n) (by omega) (parF_nonneg hb h0))
theorem chain_nonneg {b : Int} (hb : 2 ≤ b) : ∀ (k : Nat) (n : Int), n.toNat ≤ k → 0 ≤ n → ∀ m ∈ chainF b n, 0 ≤ m ∧ m ≤ n
  | 0, n, hk, h0, m, h => by
    have hz : n = 0 := by omega
    subst hz
    simp [chainF_zero] at h
    omega
  | k + 1, n, hk, h0, m, h => by
    by_cases hz : n = 0
    · subst hz
      simp [chainF_zero] at h
      omega
    · rw [chainF_pos hb (by omega)] at h
      have hp := parF_lt (b := b) (n := n) hb (by omega)
      rcases List.mem_cons.mp h with e | e
      · omega
      · have := chain_nonneg hb k (parF b n) (by omega) (parF_nonneg hb h0) m e
        omega
/-- in_chain as the program asks it -/
def inCh (b n m : Int) : Bool := decide (m = 0) || (decide (m ≤ n) && decide (n < m + unitF b m))
theorem inCh_iff {b n m : Int} (hb : 2 ≤ b) (hn : 0 ≤ n) (hm : 0 ≤ m) : inCh b n m = true ↔ m ∈ chainF b n := by
  unfold inCh
  by_cases e : m = 0
  · subst e
    simp [zero_mem_chain hb n.toNat n (Nat.le_refl _) hn]
  · rw [mem_chain hb n.toNat n m (Nat.le_refl _) hn (by omega)]
    simp [e]
/-- two blocks are nested or disjoint -/
theorem blocks {b m n : Int} (hb : 2 ≤ b) (hm : 1 ≤ m) (hn : 1 ≤ n) (h1 : m < n + unitF b n) (h2 : n < m + unitF b m) : (m ≤ n ∧ n + unitF b n ≤ m + unitF b m) ∨ (n ≤ m ∧ m + unitF b m ≤ n + unitF b n) := by
  have key : ∀ m n : Int, 1 ≤ m → 1 ≤ n → m < n + unitF b n → n < m + unitF b m → unitF b m ≤ unitF b n → n ≤ m ∧ m + unitF b m ≤ n + unitF b n := by
    intro m n hm hn h1 h2 hu
    have dv : unitF b m ∣ unitF b n := pow_dvd hb unitF_pow unitF_pow hu
    have d1 : unitF b m ∣ n := Int.dvd_trans dv unitF_dvd
    have d2 : unitF b m ∣ n - m := Int.dvd_sub d1 unitF_dvd
    have d3 : unitF b m ∣ n + unitF b n - m := Int.dvd_sub (Int.dvd_add d1 dv) unitF_dvd
    constructor
    · rcases Int.lt_or_le 0 (n - m) with q | q
      · have := Int.le_of_dvd q d2
        omega
      · omega
    · have := Int.le_of_dvd (by omega) d3
      omega
  rcases Int.lt_or_le (unitF b n) (unitF b m) with q | q
  · exact .inl (key n m hn hm h2 h1 (by omega))
  · exact .inr (key m n hm hn h1 h2 q)
theorem k02_a {b x N : Int} (h : ¬ inCh b x N = (decide (N ≤ x) && decide (x < N + unitF b N))) (hN : 1 ≤ N) : False := by
  apply h
  unfold inCh
  rw [decide_eq_false (show ¬ N = 0 by omega)]
  rfl
theorem k02_b {b x N : Int} (h : ¬ decide (N ∈ chainF b x) = (decide (N ≤ x) && decide (x < N + unitF b N))) (hb : 2 ≤ b) (hx : 0 ≤ x) (hN : 1 ≤ N) : False := by
  apply h
  rw [Bool.eq_iff_iff]
  simp [mem_chain hb x.toNat x N (Nat.le_refl _) hx hN]
/-- kept, as the program asks it -/
def keptB (b f n t : Int) : Bool := decide (n ≤ t) && (decide (n = 0) || decide (t ≤ n + f * unitF b n))
/-- how a parent outlives its child -/
theorem life_step {b f n : Int} (hb : 2 ≤ b) (hf : 1 ≤ f) (hn : 1 ≤ n) (hp : 1 ≤ parF b n) : n + f * unitF b n ≤ parF b n + f * unitF b (parF b n) ∧ (2 ≤ f → n + f * unitF b n < parF b n + f * unitF b (parF b n)) := by
  have hu := unitF_pos (b := b) (n := n) hb
  have h1 := (dvd_iff hb hp (unitF_pow (b := b) (n := n)).mul).mp parF_dvd
  have hl := parF_le (b := b) (n := n) hb
  -- n - parent ≤ (b - 1) * unit
  have hgap : n - parF b n ≤ unitF b n * b - unitF b n := by
    have d1 : unitF b n ∣ parF b n + unitF b n * b - n := Int.dvd_sub (Int.dvd_add (Int.dvd_trans ⟨b, rfl⟩ parF_dvd) ⟨b, rfl⟩) unitF_dvd
    have := Int.le_of_dvd (by omega) d1
    omega
  have h2 : f * (unitF b n * b) ≤ f * unitF b (parF b n) := Int.mul_le_mul_of_nonneg_left h1 (by omega)
  have h3 : f * (unitF b n * b) = f * unitF b n * b := by rw [Int.mul_assoc]
  generalize unitF b n = u at *
  -- (f - 1) * (b - 1) * u ≥ 0
  have e : f * u * b - f * u - (u * b - u) = (f - 1) * ((b - 1) * u) := by
    rw [Int.sub_mul, Int.sub_mul, Int.mul_sub, Int.one_mul, Int.one_mul, Int.mul_assoc, Int.mul_comm u b]
  have h4 : 0 ≤ (b - 1) * u := Int.mul_nonneg (by omega) (by omega)
  have h5 : 0 ≤ (f - 1) * ((b - 1) * u) := Int.mul_nonneg (by omega) h4
  constructor
  · omega
  · intro hf2
    have h6 : 1 * u ≤ (b - 1) * u := Int.mul_le_mul_of_nonneg_right (by omega) (by omega)
    have h7 : 1 * ((b - 1) * u) ≤ (f - 1) * ((b - 1) * u) := Int.mul_le_mul_of_nonneg_right (by omega) h4
    omega
/-- the last time -/
def lastF (b f n : Int) : Int := n + f * unitF b n
theorem keptB_pos {b f n t : Int} (hn : 1 ≤ n) (ht : n ≤ t) : keptB b f n t = decide (t ≤ n + f * unitF b n) := by
  unfold keptB
  rw [decide_eq_true ht, decide_eq_false (show ¬ n = 0 by omega)]
  rfl
theorem keptB_zero {b f t : Int} (ht : 0 ≤ t) : keptB b f 0 t = true := by
  unfold keptB
  rw [decide_eq_true ht]
  rfl
theorem chain_kept {b f t : Int} (hb : 2 ≤ b) (hf : 1 ≤ f) : ∀ (k : Nat) (n : Int), n.toNat ≤ k → 0 ≤ n → keptB b f n t = true → ∀ m ∈ chainF b n, keptB b f m t = true
  | 0, n, hk, h0, h, m, hm => by
    have hz : n = 0 := by omega
    subst hz
    simp [chainF_zero] at hm
    rw [hm]
    exact h
  | k + 1, n, hk, h0, h, m, hm => by
    by_cases hz : n = 0
    · subst hz
      simp [chainF_zero] at hm
      rw [hm]
      exact h
    · rw [chainF_pos hb (by omega)] at hm
      have hp := parF_lt (b := b) (n := n) hb (by omega)
      have hp0 := parF_nonneg (b := b) (n := n) hb h0
      rcases List.mem_cons.mp hm with e | e
      · rw [e]
        exact h
      · refine chain_kept hb hf k (parF b n) (by omega) hp0 ?_ m e
        have hnt : n ≤ t := by
          unfold keptB at h
          rw [Bool.and_eq_true] at h
          exact of_decide_eq_true h.1
        by_cases hz2 : parF b n = 0
        · rw [hz2]
          exact keptB_zero (by omega)
        · rw [keptB_pos (by omega) (by omega)] at *
          have := (life_step hb hf (n := n) (by omega) (by omega)).1
          have h := of_decide_eq_true h
          exact decide_eq_true (by omega)
/-- the last times along a chain, without 0, ascend -/
theorem ends_up {b f : Int} (hb : 2 ≤ b) (hf : 1 ≤ f) : ∀ (k : Nat) (n : Int), n.toNat ≤ k → 1 ≤ n → ((chainF b n).dropLast.map (lastF b f)).Pairwise (· ≤ ·) ∧ (2 ≤ f → ((chainF b n).dropLast.map (lastF b f)).Pairwise (· < ·)) ∧ ∀ m ∈ (chainF b n).dropLast, lastF b f n ≤ lastF b f m
  | 0, n, hk, h0 => by omega
  | k + 1, n, hk, h0 => by
    rw [chainF_pos hb h0]
    have hp := parF_lt (b := b) (n := n) hb h0
    have hp0 := parF_nonneg (b := b) (n := n) hb (by omega)
    by_cases hz : parF b n = 0
    · rw [hz, chainF_zero]
      simp
    · have ih := ends_up hb hf k (parF b n) (by omega) (by omega)
      have hs := life_step hb hf (n := n) h0 (by omega)
      have hne : chainF b (parF b n) ≠ [] := by
        rw [chainF_pos hb (by omega)]
        simp
      have hd : (n :: chainF b (parF b n)).dropLast = n :: (chainF b (parF b n)).dropLast := by
        cases hc : chainF b (parF b n) with
        | nil => exact absurd hc hne
        | cons x r => rfl
      rw [hd, List.map_cons]
      have hle : ∀ m ∈ (chainF b (parF b n)).dropLast, lastF b f n ≤ lastF b f m := fun m hm => by
        have := ih.2.2 m hm
        unfold lastF at *
        omega
      refine ⟨?_, fun h2 => ?_, ?_⟩
      · rw [List.pairwise_cons]
        refine ⟨fun x hx => ?_, ih.1⟩
        obtain ⟨m, hm, rfl⟩ := List.mem_map.mp hx
        exact hle m hm
      · rw [List.pairwise_cons]
        refine ⟨fun x hx => ?_, ih.2.1 h2⟩
        obtain ⟨m, hm, rfl⟩ := List.mem_map.mp hx
        have := ih.2.2 m hm
        have := hs.2 h2
        unfold lastF at *
        omega
      · intro m hm
        rcases List.mem_cons.mp hm with e | e
        · rw [e]
          exact Int.le_refl _
        · exact hle m e
theorem drop_pos {b : Int} (hb : 2 ≤ b) : ∀ (k : Nat) (n : Int), n.toNat ≤ k → 0 ≤ n → ∀ m ∈ (chainF b n).dropLast, 1 ≤ m
  | 0, n, hk, h0, m, hm => by
    have hz : n = 0 := by omega
    subst hz
    simp [chainF_zero] at hm
  | k + 1, n, hk, h0, m, hm => by
    by_cases hz : n = 0
    · subst hz
      simp [chainF_zero] at hm
    · rw [chainF_pos hb (by omega)] at hm
      have hp := parF_lt (b := b) (n := n) hb (by omega)
      have hp0 := parF_nonneg (b := b) (n := n) hb h0
      have hne : chainF b (parF b n) ≠ [] := by
        by_cases hz2 : parF b n = 0
        · rw [hz2, chainF_zero]
          simp
        · rw [chainF_pos hb (by omega)]
          simp
      have hd : (n :: chainF b (parF b n)).dropLast = n :: (chainF b (parF b n)).dropLast := by
        cases hc : chainF b (parF b n) with
        | nil => exact absurd hc hne
        | cons x r => rfl
      rw [hd] at hm
      rcases List.mem_cons.mp hm with e | e
      · omega
      · exact drop_pos hb k (parF b n) (by omega) hp0 m e
end Ma

set_option Elab.async false
set_option linter.all false
set_option maxRecDepth 100000
/-! sizes, plain -/
namespace Ma
def sizeF (b n w : Int) : Int := if n = 0 then w else min w (n - parF b n)
/-- the digits' sizes, by fuel -/
def digN (b w : Int) : Nat → Int → Int → Int
  | 0, _, _ => 0
  | k + 1, n, p => if n ≤ 0 then 0 else min w (n % b * p) + digN b w k (n / b) (p * b)
def digF (b w n p : Int) : Int := digN b w n.toNat n p
theorem div_small {b n : Int} (hb : 2 ≤ b) (hn : 1 ≤ n) : 0 ≤ n / b ∧ n / b < n := by
  have h0 : 0 ≤ n / b := Int.ediv_nonneg (by omega) (by omega)
  have e := Int.mul_ediv_add_emod n b
  have h1 := Int.emod_nonneg n (show b ≠ 0 by omega)
  have h2 : 2 * (n / b) ≤ b * (n / b) := Int.mul_le_mul_of_nonneg_right hb h0
  omega
theorem digN_fuel {b w : Int} (hb : 2 ≤ b) : ∀ (k j : Nat) (n p : Int), n.toNat ≤ k → n.toNat ≤ j → digN b w k n p = digN b w j n p
  | 0, 0, n, p, _, _ => rfl
  | 0, j + 1, n, p, h, _ => by
    unfold digN
    rw [if_pos (by omega)]
  | k + 1, 0, n, p, _, h => by
    unfold digN
    rw [if_pos (by omega)]
  | k + 1, j + 1, n, p, h1, h2 => by
    unfold digN
    split
    · rfl
    · have := div_small (b := b) (n := n) hb (by omega)
      rw [digN_fuel hb k j (n / b) (p * b) (by omega) (by omega)]
theorem digF_zero {b w n p : Int} (h : n ≤ 0) : digF b w n p = 0 := by
  unfold digF
  have e : n.toNat = 0 := by omega
  rw [e]
  rfl
theorem digF_pos {b w n p : Int} (hb : 2 ≤ b) (hn : 1 ≤ n) : digF b w n p = min w (n % b * p) + digF b w (n / b) (p * b) := by
  obtain ⟨k, e⟩ : ∃ k, n.toNat = k + 1 := ⟨n.toNat - 1, by omega⟩
  have hd := div_small (b := b) (n := n) hb hn
  unfold digF
  rw [e]
  show (if n ≤ 0 then 0 else min w (n % b * p) + digN b w k (n / b) (p * b)) = _
  rw [if_neg (by omega), digN_fuel hb k (n / b).toNat (n / b) (p * b) (by omega) (Nat.le_refl _)]
theorem dig_turn {b w n x p tot : Int} (hb : 2 ≤ b) (hx : 1 ≤ x) (hn : 0 ≤ n) (h : 0 ≤ x ∧ x ≤ n ∧ 1 ≤ p ∧ (0 < x → p * x ≤ n) ∧ tot + digF b w x p = w + digF b w n 1) :
    0 ≤ x / b ∧ x / b ≤ n ∧ 1 ≤ p * b ∧ (0 < x / b → p * b * (x / b) ≤ n) ∧ tot + min w (x % b * p) + digF b w (x / b) (p * b) = w + digF b w n 1 := by
  obtain ⟨h1, h2, h3, h4, h5⟩ := h
  have hd := div_small (b := b) (n := x) hb hx
  have hpb : p * 1 ≤ p * b := Int.mul_le_mul_of_nonneg_left (by omega) (by omega)
  refine ⟨hd.1, by omega, by omega, fun _ => ?_, ?_⟩
  · have e := Int.mul_ediv_add_emod x b
    have h6 := Int.emod_nonneg x (show b ≠ 0 by omega)
    have h7 : p * (b * (x / b)) ≤ p * x := Int.mul_le_mul_of_nonneg_left (by omega) (by omega)
    rw [Int.mul_assoc]
    have := h4 (by omega)
    omega
  · rw [digF_pos hb hx] at h5
    omega
/-- units of multiples of the base -/
theorem unit_mul {b m : Int} (hb : 2 ≤ b) (hm : 1 ≤ m) : unitF b (b * m) = b * unitF b m := by
  have hbm : 1 * m ≤ b * m := Int.mul_le_mul_of_nonneg_right (by omega) (by omega)
  refine ((IsUnit.eq hb (by omega) ⟨?_, ?_, ?_⟩)).symm
  · rw [Int.mul_comm]
    exact unitF_pow.mul
  · exact Int.mul_dvd_mul (Int.dvd_refl b) unitF_dvd
  · intro q
    rw [Int.mul_assoc] at q
    exact (unitF_is hb hm).2.2 (Int.dvd_of_mul_dvd_mul_left (by omega) q)
theorem unit_one {b n : Int} (hb : 2 ≤ b) (hn : 1 ≤ n) (h : ¬ n % b = 0) : unitF b n = 1 := by
  refine ((IsUnit.eq hb hn ⟨IsPow.one b, Int.one_dvd n, ?_⟩)).symm
  rw [Int.one_mul]
  exact fun q => h (Int.emod_eq_zero_of_dvd q)
theorem par_mul {b m : Int} (hb : 2 ≤ b) (hm : 1 ≤ m) : parF b (b * m) = b * parF b m := by
  unfold parF
  rw [unit_mul hb hm, Int.mul_assoc b (unitF b m) b, Int.mul_ediv_mul_of_pos _ _ (by omega)]
  rw [Int.mul_comm b (unitF b m * b), ← Int.mul_assoc, Int.mul_comm]
/-- one digit less -/
theorem dig_par {b w : Int} (hb : 2 ≤ b) (hw : 0 ≤ w) : ∀ (k : Nat) (n p : Int), n.toNat ≤ k → 1 ≤ n → 1 ≤ p → digF b w n p = min w ((n - parF b n) * p) + digF b w (parF b n) p
  | 0, n, p, hk, hn, hp => by omega
  | k + 1, n, p, hk, hn, hp => by
    have e := Int.mul_ediv_add_emod n b
    have hm0 : min w 0 = 0 := by
      rw [Int.min_def]
      split <;> omega
    by_cases hz : n % b = 0
    · have hd := div_lt hb hn hz
      have en : n = b * (n / b) := by omega
      have ih := dig_par hb hw k (n / b) (p * b) (by omega) hd.1 (by have : p * 1 ≤ p * b := Int.mul_le_mul_of_nonneg_left (by omega) (by omega); omega)
      rw [digF_pos hb hn, hz, Int.zero_mul, ih]
      have ep : parF b n = b * parF b (n / b) := by
        have q := par_mul hb hd.1
        rw [← en] at q
        exact q
      have e1 : (n / b - parF b (n / b)) * (p * b) = (n - parF b n) * p := by
        rw [ep]
        have e3 : n - b * parF b (n / b) = b * (n / b - parF b (n / b)) := by rw [Int.mul_sub, ← en]
        rw [e3, Int.mul_comm p b, ← Int.mul_assoc, Int.mul_comm (n / b - parF b (n / b)) b]
      rw [e1, ep]
      have hp0 := parF_nonneg (b := b) (n := n / b) hb (by omega)
      by_cases hz2 : parF b (n / b) = 0
      · rw [hz2, Int.mul_zero, digF_zero (by omega), digF_zero (by omega)]
        omega
      · have hb1 : b * 1 ≤ b * parF b (n / b) := Int.mul_le_mul_of_nonneg_left (by omega) (by omega)
        rw [digF_pos (n := b * parF b (n / b)) hb (by omega), Int.mul_emod_right, Int.zero_mul, Int.mul_ediv_cancel_left _ (by omega)]
        omega
    · have eu := unit_one hb hn hz
      have ep : parF b n = b * (n / b) := by
        unfold parF
        rw [eu, Int.one_mul, Int.mul_comm]
      have hd := div_small (b := b) (n := n) hb hn
      rw [digF_pos hb hn, ep]
      have e1 : n - b * (n / b) = n % b := by omega
      rw [e1]
      congr 1
      by_cases hz2 : n / b = 0
      · rw [hz2, Int.mul_zero, digF_zero (by omega), digF_zero (by omega)]
      · have hb1 : b * 1 ≤ b * (n / b) := Int.mul_le_mul_of_nonneg_left (by omega) (by omega)
        rw [digF_pos (n := b * (n / b)) hb (by omega), Int.mul_emod_right, Int.zero_mul, Int.mul_ediv_cancel_left _ (by omega)]
        omega
theorem chain_sum' {b w : Int} (hb : 2 ≤ b) (hw : 0 ≤ w) : ∀ (k : Nat) (n : Int), n.toNat ≤ k → 0 ≤ n → ((chainF b n).map (fun m => sizeF b m w)).sum = w + digF b w n 1
  | 0, n, hk, h0 => by
    have hz : n = 0 := by omega
    subst hz
    rw [chainF_zero, digF_zero (by omega)]
    simp [sizeF]
  | k + 1, n, hk, h0 => by
    by_cases hz : n = 0
    · subst hz
      rw [chainF_zero, digF_zero (by omega)]
      simp [sizeF]
    · have hp := parF_lt (b := b) (n := n) hb (by omega)
      have hp0 := parF_nonneg (b := b) (n := n) hb h0
      rw [chainF_pos hb (by omega), List.map_cons, List.sum_cons, chain_sum' hb hw k (parF b n) (by omega) hp0, dig_par hb hw n.toNat n 1 (Nat.le_refl _) (by omega) (by omega)]
      unfold sizeF
      rw [if_neg hz, Int.mul_one]
      omega
theorem chain_sum {b w n : Int} (hb : 2 ≤ b) (hw : 1 ≤ w) (h0 : 0 ≤ n) : ((chainF b n).map (fun m => sizeF b m w)).sum = w + digF b w n 1 := chain_sum' hb (by omega) n.toNat n (Nat.le_refl _) h0
theorem chain_big {b w : Int} (hb : 2 ≤ b) : ∀ (k : Nat) (n : Int), n.toNat ≤ k → 0 ≤ n → n ≤ w → ((chainF b n).map (fun m => sizeF b m w)).sum = n + w
  | 0, n, hk, h0, hw => by
    have hz : n = 0 := by omega
    subst hz
    rw [chainF_zero]
    simp [sizeF]
  | k + 1, n, hk, h0, hw => by
    by_cases hz : n = 0
    · subst hz
      rw [chainF_zero]
      simp [sizeF]
    · have hp := parF_lt (b := b) (n := n) hb (by omega)
      have hp0 := parF_nonneg (b := b) (n := n) hb h0
      rw [chainF_pos hb (by omega), List.map_cons, List.sum_cons, chain_big hb k (parF b n) (by omega) hp0 (by omega)]
      unfold sizeF
      rw [if_neg hz, Int.min_def]
      split <;> omega
end Ma

namespace Ma
/-! ### the newest kept number up to a state -/
def newN (b f t : Int) : Nat → Int
  | 0 => 0
  | k + 1 => if keptB b f ((k : Int) + 1) t = true then (k : Int) + 1 else newN b f t k
def newF (b f s t : Int) : Int := newN b f t s.toNat
def IsNew (b f s t r : Int) : Prop := 0 ≤ r ∧ r ≤ s ∧ keptB b f r t = true ∧ ∀ n, r < n → n ≤ s → ¬ keptB b f n t = true
theorem newN_is {b f t : Int} (ht : 0 ≤ t) : ∀ k : Nat, IsNew b f k t (newN b f t k)
  | 0 => ⟨Int.le_refl _, Int.le_refl _, keptB_zero ht, fun n h1 h2 => by
    have : newN b f t 0 = 0 := rfl
    rw [this] at h1
    exfalso
    simp at h2
    omega⟩
  | k + 1 => by
    unfold newN
    by_cases h : keptB b f ((k : Int) + 1) t = true
    · rw [if_pos h]
      exact ⟨by omega, by simp, h, fun n h1 h2 => by exfalso; simp at h2; omega⟩
    · rw [if_neg h]
      obtain ⟨h1, h2, h3, h4⟩ := newN_is (b := b) (f := f) ht k
      refine ⟨h1, by simp; omega, h3, fun n q1 q2 => ?_⟩
      simp at q2
      by_cases e : n = (k : Int) + 1
      · rw [e]
        exact h
      · exact h4 n q1 (by omega)
theorem newF_is {b f s t : Int} (hs : 0 ≤ s) (ht : 0 ≤ t) : IsNew b f s t (newF b f s t) := by
  have h := newN_is (b := b) (f := f) ht s.toNat
  have e : ((s.toNat : Nat) : Int) = s := by omega
  rw [e] at h
  exact h
theorem IsNew.uniq {b f s t r q : Int} (h : IsNew b f s t r) (k : IsNew b f s t q) : r = q := by
  obtain ⟨a1, a2, a3, a4⟩ := h
  obtain ⟨b1, b2, b3, b4⟩ := k
  rcases Int.lt_trichotomy r q with h | h | h
  · exact absurd b3 (a4 q h b2)
  · exact h
  · exact absurd a3 (b4 r h a2)
theorem IsNew.eq {b f s t r : Int} (ht : 0 ≤ t) (h : IsNew b f s t r) : r = newF b f s t :=
  h.uniq (newF_is (by have := h.1; have := h.2.1; omega) ht)
theorem keptB_chain {b f n t : Int} (hn : 1 ≤ n) : (decide (0 < n) && (decide (n ≤ t) && decide (t ≤ n + f * unitF b n))) = keptB b f n t := by
  unfold keptB
  rw [decide_eq_true (show 0 < n by omega), decide_eq_false (show ¬ n = 0 by omega)]
  simp
/-! the walk through the powers -/
def downF (s u : Int) : Int := s / u * u
theorem down_le {s u : Int} (hu : 1 ≤ u) : downF s u ≤ s ∧ s < downF s u + u := by
  unfold downF
  have h1 := Int.mul_ediv_add_emod s u
  have h2 := Int.emod_nonneg s (show u ≠ 0 by omega)
  have h3 := Int.emod_lt_of_pos s (show 0 < u by omega)
  rw [Int.mul_comm] at h1
  omega
theorem down_nonneg {s u : Int} (hs : 0 ≤ s) (hu : 1 ≤ u) : 0 ≤ downF s u :=
  Int.mul_nonneg (Int.ediv_nonneg hs (by omega)) (by omega)
theorem down_dvd {s u : Int} : u ∣ downF s u := ⟨s / u, by unfold downF; rw [Int.mul_comm]⟩
theorem down_max {s u n : Int} (hu : 1 ≤ u) (hd : u ∣ n) (hn : n ≤ s) : n ≤ downF s u := by
  obtain ⟨c, rfl⟩ := hd
  unfold downF
  rw [Int.mul_comm u c] at hn ⊢
  exact Int.mul_le_mul_of_nonneg_right ((Int.le_ediv_iff_mul_le (by omega)).mpr hn) (by omega)
/-- what the loop over the first i powers has found -/
def NewI (b f s t : Int) (i : Nat) (r : Int) : Prop := 0 ≤ r ∧ r ≤ s ∧ keptB b f r t = true ∧ ∀ j : Nat, j < i → t - downF s (b ^ j) ≤ f * b ^ j → downF s (b ^ j) ≤ r
theorem NewI.zero {b f s t : Int} (hs : 0 ≤ s) (ht : 0 ≤ t) : NewI b f s t 0 0 := ⟨by omega, hs, keptB_zero ht, fun j h => absurd h (by omega)⟩
theorem down_kept {b f s t : Int} {j : Nat} (hb : 2 ≤ b) (hf : 1 ≤ f) (hs : 0 ≤ s) (hst : s ≤ t) (h : t - downF s (b ^ j) ≤ f * b ^ j) : keptB b f (downF s (b ^ j)) t = true := by
  have hu := pow_pos hb j
  have h1 := down_nonneg hs hu
  have h2 := down_le (s := s) hu
  by_cases e : downF s (b ^ j) = 0
  · rw [e]
    exact keptB_zero (by omega)
  · rw [keptB_pos (by omega) (by omega)]
    refine decide_eq_true ?_
    have h3 := (dvd_iff hb (n := downF s (b ^ j)) (by omega) ⟨j, rfl⟩).mp down_dvd
    have h4 : f * b ^ j ≤ f * unitF b (downF s (b ^ j)) := Int.mul_le_mul_of_nonneg_left h3 (by omega)
    omega
theorem NewI.yes {b f s t r : Int} {i : Nat} (hb : 2 ≤ b) (hf : 1 ≤ f) (hs : 0 ≤ s) (hst : s ≤ t) (hI : NewI b f s t i r) (h : t - downF s (b ^ i) ≤ f * b ^ i) : NewI b f s t (i + 1) (max r (downF s (b ^ i))) := by
  obtain ⟨h1, h2, h3, h4⟩ := hI
  have q1 := down_le (s := s) (pow_pos hb i)
  have q2 := down_nonneg hs (pow_pos hb i)
  have q3 := down_kept hb hf hs hst h
  refine ⟨by omega, by omega, ?_, fun j hj hk => ?_⟩
  · rcases Int.le_total r (downF s (b ^ i)) with z | z
    · rw [Int.max_eq_right z]
      exact q3
    · rw [Int.max_eq_left z]
      exact h3
  · by_cases e : j = i
    · subst e
      exact Int.le_max_right _ _
    · have := h4 j (by omega) hk
      omega
theorem NewI.no {b f s t r : Int} {i : Nat} (hI : NewI b f s t i r) (h : ¬ t - downF s (b ^ i) ≤ f * b ^ i) : NewI b f s t (i + 1) r := by
  obtain ⟨h1, h2, h3, h4⟩ := hI
  refine ⟨h1, h2, h3, fun j hj hk => ?_⟩
  by_cases e : j = i
  · subst e
    exact absurd hk h
  · exact h4 j (by omega) hk
theorem NewI.done {b f s t r : Int} {k : Nat} (hb : 2 ≤ b) (hf : 1 ≤ f) (hst : s ≤ t) (hk : s < b ^ (k + 1)) (hI : NewI b f s t (k + 1) r) : r = newF b f s t := by
  obtain ⟨h1, h2, h3, h4⟩ := hI
  refine IsNew.eq (by omega) ⟨h1, h2, h3, fun n q1 q2 q3 => ?_⟩
  obtain ⟨j, hj⟩ := unitF_pow (b := b) (n := n)
  have hle := unitF_le (b := b) (n := n) (by omega)
  rw [keptB_pos (by omega) (by omega)] at q3
  have q3 := of_decide_eq_true q3
  have hd := down_max (s := s) (unitF_pos (b := b) (n := n) hb) unitF_dvd q2
  rw [hj] at hd q3 hle
  have hlt : j < k + 1 := pow_lt_iff hb (by omega)
  have := h4 j hlt (by omega)
  omega
/-! the greatest of a list of the kept numbers -/
theorem max_new {b f s t m : Int} {ns : List Int} (h1 : m ∈ ns) (h2 : ∀ k ∈ ns, k ≤ m) (h0 : 0 ≤ m) (ht : 0 ≤ t) (hin : ∀ n, 0 ≤ n → n ≤ s → keptB b f n t = true → n ∈ ns) (hm : m ≤ s) (hk : keptB b f m t = true) : m = newF b f s t :=
  IsNew.eq ht ⟨h0, hm, hk, fun n q1 q2 q3 => by have := h2 n (hin n (by omega) q2 q3); omega⟩
theorem mem_rng {lo n : Int} {k : Nat} : n ∈ Kr.rngI lo k ↔ lo ≤ n ∧ n < lo + k := by
  unfold Kr.rngI
  simp only [List.mem_map, List.mem_range]
  constructor
  · rintro ⟨i, hi, rfl⟩
    omega
  · intro h
    exact ⟨(n - lo).toNat, by omega, by omega⟩
theorem mem_kept {b f t s m : Int} {n : Nat} : m ∈ ((Kr.rngI 0 n).filter (fun m => keptB b f m t)).filter (fun m => decide (m ≤ s)) ↔ (0 ≤ m ∧ m < n) ∧ keptB b f m t = true ∧ m ≤ s := by
  rw [List.mem_filter, List.mem_filter, mem_rng]
  simp only [decide_eq_true_eq, Int.zero_add, and_assoc]
theorem kept_some {b f t s : Int} {n : Nat} (h1 : 0 < n) (h2 : 0 ≤ s) (ht : 0 ≤ t) : 0 < (((Kr.rngI 0 n).filter (fun m => keptB b f m t)).filter (fun m => decide (m ≤ s))).length :=
  List.length_pos_of_mem (a := 0) (mem_kept.mpr ⟨by omega, keptB_zero ht, h2⟩)
theorem kept_len {b f t : Int} {n : Nat} : ((Kr.rngI 0 n).filter (fun m => keptB b f m t)).length ≤ n := by
  have := List.length_filter_le (fun m => keptB b f m t) (Kr.rngI 0 n)
  rw [Kr.rngI_len] at this
  exact this
theorem kept_max {b f t s m : Int} {n : Nat} (h2 : 0 ≤ s) (ht : 0 ≤ t) (hn : s < n) (hm : m ∈ ((Kr.rngI 0 n).filter (fun m => keptB b f m t)).filter (fun m => decide (m ≤ s))) (hM : ∀ k ∈ ((Kr.rngI 0 n).filter (fun m => keptB b f m t)).filter (fun m => decide (m ≤ s)), k ≤ m) : m = newF b f s t := by
  have h := mem_kept.mp hm
  exact max_new hm hM h.1.1 ht (fun k h0 h1 h3 => mem_kept.mpr ⟨by omega, h3, h1⟩) h.2.2 h.2.1
end Ma

set_option Elab.async false
set_option linter.all false
set_option maxRecDepth 100000
namespace Ma
/-! ### finite sums -/
def sumN (f : Nat → Int) : Nat → Int
  | 0 => 0
  | n + 1 => sumN f n + f n
theorem sumN_congr {f h : Nat → Int} : ∀ {n : Nat}, (∀ i, i < n → f i = h i) → sumN f n = sumN h n
  | 0, _ => rfl
  | n + 1, k => by rw [sumN, sumN, sumN_congr fun i hi => k i (by omega), k n (by omega)]
theorem sumN_add (f h : Nat → Int) : ∀ n : Nat, sumN (fun i => f i + h i) n = sumN f n + sumN h n
  | 0 => rfl
  | n + 1 => by rw [sumN, sumN, sumN, sumN_add f h n]; omega
theorem sumN_zero {f : Nat → Int} {n : Nat} (h : ∀ i, i < n → f i = 0) : sumN f n = 0 := by
  rw [sumN_congr (h := fun _ => 0) h]
  clear h
  induction n with
  | zero => rfl
  | succ n ih => rw [sumN, ih]; rfl
theorem sumN_swap (F : Nat → Nat → Int) (n : Nat) : ∀ m : Nat, sumN (fun i => sumN (fun j => F i j) m) n = sumN (fun j => sumN (fun i => F i j) n) m
  | 0 => by rw [sumN]; exact sumN_zero fun _ _ => rfl
  | m + 1 => by
    rw [sumN, ← sumN_swap F n m, ← sumN_add]
    exact sumN_congr fun _ _ => rfl
theorem sumN_one {f : Nat → Int} {n m : Nat} (hm : m < n) (h : ∀ i, i < n → i ≠ m → f i = 0) : sumN f n = f m := by
  induction n with
  | zero => omega
  | succ n ih =>
    rw [sumN]
    by_cases e : m = n
    · subst e
      rw [sumN_zero fun i hi => h i (by omega) (by omega)]
      omega
    · rw [ih (by omega) fun i hi hn => h i (by omega) hn, h n (by omega) (by omega)]
      omega
theorem sumN_plus (f : Nat → Int) (n : Nat) : ∀ m : Nat, sumN f (n + m) = sumN f n + sumN (fun i => f (n + i)) m
  | 0 => by rw [Nat.add_zero, sumN]; omega
  | m + 1 => by rw [← Nat.add_assoc, sumN, sumN, sumN_plus f n m]; omega
theorem sumN_le {f h : Nat → Int} : ∀ {n : Nat}, (∀ i, i < n → f i ≤ h i) → sumN f n ≤ sumN h n
  | 0, _ => Int.le_refl _
  | n + 1, k => by
    have := sumN_le (n := n) fun i hi => k i (by omega)
    have := k n (by omega)
    rw [sumN, sumN]
    omega
theorem sumN_mul (c : Int) (f : Nat → Int) : ∀ n : Nat, sumN (fun i => c * f i) n = c * sumN f n
  | 0 => by rw [sumN, sumN]; omega
  | n + 1 => by rw [sumN, sumN, sumN_mul c f n, Int.mul_add]
theorem sum_rng (f : Int → Int) (lo : Int) : ∀ n : Nat, ((Kr.rngI lo n).map f).sum = sumN (fun i => f (lo + i)) n
  | 0 => rfl
  | n + 1 => by
    have e : Kr.rngI lo (n + 1) = Kr.rngI lo n ++ [lo + (n : Int)] := by
      unfold Kr.rngI
      rw [List.range_succ, List.map_append]
      rfl
    rw [e, List.map_append, List.sum_append, sum_rng f lo n, sumN]
    simp
/-! ### sizes of digits -/
theorem div_is {n u q : Int} (hu : 0 < u) (h1 : q * u ≤ n) (h2 : n < q * u + u) : n / u = q := by
  have h3 : q ≤ n / u := (Int.le_ediv_iff_mul_le hu).mpr h1
  have h4 : n / u < q + 1 := (Int.ediv_lt_iff_lt_mul hu).mpr (by rw [Int.add_mul]; omega)
  omega
def tri : Nat → Int
  | 0 => 0
  | n + 1 => tri n + (n + 1)
theorem tri_eq : ∀ n : Nat, (n : Int) * (n + 1) = 2 * tri n
  | 0 => rfl
  | n + 1 => by
    have := tri_eq n
    rw [tri]
    have e : ((n + 1 : Nat) : Int) = n + 1 := by omega
    rw [e]
    grind
/-- the sum of min w (d * u) for d from 1 to m -/
def dsum (u w : Int) (m : Nat) : Int := sumN (fun d => min w (((d : Int) + 1) * u)) m
theorem dsum_small {u w : Int} (hu : 1 ≤ u) : ∀ m : Nat, (m : Int) * u ≤ w → dsum u w m = u * tri m
  | 0, _ => by rw [dsum, sumN, tri]; omega
  | m + 1, h => by
    have e : ((m + 1 : Nat) : Int) = m + 1 := by omega
    rw [e, Int.add_mul] at h
    have h2 : (m : Int) * u ≤ w := by omega
    have ih := dsum_small hu m h2
    unfold dsum at *
    rw [sumN, ih, tri, Int.mul_add, Int.min_eq_right (by rw [Int.add_mul]; omega)]
    grind
theorem dsum_split {u w : Int} {s : Nat} (hu : 1 ≤ u) (hs : w < ((s : Int) + 1) * u) : ∀ m : Nat, dsum u w (s + m) = dsum u w s + m * w
  | 0 => by rw [Nat.add_zero]; omega
  | m + 1 => by
    have ih := dsum_split hu hs m
    unfold dsum at *
    rw [← Nat.add_assoc, sumN, ih]
    have h1 : ((s : Int) + 1) * u ≤ (((s + m : Nat) : Int) + 1) * u := Int.mul_le_mul_of_nonneg_right (by omega) (by omega)
    rw [Int.min_eq_left (by omega)]
    have e : ((m + 1 : Nat) : Int) = m + 1 := by omega
    rw [e, Int.add_mul]
    omega
theorem digits_eq {u w m : Int} (hu : 1 ≤ u) (hw : 0 ≤ w) (hm : 0 ≤ m) : u * min m (w / u) * (min m (w / u) + 1) / 2 + (m - min m (w / u)) * w = dsum u w m.toNat := by
  have hq0 : 0 ≤ w / u := Int.ediv_nonneg hw (by omega)
  have e0 := Int.mul_ediv_add_emod w u
  have e1 := Int.emod_nonneg w (show u ≠ 0 by omega)
  have e2 := Int.emod_lt_of_pos w (show 0 < u by omega)
  obtain ⟨s, hs⟩ : ∃ s : Nat, (s : Int) = min m (w / u) := ⟨(min m (w / u)).toNat, by omega⟩
  rw [← hs]
  have ht := tri_eq s
  have e3 : u * (s : Int) * ((s : Int) + 1) = 2 * (u * tri s) := by grind
  rw [e3, Int.mul_ediv_cancel_left _ (by decide)]
  have hsu : (s : Int) * u ≤ w := by
    have : (s : Int) * u ≤ (w / u) * u := Int.mul_le_mul_of_nonneg_right (by omega) (by omega)
    rw [Int.mul_comm (w / u)] at this
    omega
  rw [← dsum_small hu s hsu]
  by_cases h : m ≤ w / u
  · have e : (s : Int) = m := by omega
    rw [show m.toNat = s by omega, e]
    simp
  · have e : (s : Int) = w / u := by omega
    have hlt : w < ((s : Int) + 1) * u := by rw [e, Int.add_mul, Int.mul_comm]; omega
    have := dsum_split hu hlt (m.toNat - s)
    rw [show s + (m.toNat - s) = m.toNat by omega] at this
    rw [this, show ((m.toNat - s : Nat) : Int) = m - s by omega]
/-- the sum of min w (k % b * u) for k from 1 to c -/
def usum (b u w : Int) (c : Nat) : Int := sumN (fun k => min w ((((k : Int) + 1) % b) * u)) c
theorem dsum_succ (u w : Int) (m : Nat) : dsum u w (m + 1) = dsum u w m + min w (((m : Int) + 1) * u) := rfl
theorem usum_eq {b u w : Int} (hb : 2 ≤ b) (hw : 0 ≤ w) : ∀ c : Nat, usum b u w c = ((c : Int) / b) * dsum u w (b - 1).toNat + dsum u w ((c : Int) % b).toNat
  | 0 => by
    rw [show ((0 : Nat) : Int) = 0 from rfl, Int.zero_ediv, Int.zero_emod]
    simp [usum, dsum, sumN]
  | c + 1 => by
    have ih := usum_eq (u := u) hb hw c
    have hus : usum b u w (c + 1) = usum b u w c + min w ((((c : Int) + 1) % b) * u) := rfl
    rw [hus, ih]
    have e0 := Int.mul_ediv_add_emod (c : Int) b
    have e1 := Int.emod_nonneg (c : Int) (show b ≠ 0 by omega)
    have e2 := Int.emod_lt_of_pos (c : Int) (show 0 < b by omega)
    have ec : ((c + 1 : Nat) : Int) = c + 1 := by omega
    rw [ec]
    by_cases h : (c : Int) % b = b - 1
    · have hq : ((c : Int) + 1) / b = (c : Int) / b + 1 := div_is (by omega) (by rw [Int.add_mul, Int.mul_comm]; omega) (by rw [Int.add_mul, Int.mul_comm]; omega)
      have hr : ((c : Int) + 1) % b = 0 := by
        have := Int.mul_ediv_add_emod ((c : Int) + 1) b
        rw [hq, Int.mul_add] at this
        omega
      rw [hq, hr, h, Int.add_mul]
      have : min w (0 * u) = 0 := by rw [Int.zero_mul]; omega
      rw [this, show (0 : Int).toNat = 0 from rfl]
      have : dsum u w 0 = 0 := rfl
      rw [this]
      omega
    · have hq : ((c : Int) + 1) / b = (c : Int) / b := div_is (by omega) (by rw [Int.mul_comm]; omega) (by rw [Int.mul_comm]; omega)
      have hr : ((c : Int) + 1) % b = (c : Int) % b + 1 := by
        have := Int.mul_ediv_add_emod ((c : Int) + 1) b
        rw [hq] at this
        omega
      rw [hq, hr, show ((c : Int) % b + 1).toNat = ((c : Int) % b).toNat + 1 by omega, dsum_succ, show ((((c : Int) % b).toNat : Nat) : Int) = (c : Int) % b by omega]
      omega
/-- what the place of a unit tells of a number -/
def cF (b u w n : Int) : Int := if u ∣ n then min w ((n / u % b) * u) else 0
theorem usum_step {b u w n : Int} (hb : 2 ≤ b) (hu : 1 ≤ u) (hn : 0 ≤ n) : usum b u w ((n + 1) / u).toNat = usum b u w (n / u).toNat + cF b u w (n + 1) := by
  have e0 := Int.mul_ediv_add_emod n u
  have e1 := Int.emod_nonneg n (show u ≠ 0 by omega)
  have e2 := Int.emod_lt_of_pos n (show 0 < u by omega)
  have hq0 : 0 ≤ n / u := Int.ediv_nonneg hn (by omega)
  unfold cF
  by_cases h : u ∣ n + 1
  · rw [if_pos h]
    have h1 : n % u = u - 1 := by
      have h2 := Int.emod_eq_zero_of_dvd h
      rcases Int.lt_or_le (n % u) (u - 1) with q | q
      · have h3 : (n + 1) % u = n % u + 1 := by
          have := (Int.ediv_emod_unique (a := n + 1) (b := u) (r := n % u + 1) (q := n / u) (by omega)).mpr ⟨by omega, by omega, by omega⟩
          exact this.2
        omega
      · omega
    have hq : (n + 1) / u = n / u + 1 := div_is (by omega) (by rw [Int.add_mul, Int.mul_comm]; omega) (by rw [Int.add_mul, Int.mul_comm]; omega)
    rw [hq, show (n / u + 1).toNat = (n / u).toNat + 1 by omega]
    show usum b u w (n / u).toNat + min w (((((n / u).toNat : Nat) : Int) + 1) % b * u) = _
    rw [show (((n / u).toNat : Nat) : Int) = n / u by omega]
  · rw [if_neg h]
    have h1 : n % u < u - 1 := by
      rcases Int.lt_or_le (n % u) (u - 1) with q | q
      · exact q
      · exact absurd ⟨n / u + 1, by rw [Int.mul_add]; omega⟩ h
    have hq : (n + 1) / u = n / u := div_is (by omega) (by rw [Int.mul_comm]; omega) (by rw [Int.mul_comm]; omega)
    rw [hq]
    omega
theorem usum_sum {b u w lo : Int} (hb : 2 ≤ b) (hu : 1 ≤ u) (hl : 0 ≤ lo) : ∀ n : Nat, sumN (fun i => cF b u w (lo + 1 + i)) n = usum b u w ((lo + n) / u).toNat - usum b u w (lo / u).toNat
  | 0 => by
    rw [sumN, show ((0 : Nat) : Int) = 0 from rfl, Int.add_zero]
    omega
  | n + 1 => by
    rw [sumN, usum_sum hb hu hl n, show lo + ((n + 1 : Nat) : Int) = lo + n + 1 by omega, usum_step hb hu (by omega), show lo + 1 + (n : Int) = lo + n + 1 by omega]
    omega
theorem cF_unit {b w n : Int} (hb : 2 ≤ b) (hn : 1 ≤ n) : cF b (unitF b n) w n = sizeF b n w := by
  unfold cF sizeF
  rw [if_pos unitF_dvd, if_neg (by omega)]
  congr 1
  have hu := unitF_pos (n := n) hb
  obtain ⟨k, hk⟩ := unitF_dvd (b := b) (n := n)
  unfold parF
  have e1 : n / unitF b n = k := div_is (by omega) (by rw [Int.mul_comm, ← hk]; exact Int.le_refl _) (by rw [Int.mul_comm, ← hk]; omega)
  have e2 : n / (unitF b n * b) = k / b := by
    rw [← Int.ediv_ediv_of_nonneg (by omega), e1]
  rw [e1, e2]
  have e3 := Int.mul_ediv_add_emod k b
  generalize unitF b n = u at *
  rw [hk]
  grind
theorem cF_other {b u w n : Int} (hb : 2 ≤ b) (hn : 1 ≤ n) (hw : 0 ≤ w) (hp : IsPow b u) (h : u ≠ unitF b n) : cF b u w n = 0 := by
  unfold cF
  by_cases hd : u ∣ n
  · rw [if_pos hd]
    have hle := (dvd_iff hb hn hp).mp hd
    have hu := hp.pos hb
    have h2 := hp.next hb (unitF_pow (b := b) (n := n)) (by omega)
    have h3 : u * b ∣ n := (dvd_iff hb hn hp.mul).mpr h2
    obtain ⟨k, hk⟩ := h3
    have e : n / u % b = 0 := by
      rw [hk, Int.mul_assoc, Int.mul_ediv_cancel_left _ (by omega)]
      exact Int.mul_emod_right b k
    rw [e, Int.zero_mul]
    omega
  · rw [if_neg hd]
theorem unit_exp {b n : Int} {k : Nat} (hb : 2 ≤ b) (hn : 1 ≤ n) (h : n < b ^ (k + 1)) : ∃ m, m < k + 1 ∧ unitF b n = b ^ m := by
  obtain ⟨m, hm⟩ := unitF_pow (b := b) (n := n)
  refine ⟨m, ?_, hm⟩
  have := unitF_le (b := b) hn
  exact pow_lt_iff hb (by omega)
/-- with a condition on the unit -/
theorem cF_sumP {b w n : Int} {k : Nat} (p : Int → Bool) (hb : 2 ≤ b) (hn : 1 ≤ n) (hw : 0 ≤ w) (h : n < b ^ (k + 1)) : sumN (fun j => if p (b ^ j) then cF b (b ^ j) w n else 0) (k + 1) = if p (unitF b n) then sizeF b n w else 0 := by
  obtain ⟨m, hm, e⟩ := unit_exp hb hn h
  rw [sumN_one hm fun i hi hne => ?_]
  · rw [← e, cF_unit hb hn]
  · rw [cF_other hb hn hw ⟨i, rfl⟩ (fun q => hne (pow_inj hb (by rw [q, e])))]
    split <;> rfl
theorem cF_sum {b w n : Int} {k : Nat} (hb : 2 ≤ b) (hn : 1 ≤ n) (hw : 0 ≤ w) (h : n < b ^ (k + 1)) : sumN (fun j => cF b (b ^ j) w n) (k + 1) = sizeF b n w := cF_sumP (fun _ => true) hb hn hw h
/-- a level's share of a range -/
def levF (b u w first last : Int) : Int := if last < max first 1 then 0 else usum b u w (last / u).toNat - usum b u w ((max first 1 - 1) / u).toNat
theorem levF_sum {b u w first last : Int} (hb : 2 ≤ b) (hu : 1 ≤ u) : levF b u w first last = sumN (fun i => cF b u w (max first 1 + i)) (last - max first 1 + 1).toNat := by
  unfold levF
  split
  · rw [show (last - max first 1 + 1).toNat = 0 by omega]
    rfl
  · have := usum_sum (w := w) hb hu (lo := max first 1 - 1) (by omega) (last - max first 1 + 1).toNat
    rw [show max first 1 - 1 + (((last - max first 1 + 1).toNat : Nat) : Int) = last by omega] at this
    rw [← this]
    exact sumN_congr fun i _ => by rw [show max first 1 - 1 + 1 + (i : Int) = max first 1 + i by omega]
/-- the sizes of a range -/
def rangeF (b w first after : Int) : Int := sumN (fun i => sizeF b (first + i) w) (after - first).toNat
theorem range_levels {b w first after : Int} {k : Nat} (hb : 2 ≤ b) (hw : 0 ≤ w) (h0 : 0 ≤ first) (h1 : first ≤ after) (hk : after < b ^ (k + 1)) :
    (if first = 0 ∧ 0 < after then w else 0) + sumN (fun j => levF b (b ^ j) w first (after - 1)) (k + 1) = rangeF b w first after := by
  rw [sumN_congr (h := fun j => sumN (fun i => cF b (b ^ j) w (max first 1 + i)) (after - 1 - max first 1 + 1).toNat) fun j _ => levF_sum hb (pow_pos hb j), ← sumN_swap]
  rw [sumN_congr (h := fun i => sizeF b (max first 1 + i) w) fun i hi => cF_sum hb (by omega) hw (by omega)]
  unfold rangeF
  by_cases h : first = 0
  · subst h
    by_cases h2 : after = 0
    · subst h2
      rw [if_neg (by omega), show ((0 : Int) - 1 - max 0 1 + 1).toNat = 0 by omega, show ((0 : Int) - 0).toNat = 0 by omega]
      rfl
    · rw [if_pos (by omega), show (after - 0).toNat = 1 + (after - 1).toNat by omega, sumN_plus, show max (0 : Int) 1 = 1 from rfl, show (after - 1 - 1 + 1).toNat = (after - 1).toNat by omega]
      have e : sumN (fun i => sizeF b (0 + (i : Int)) w) 1 = w := by
        simp [sumN, sizeF]
      rw [e]
      congr 1
      exact sumN_congr fun i _ => by rw [show (0 : Int) + ((1 + i : Nat) : Int) = 1 + i by omega]
  · rw [if_neg (by omega), show max first 1 = first by omega, show (after - 1 - first + 1).toNat = (after - first).toNat by omega]
    omega
theorem range_add {b w x y z : Int} (h1 : x ≤ y) (h2 : y ≤ z) : rangeF b w x y + rangeF b w y z = rangeF b w x z := by
  unfold rangeF
  rw [show (z - x).toNat = (y - x).toNat + (z - y).toNat by omega, sumN_plus]
  congr 1
  exact sumN_congr fun i _ => by rw [show x + (((y - x).toNat + i : Nat) : Int) = y + i by omega]
/-- the sizes of what is kept -/
def spaceF (b f w t : Int) : Int := w + sumN (fun i => if keptB b f (1 + i) t then sizeF b (1 + i) w else 0) t.toNat
theorem space_levels {b f w t : Int} {k : Nat} (hb : 2 ≤ b) (hf : 1 ≤ f) (hw : 0 ≤ w) (ht : 0 ≤ t) (hk : t < b ^ (k + 1)) : w + sumN (fun j => levF b (b ^ j) w (t - f * b ^ j) t) (k + 1) = spaceF b f w t := by
  unfold spaceF
  congr 1
  have key : ∀ j : Nat, levF b (b ^ j) w (t - f * b ^ j) t = sumN (fun i => if decide (t ≤ (1 + i) + f * b ^ j) then cF b (b ^ j) w (1 + i) else 0) t.toNat := fun j => by
    have hp := pow_pos hb j
    have hfp : 1 * b ^ j ≤ f * b ^ j := Int.mul_le_mul_of_nonneg_right hf (by omega)
    rw [levF_sum hb hp]
    by_cases h : t = 0
    · subst h
      rw [show (0 - max (0 - f * b ^ j) 1 + 1).toNat = 0 by omega]
      rfl
    · have hm : max (t - f * b ^ j) 1 ≤ t := by omega
      rw [show t.toNat = (max (t - f * b ^ j) 1 - 1).toNat + (t - max (t - f * b ^ j) 1 + 1).toNat by omega, sumN_plus, sumN_zero (n := (max (t - f * b ^ j) 1 - 1).toNat), Int.zero_add]
      · refine sumN_congr fun i hi => ?_
        rw [if_pos (by rw [decide_eq_true_eq]; omega), show 1 + (((max (t - f * b ^ j) 1 - 1).toNat + i : Nat) : Int) = max (t - f * b ^ j) 1 + i by omega]
      · intro i hi
        rw [if_neg (by rw [decide_eq_true_eq]; omega)]
  rw [sumN_congr fun j _ => key j, ← sumN_swap]
  refine sumN_congr fun i hi => ?_
  rw [cF_sumP (fun u => decide (t ≤ (1 + i) + f * u)) hb (by omega) hw (by omega), keptB_pos (by omega) (by omega)]
end Ma
namespace Ma
theorem dsum_bd {u w : Int} (hu : 1 ≤ u) (hw : 0 ≤ w) : ∀ m : Nat, 0 ≤ dsum u w m ∧ dsum u w m ≤ m * w
  | 0 => by simp [dsum, sumN]
  | m + 1 => by
    have ih := dsum_bd hu hw m
    have hp : 0 ≤ ((m : Int) + 1) * u := Int.mul_nonneg (by omega) (by omega)
    have e : ((m + 1 : Nat) : Int) * w = m * w + w := by rw [show ((m + 1 : Nat) : Int) = m + 1 by omega, Int.add_mul, Int.one_mul]
    rw [dsum_succ, e]
    generalize ((m : Int) + 1) * u = z at *
    omega
theorem dsum_big {u w m : Int} (hu : 1 ≤ u) (hw : 0 ≤ w) (hm : 0 ≤ m) (hm2 : m ≤ 1000) : 0 ≤ dsum u w m.toNat ∧ dsum u w m.toNat ≤ 1000 * w := by
  have h := dsum_bd hu hw m.toNat
  have : ((m.toNat : Nat) : Int) * w ≤ 1000 * w := Int.mul_le_mul_of_nonneg_right (by omega) hw
  omega
theorem up_to_eq {b u w last : Int} (hb : 2 ≤ b) (hw : 0 ≤ w) (hu : 1 ≤ u) (hl : 0 ≤ last) : last / u / b * dsum u w (b - 1).toNat + dsum u w (last / u % b).toNat = usum b u w (last / u).toNat := by
  have h := usum_eq (u := u) hb hw (last / u).toNat
  have hq : 0 ≤ last / u := Int.ediv_nonneg hl (by omega)
  rw [show (((last / u).toNat : Nat) : Int) = last / u by omega] at h
  exact h.symm
theorem levF_zero {b u w first last : Int} (h : last < max first 1) : levF b u w first last = 0 := if_pos h
theorem levF_some {b u w first last : Int} (h : ¬ last < max first 1) : levF b u w first last = usum b u w (last / u).toNat - usum b u w ((max first 1 - 1) / u).toNat := if_neg h
end Ma
namespace Ma
/-! ### for law k50 -/
theorem k50_sum {b w x y : Int} {n : Nat} (h : n = (y - x).toNat) : ((Kr.rngI x n).map (fun m => sizeF b m w)).sum = rangeF b w x y := by
  rw [sum_rng, h]
  rfl
/-- the sizes of the digits from 1 to b - 1 -/
theorem k50_digits {b u w : Int} {n : Nat} (h : n = (b - 1).toNat) : ((Kr.rngI 1 n).map (fun d => min w (d * u))).sum = dsum u w (b - 1).toNat := by
  rw [sum_rng, h]
  unfold dsum
  exact sumN_congr fun i _ => by rw [Int.add_comm]
def blockF (b w : Int) (D : Nat) (i : Nat) : Int := sumN (fun j => dsum (b ^ j) w (b - 1).toNat * b ^ (D - 1 - j)) i
theorem lev_block {b w : Int} {D j : Nat} (hb : 2 ≤ b) (hw : 0 ≤ w) (hj : j < D) : levF b (b ^ j) w 0 (b ^ D - 1) = dsum (b ^ j) w (b - 1).toNat * b ^ (D - 1 - j) := by
  have hp := pow_pos hb j
  have hpD := pow_lt hb hj
  have e1 : b ^ D = b ^ (D - 1 - j) * b * b ^ j := by
    rw [← Int.pow_succ, ← Int.pow_add]
    congr 1
    omega
  have hr := pow_pos hb (D - 1 - j)
  rw [levF_some (by omega), show max (0 : Int) 1 - 1 = 0 from rfl, Int.zero_ediv]
  have hu0 : usum b (b ^ j) w (0 : Int).toNat = 0 := rfl
  have e2 : (b ^ D - 1) / b ^ j = b ^ (D - 1 - j) * b - 1 := div_is (by omega) (by rw [Int.sub_mul, ← e1]; omega) (by rw [Int.sub_mul, ← e1]; omega)
  have hrb : b ^ (D - 1 - j) * 2 ≤ b ^ (D - 1 - j) * b := Int.mul_le_mul_of_nonneg_left hb (by omega)
  rw [hu0, e2, usum_eq hb hw]
  generalize hR : b ^ (D - 1 - j) = R at *
  rw [show (((R * b - 1).toNat : Nat) : Int) = R * b - 1 by omega]
  have e3 : (R * b - 1) / b = R - 1 := div_is (by omega) (by rw [Int.sub_mul]; omega) (by rw [Int.sub_mul]; omega)
  have e4 : (R * b - 1) % b = b - 1 := by
    have := Int.mul_ediv_add_emod (R * b - 1) b
    rw [e3, Int.mul_sub, Int.mul_comm b R] at this
    omega
  rw [e3, e4]
  grind
theorem k50_block {b w : Int} {D : Nat} (hb : 2 ≤ b) (hw : 0 ≤ w) : rangeF b w 0 (b ^ D) = w + blockF b w D D := by
  have hp := pow_pos hb D
  rw [← range_levels (k := D) hb hw (by omega) (by omega) (pow_lt hb (by omega)), if_pos (by omega), sumN]
  unfold blockF
  rw [sumN_congr fun j hj => lev_block hb hw hj]
  have e : levF b (b ^ D) w 0 (b ^ D - 1) = 0 := by
    rw [levF_sum hb hp, sumN_zero fun i hi => ?_]
    unfold cF
    rw [if_neg]
    intro hd
    have := Int.le_of_dvd (by omega) hd
    omega
  omega
theorem range_none {b w x : Int} : rangeF b w x x = 0 := by
  unfold rangeF
  rw [Int.sub_self]
  rfl
end Ma
namespace Ma
theorem k50_turn {b w d z t : Int} {i n : Nat} (hz : z = 0 + (i : Int)) (hd : i < d.toNat) (hn : n = (b - 1).toNat) (h : t = blockF b w d.toNat i) : t + ((Kr.rngI 1 n).map (fun x => min w (x * b ^ z.toNat))).sum * b ^ (d - 1 - z).toNat = blockF b w d.toNat (i + 1) := by
  rw [k50_digits hn, h, show z.toNat = i by omega, show (d - 1 - z).toNat = d.toNat - 1 - i by omega]
  rfl
end Ma
namespace Ma
/-! ### the space by the size of a full one -/
theorem sizeF_mono {b n w v : Int} (h : w ≤ v) : sizeF b n w ≤ sizeF b n v := by
  unfold sizeF
  split <;> omega
theorem sizeF_bd {b n w : Int} (hb : 2 ≤ b) (hn : 0 ≤ n) (hw : 0 ≤ w) : 0 ≤ sizeF b n w ∧ sizeF b n w ≤ w := by
  unfold sizeF
  split
  · omega
  · have := parF_lt (b := b) (n := n) hb (by omega)
    omega
theorem space_mono {b f w v t : Int} (h : w ≤ v) : spaceF b f w t ≤ spaceF b f v t := by
  unfold spaceF
  have := sumN_le (n := t.toNat) (f := fun i => if keptB b f (1 + i) t then sizeF b (1 + i) w else 0) (h := fun i => if keptB b f (1 + i) t then sizeF b (1 + i) v else 0) fun i _ => by
    split
    · exact sizeF_mono h
    · omega
  omega
theorem sumN_bd {f : Nat → Int} {w : Int} : ∀ {n : Nat}, (∀ i, i < n → 0 ≤ f i ∧ f i ≤ w) → 0 ≤ sumN f n ∧ sumN f n ≤ n * w
  | 0, _ => by simp [sumN]
  | n + 1, h => by
    have ih := sumN_bd (n := n) fun i hi => h i (by omega)
    have := h n (by omega)
    have e : ((n + 1 : Nat) : Int) * w = n * w + w := by rw [show ((n + 1 : Nat) : Int) = n + 1 by omega, Int.add_mul, Int.one_mul]
    rw [sumN, e]
    omega
theorem space_bd {b f w t : Int} (hb : 2 ≤ b) (hw : 0 ≤ w) (ht : 0 ≤ t) : w ≤ spaceF b f w t ∧ spaceF b f w t ≤ w + t * w := by
  unfold spaceF
  have := sumN_bd (w := w) (n := t.toNat) (f := fun i => if keptB b f (1 + i) t then sizeF b (1 + i) w else 0) fun i _ => by
    have := sizeF_bd (b := b) (n := 1 + i) (w := w) hb (by omega) hw
    split
    · exact this
    · omega
  rw [show ((t.toNat : Nat) : Int) = t by omega] at this
  omega
theorem space_zero {b f w : Int} : spaceF b f w 0 = w := by
  unfold spaceF
  rw [show (0 : Int).toNat = 0 from rfl, sumN]
  omega
end Ma
namespace Ma
theorem full_uniq {b f t m n k : Int} (h1 : spaceF b f n t ≤ m) (h2 : m < spaceF b f (n + 1) t) (h3 : spaceF b f k t ≤ m) (h4 : m < spaceF b f (k + 1) t) : n = k := by
  rcases Int.lt_trichotomy n k with h | h | h
  · have := space_mono (b := b) (f := f) (t := t) (show n + 1 ≤ k by omega)
    omega
  · exact h
  · have := space_mono (b := b) (f := f) (t := t) (show k + 1 ≤ n by omega)
    omega
end Ma

namespace Ma
/-! ### losses -/
def lossF (b f t age : Int) : Int := t - age - newF b f (t - age) t
theorem fmul {f u : Int} : f * u = (f - 1) * u + u := by
  have h : (f - 1 + 1) * u = (f - 1) * u + 1 * u := Int.add_mul _ _ _
  rw [Int.sub_add_cancel, Int.one_mul] at h
  exact h
theorem loss_le {b f t age v : Int} (hb : 2 ≤ b) (hf : 1 ≤ f) (hv : IsPow b v) (ha : age ≤ (f - 1) * v + 1) (h0 : 0 ≤ age) (ht : age ≤ t) : lossF b f t age ≤ v - 1 := by
  unfold lossF
  obtain ⟨j, rfl⟩ := hv
  have hu := pow_pos hb j
  have h1 := down_le (s := t - age) hu
  have h2 := down_nonneg (s := t - age) (by omega) hu
  have hn := newF_is (b := b) (f := f) (s := t - age) (t := t) (by omega) (by omega)
  have e := fmul (f := f) (u := b ^ j)
  have hk := down_kept (b := b) (f := f) (s := t - age) (t := t) (j := j) hb hf (by omega) (by omega) (by omega)
  rcases Int.lt_or_le (newF b f (t - age) t) (downF (t - age) (b ^ j)) with q | q
  · exact absurd hk (hn.2.2.2 _ q h1.1)
  · omega
theorem loss_nonneg {b f t age : Int} (h0 : 0 ≤ age) (ht : age ≤ t) : 0 ≤ lossF b f t age := by
  have hn := newF_is (b := b) (f := f) (s := t - age) (t := t) (by omega) (by omega)
  unfold lossF
  have := hn.2.1
  omega
theorem loss_at {b f age v : Int} (hb : 2 ≤ b) (hf : 1 ≤ f) (hv : IsPow b v) (h0 : 0 ≤ age) (hm : ∀ u, IsPow b u → u < v → (f - 1) * u + 1 < age) : newF b f (v - 1) (age + v - 1) = 0 := by
  have hv1 := hv.pos hb
  refine (IsNew.eq (by omega) ⟨by omega, by omega, keptB_zero (by omega), fun n q1 q2 q3 => ?_⟩).symm
  have hu := unitF_pos (b := b) (n := n) hb
  have hle := unitF_le (b := b) (n := n) (by omega)
  have hd := unitF_dvd (b := b) (n := n)
  have hp := unitF_pow (b := b) (n := n)
  have hvd := pow_dvd hb hp hv (by omega)
  have h1 := Int.le_of_dvd (show 0 < v - n by omega) (Int.dvd_sub hvd hd)
  have h2 := hm _ hp (by omega)
  have e := fmul (f := f) (u := unitF b n)
  rw [keptB_pos (by omega) (by omega)] at q3
  have q3 := of_decide_eq_true q3
  omega
theorem loss_at' {b f age v : Int} (hb : 2 ≤ b) (hf : 1 ≤ f) (hv : IsPow b v) (h0 : 0 ≤ age) (hm : ∀ u, IsPow b u → u < v → (f - 1) * u + 1 < age) : lossF b f (age + v - 1) age = v - 1 := by
  unfold lossF
  have e : age + v - 1 - age = v - 1 := by omega
  rw [e, loss_at hb hf hv h0 hm]
  omega
theorem IsSafe.below {b f age v : Int} (h : IsSafe b f age v) : ∀ u, IsPow b u → u < v → (f - 1) * u + 1 < age := fun u hu hlt => by
  rcases Int.lt_or_le ((f - 1) * u + 1) age with q | q
  · exact q
  · have := h.2.2 u hu q
    omega
/-- the greatest of the losses at the times up to 100 -/
theorem k19_pow {b : Int} (h1 : 2 ≤ b) (h2 : b ≤ 4) : ∃ v, IsPow b v ∧ 61 ≤ v ∧ v ≤ 81 := by
  have h : b = 2 ∨ b = 3 ∨ b = 4 := by omega
  rcases h with rfl | rfl | rfl
  · exact ⟨64, ⟨6, by decide⟩, by decide, by decide⟩
  · exact ⟨81, ⟨4, by decide⟩, by decide, by decide⟩
  · exact ⟨64, ⟨3, by decide⟩, by decide, by decide⟩
theorem k19_due {b f y v m : Int} {n : Nat} (h1 : 2 ≤ b) (h2 : b ≤ 4) (hf : 1 ≤ f) (h0 : 0 ≤ y) (hy : y ≤ 12) (hn : y + n = 101) (hs : IsSafe b f y (v + 1))
    (hm : m ∈ (Kr.rngI y n).map (fun t => lossF b f t y)) (hM : ∀ k ∈ (Kr.rngI y n).map (fun t => lossF b f t y), k ≤ m) : v = m := by
  obtain ⟨t, ht, rfl⟩ := List.mem_map.mp hm
  have ht := mem_rng.mp ht
  have hu := loss_le (t := t) h1 hf hs.1 hs.2.1 h0 ht.1
  have hv : v + 1 ≤ 81 := by
    rcases Int.lt_or_le 1 f with q | q
    · obtain ⟨u, hp, q1, q2⟩ := k19_pow h1 h2
      have h3 : 1 * u ≤ (f - 1) * u := Int.mul_le_mul_of_nonneg_right (by omega) (by omega)
      have := hs.2.2 u hp (by omega)
      omega
    · obtain rfl : f = 1 := by omega
      have h3 := hs.2.1
      simp at h3
      have := hs.2.2 1 (IsPow.one b) (by simp; omega)
      omega
  have hv0 := hs.1.pos h1
  have ha := loss_at' h1 hf hs.1 h0 hs.below
  have := hM _ (List.mem_map.mpr ⟨y + (v + 1) - 1, mem_rng.mpr ⟨by omega, by omega⟩, rfl⟩)
  rw [ha] at this
  omega
theorem k19_inf {b y m : Int} {n : Nat} (h1 : 2 ≤ b) (h2 : b ≤ 4) (h0 : 2 ≤ y) (hy : y ≤ 12) (hn : y + n = 101)
    (hM : ∀ k ∈ (Kr.rngI y n).map (fun t => lossF b 1 t y), k ≤ m) : 60 ≤ m := by
  obtain ⟨v, hp, q1, q2⟩ := k19_pow h1 h2
  have ha := loss_at' (b := b) (f := 1) (age := y) h1 (by decide) hp (by omega) (fun u hu hl => by simp; omega)
  have := hM _ (List.mem_map.mpr ⟨y + v - 1, mem_rng.mpr ⟨by omega, by omega⟩, rfl⟩)
  rw [ha] at this
  omega
end Ma

namespace Ma
/-! ### for law k20 -/
theorem top_ex {b : Int} (hb : 2 ≤ b) : ∀ (k : Nat) (x : Int), 1 ≤ x → x.toNat ≤ k → ∃ u, IsTop b x u
  | 0, x, h1, h2 => by omega
  | k + 1, x, h1, h2 => by
    rcases Int.lt_or_le x b with h | h
    · exact ⟨1, IsPow.one b, h1, by omega⟩
    · have e := Int.mul_ediv_add_emod x b
      have m1 := Int.emod_nonneg x (show b ≠ 0 by omega)
      have m2 := Int.emod_lt_of_pos x (show 0 < b by omega)
      have q1 : 1 ≤ x / b := (Int.le_ediv_iff_mul_le (by omega)).mpr (by omega)
      have q2 : 2 * (x / b) ≤ b * (x / b) := Int.mul_le_mul_of_nonneg_right hb (by omega)
      obtain ⟨u, hp, h3, h4⟩ := top_ex hb k (x / b) q1 (by omega)
      refine ⟨u * b, hp.mul, ?_, ?_⟩
      · have := Int.mul_le_mul_of_nonneg_right h3 (show 0 ≤ b by omega)
        rw [Int.mul_comm (x / b) b] at this
        omega
      · have := Int.mul_le_mul_of_nonneg_right (show x / b + 1 ≤ u * b by omega) (show 0 ≤ b by omega)
        rw [Int.add_mul, Int.mul_comm (x / b) b] at this
        omega
theorem safe_small {b f y v : Int} (hb : 2 ≤ b) (hb2 : b ≤ 1000) (hf : 1 ≤ f) (hy : 0 ≤ y) (h : IsSafe b f y v) : v ≤ 1000 * y + 1000 := by
  rcases Int.lt_or_le 1 y with h1 | h1
  · rcases Int.lt_or_le 1 f with q | q
    · obtain ⟨u, hp, h3, h4⟩ := top_ex hb _ y (by omega) (Nat.le_refl _)
      have hu := hp.pos hb
      have a1 : 1 * (u * b) ≤ (f - 1) * (u * b) := Int.mul_le_mul_of_nonneg_right (by omega) (Int.mul_nonneg (by omega) (by omega))
      have a2 := h.2.2 _ hp.mul (by omega)
      have a3 : u * b ≤ u * 1000 := Int.mul_le_mul_of_nonneg_left hb2 (by omega)
      omega
    · obtain rfl : f = 1 := by omega
      have := h.2.1
      simp at this
      omega
  · have a1 : 0 * 1 ≤ (f - 1) * 1 := Int.mul_le_mul_of_nonneg_right (by omega) (by decide)
    have := h.2.2 1 (IsPow.one b) (by omega)
    omega
/-- the first powers -/
def powJ (b : Int) (k : Nat) : List Int := (List.range k).map fun i => b ^ i
theorem powJ_succ (b : Int) (k : Nat) : (powJ b (k + 1)).map (α := Int) (β := Int) id = powJ b k ++ [b ^ k] := by
  unfold powJ
  rw [List.range_succ]
  simp
theorem powJ_next (b : Int) (k : Nat) : powJ b (k + 1) = powJ b k ++ [b ^ k] := by
  have := powJ_succ b k
  simpa using this
theorem powJ_len (b : Int) (k : Nat) : (powJ b k).length = k := by
  unfold powJ
  simp
theorem powJ_get {b : Int} {k i : Nat} (h : i < k) : (powJ b k)[i]? = some (b ^ i) := by
  unfold powJ
  rw [List.getElem?_map, List.getElem?_range h]
  rfl
theorem mem_powJ {b x : Int} {k : Nat} : x ∈ powJ b k ↔ ∃ i, i < k ∧ x = b ^ i := by
  unfold powJ
  rw [List.mem_map]
  constructor
  · rintro ⟨i, hi, rfl⟩
    exact ⟨i, List.mem_range.mp hi, rfl⟩
  · rintro ⟨i, hi, rfl⟩
    exact ⟨i, List.mem_range.mpr hi, rfl⟩
/-- the powers up to a number -/
def IsPows (b m : Int) (k : Nat) : Prop := 1 ≤ k ∧ (k = 1 ∨ b ^ (k - 1) ≤ m) ∧ m < b ^ k ∧ k ≤ 210
theorem IsPows.done {b m : Int} {k : Nat} (hb : 2 ≤ b) (hm : m ≤ 10 ^ 60) (h1 : k = 0 ∨ b ^ (k - 1) ≤ max 1 m) (h2 : ¬ b ^ k ≤ max 1 m) : IsPows b m k := by
  have hk : 1 ≤ k := by
    rcases Nat.eq_zero_or_pos k with h | h
    · subst h
      simp at h2
      omega
    · exact h
  obtain ⟨j, rfl⟩ : ∃ j, k = j + 1 := ⟨k - 1, by omega⟩
  simp only [Nat.add_sub_cancel] at h1 ⊢
  have h1 : b ^ j ≤ max 1 m := h1.resolve_left (by omega)
  refine ⟨hk, ?_, by omega, ?_⟩
  · rcases Nat.eq_zero_or_pos j with h | h
    · subst h
      exact .inl rfl
    · have := pow_lt hb h
      rw [Int.pow_zero] at this
      exact .inr (by simp only [Nat.add_sub_cancel]; omega)
  · have := pow_small hb (k := j) (by omega)
    omega
theorem IsPows.mem {b m u : Int} {k : Nat} (hb : 2 ≤ b) (h : IsPows b m k) (hu : IsPow b u) (hm : u ≤ m) : u ∈ powJ b k := by
  obtain ⟨i, rfl⟩ := hu
  obtain ⟨_, _, h3, _⟩ := h
  exact mem_powJ.mpr ⟨i, pow_lt_iff hb (by omega), rfl⟩
theorem safe_div {b f y v : Int} (hb : 2 ≤ b) (h : IsSafe b f y v) : 1 < v → (f - 1) * (v / b) + 1 < y := fun h1 => by
  obtain ⟨j, hj⟩ := h.1
  cases j with
  | zero =>
    rw [Int.pow_zero] at hj
    omega
  | succ j =>
    have e : v / b = b ^ j := by
      rw [hj, Int.pow_succ, Int.mul_ediv_cancel _ (by omega)]
    rw [e]
    refine h.below _ ⟨j, rfl⟩ ?_
    rw [hj]
    exact pow_lt hb (Nat.lt_succ_self j)
theorem div_small2 {b v : Int} (hb : 2 ≤ b) (h : 0 ≤ v) : 0 ≤ v / b ∧ v / b ≤ v := ⟨Int.ediv_nonneg h (by omega), Int.ediv_le_self _ h⟩
theorem k20_a {b f y g : Int} (hb : 2 ≤ b) (hf : 1 ≤ f) (hy : 0 ≤ y) (h : IsSafe b f y (g + 1)) : y + g - y - newF b f (y + g - y) (y + g) = g := by
  have h1 := loss_at' hb hf h.1 hy h.below
  unfold lossF at h1
  have e : y + (g + 1) - 1 = y + g := by omega
  rw [e] at h1
  omega
theorem k20_m {y g w t : Int} {ys : List Int} (h0 : 0 ≤ g) (hy : 0 ≤ y ∧ y ≤ 10 ^ 40) (hg : g + 1 ≤ 1000 * y + 1000) (hw : 0 ≤ w ∧ w < 99) (hys : ∀ y' ∈ ys, y ≤ y' ∧ y' ≤ 10 ^ 50) (ht : t ∈ ys ++ [y + (g + 1) * (1 + w) - 1]) : y ≤ t ∧ t ≤ 10 ^ 55 := by
  rcases List.mem_append.mp ht with h | h
  · have := hys t h
    omega
  · have h : t = y + (g + 1) * (1 + w) - 1 := by simpa using h
    have h1 := Int.mul_le_mul_of_nonneg_left (show 1 ≤ 1 + w by omega) (show 0 ≤ g + 1 by omega)
    have h2 := Int.mul_le_mul_of_nonneg_left (show 1 + w ≤ 99 by omega) (show 0 ≤ g + 1 by omega)
    omega
theorem k20_e {b f y g : Int} {ys : List Int} (hb : 2 ≤ b) (hf : 1 ≤ f) (hy : 0 ≤ y) (h : IsSafe b f y (g + 1)) (hys : ∀ t ∈ ys, y ≤ t) : ys.filter (fun t => decide (g < t - y - newF b f (t - y) t)) = [] := by
  rw [List.filter_eq_nil_iff]
  intro t ht
  have h1 := loss_le (t := t) hb hf h.1 h.2.1 hy (hys t ht)
  unfold lossF at h1
  simp
  omega
theorem k20_b {b y p : Int} (hb : 2 ≤ b) (hy : 1 < y) (h : IsPow b p) : y + p - 1 - y - newF b 1 (y + p - 1 - y) (y + p - 1) = p - 1 := by
  have h1 := loss_at' (b := b) (f := 1) (age := y) (v := p) hb (by decide) h (by omega) (fun u _ _ => by simp; omega)
  exact h1
theorem safe_mono {b f y y' v v' : Int} (h : y ≤ y') (h1 : IsSafe b f y (v + 1)) (h2 : IsSafe b f y' (v' + 1)) : v ≤ v' := by
  have := h1.2.2 _ h2.1 (by have := h2.2.1; omega)
  omega
end Ma

set_option Elab.async false
set_option linter.all false
set_option maxRecDepth 100000
namespace Ma
/-! ### kept numbers counted -/
theorem div_succ {n u : Int} (hu : 1 ≤ u) : (n + 1) / u = n / u + (if u ∣ n + 1 then 1 else 0) := by
  have e0 := Int.mul_ediv_add_emod n u
  have e1 := Int.emod_nonneg n (show u ≠ 0 by omega)
  have e2 := Int.emod_lt_of_pos n (show 0 < u by omega)
  by_cases h : u ∣ n + 1
  · rw [if_pos h]
    have h1 : n % u = u - 1 := by
      have h2 := Int.emod_eq_zero_of_dvd h
      rcases Int.lt_or_le (n % u) (u - 1) with q | q
      · have := (Int.ediv_emod_unique (a := n + 1) (b := u) (r := n % u + 1) (q := n / u) (by omega)).mpr ⟨by omega, by omega, by omega⟩
        have := this.2
        omega
      · omega
    exact div_is (by omega) (by rw [Int.add_mul, Int.mul_comm]; omega) (by rw [Int.add_mul, Int.mul_comm]; omega)
  · rw [if_neg h]
    have h1 : n % u < u - 1 := by
      rcases Int.lt_or_le (n % u) (u - 1) with q | q
      · exact q
      · exact absurd ⟨n / u + 1, by rw [Int.mul_add]; omega⟩ h
    rw [Int.add_zero]
    exact div_is (by omega) (by rw [Int.mul_comm]; omega) (by rw [Int.mul_comm]; omega)
def eF (b u n : Int) : Int := if unitF b n = u then 1 else 0
theorem eF_dvd {b u n : Int} (hb : 2 ≤ b) (hn : 1 ≤ n) (hp : IsPow b u) : eF b u n = (if u ∣ n then 1 else 0) - (if u * b ∣ n then 1 else 0) := by
  unfold eF
  have hu := hp.pos hb
  by_cases h1 : u ∣ n
  · by_cases h2 : u * b ∣ n
    · rw [if_pos h1, if_pos h2, if_neg]
      · rfl
      · intro e
        have := (dvd_iff hb hn hp.mul).mp h2
        have : u * 2 ≤ u * b := Int.mul_le_mul_of_nonneg_left hb (by omega)
        omega
    · rw [if_pos h1, if_neg h2, if_pos (IsUnit.eq hb hn ⟨hp, h1, h2⟩).symm]
      rfl
  · have h2 : ¬ u * b ∣ n := fun q => h1 (Int.dvd_trans ⟨b, rfl⟩ q)
    rw [if_neg h1, if_neg h2, if_neg]
    · rfl
    · intro e
      exact h1 (e ▸ unitF_dvd)
def levC (b u low high : Int) : Int := if high < low then 0 else high / u - (low - 1) / u - (high / (u * b) - (low - 1) / (u * b))
theorem levC_sum' {b u lo : Int} (hb : 2 ≤ b) (hp : IsPow b u) (hl : 0 ≤ lo) : ∀ n : Nat, sumN (fun i => eF b u (lo + 1 + i)) n = (lo + n) / u - lo / u - ((lo + n) / (u * b) - lo / (u * b))
  | 0 => by
    rw [sumN, show lo + ((0 : Nat) : Int) = lo by omega]
    omega
  | n + 1 => by
    have hu := hp.pos hb
    have hub : 1 ≤ u * b := by
      have : u * 2 ≤ u * b := Int.mul_le_mul_of_nonneg_left hb (by omega)
      omega
    rw [sumN, levC_sum' hb hp hl n, show lo + ((n + 1 : Nat) : Int) = lo + n + 1 by omega, div_succ hu, div_succ hub, show lo + 1 + (n : Int) = lo + n + 1 by omega, eF_dvd hb (by omega) hp]
    omega
theorem levC_sum {b u low high : Int} (hb : 2 ≤ b) (hp : IsPow b u) (hl : 1 ≤ low) : levC b u low high = sumN (fun i => eF b u (low + i)) (high - low + 1).toNat := by
  unfold levC
  split
  · rw [show (high - low + 1).toNat = 0 by omega]
    rfl
  · have := levC_sum' hb hp (lo := low - 1) (by omega) (high - low + 1).toNat
    rw [show low - 1 + (((high - low + 1).toNat : Nat) : Int) = high by omega] at this
    rw [← this]
    exact sumN_congr fun i _ => by rw [show low - 1 + 1 + (i : Int) = low + i by omega]
theorem eF_sumP {b n : Int} {k : Nat} (p : Int → Bool) (hb : 2 ≤ b) (hn : 1 ≤ n) (h : n < b ^ k) : sumN (fun j => if p (b ^ j) then eF b (b ^ j) n else 0) k = if p (unitF b n) then 1 else 0 := by
  cases k with
  | zero => rw [Int.pow_zero] at h; omega
  | succ k =>
    obtain ⟨m, hm, e⟩ := unit_exp hb hn h
    rw [sumN_one hm fun i hi hne => ?_]
    · rw [← e]
      unfold eF
      rw [if_pos rfl]
    · have e2 : eF b (b ^ i) n = 0 := if_neg fun q => hne (pow_inj hb (by rw [← q, e]))
      rw [e2]
      split <;> rfl
/-- how many numbers below a number are kept -/
def cntF (b f t n : Int) : Int := sumN (fun i => if keptB b f i t then 1 else 0) n.toNat
/-- k: how many powers are at most the time -/
def IsUp (b t : Int) (k : Nat) : Prop := (∀ j, j < k → b ^ j ≤ t) ∧ t < b ^ k ∧ k ≤ 210
theorem kept_gt {b f n t : Int} (h : t < n) : keptB b f n t = false := by
  unfold keptB
  rw [decide_eq_false (by omega)]
  rfl
theorem cnt_stop {b f t n : Int} (ht : 0 ≤ t) (h : t < n) : cntF b f t n = cntF b f t (t + 1) := by
  unfold cntF
  rw [show n.toNat = (t + 1).toNat + (n - (t + 1)).toNat by omega, sumN_plus, sumN_zero (n := (n - (t + 1)).toNat)]
  · omega
  · intro i hi
    rw [kept_gt (by omega)]
    rfl
theorem cnt_levels {b f t n : Int} {k : Nat} (hb : 2 ≤ b) (hf : 1 ≤ f) (ht : 0 ≤ t) (hn : 0 ≤ n) (hk : IsUp b t k) :
    (if 0 < n then 1 else 0) + sumN (fun j => levC b (b ^ j) (max 1 (t - f * b ^ j)) (min (n - 1) t)) k = cntF b f t n := by
  have key : ∀ m : Int, 0 ≤ m → m ≤ t → sumN (fun j => levC b (b ^ j) (max 1 (t - f * b ^ j)) m) k = sumN (fun i => if keptB b f (1 + i) t then 1 else 0) m.toNat := fun m hm hmt => by
    have h1 : ∀ j : Nat, levC b (b ^ j) (max 1 (t - f * b ^ j)) m = sumN (fun i => if decide (t ≤ (1 + i) + f * b ^ j) then eF b (b ^ j) (1 + i) else 0) m.toNat := fun j => by
      rw [levC_sum hb ⟨j, rfl⟩ (by omega)]
      by_cases h : m < max 1 (t - f * b ^ j)
      · rw [show (m - max 1 (t - f * b ^ j) + 1).toNat = 0 by omega, sumN_zero (n := m.toNat)]
        · rfl
        · intro i hi
          rw [if_neg (by rw [decide_eq_true_eq]; omega)]
      · rw [show m.toNat = (max 1 (t - f * b ^ j) - 1).toNat + (m - max 1 (t - f * b ^ j) + 1).toNat by omega, sumN_plus, sumN_zero (n := (max 1 (t - f * b ^ j) - 1).toNat), Int.zero_add]
        · refine sumN_congr fun i hi => ?_
          rw [if_pos (by rw [decide_eq_true_eq]; omega), show 1 + (((max 1 (t - f * b ^ j) - 1).toNat + i : Nat) : Int) = max 1 (t - f * b ^ j) + i by omega]
        · intro i hi
          rw [if_neg (by rw [decide_eq_true_eq]; omega)]
    rw [sumN_congr fun j _ => h1 j, ← sumN_swap]
    refine sumN_congr fun i hi => ?_
    rw [eF_sumP (fun u => decide (t ≤ (1 + i) + f * u)) hb (by omega) (show (1 + (i : Int)) < b ^ k by have := hk.2.1; omega), keptB_pos (by omega) (by omega)]
  have hz : keptB b f 0 t = true := keptB_zero ht
  have step : ∀ m : Int, 0 ≤ m → cntF b f t (m + 1) = 1 + sumN (fun i => if keptB b f (1 + i) t then 1 else 0) m.toNat := fun m hm => by
    unfold cntF
    rw [show (m + 1).toNat = 1 + m.toNat by omega, sumN_plus]
    have e : sumN (fun i => if keptB b f (i : Int) t then (1 : Int) else 0) 1 = 1 := by
      rw [sumN, sumN, show ((0 : Nat) : Int) = 0 from rfl, hz]
      rfl
    rw [e]
    congr 1
  by_cases h0 : n = 0
  · subst h0
    rw [if_neg (by omega), sumN_zero]
    · rfl
    · intro j hj
      unfold levC
      rw [if_pos (by omega)]
  · rw [if_pos (by omega)]
    by_cases h1 : n - 1 ≤ t
    · rw [show min (n - 1) t = n - 1 by omega, key (n - 1) (by omega) h1, ← step (n - 1) (by omega), show n - 1 + 1 = n by omega]
    · rw [show min (n - 1) t = t by omega, key t ht (by omega), ← step t ht, cnt_stop (n := n) ht (by omega)]
theorem cnt_succ {b f t n : Int} (hn : 0 ≤ n) : cntF b f t (n + 1) = cntF b f t n + (if keptB b f n t then 1 else 0) := by
  unfold cntF
  rw [show (n + 1).toNat = n.toNat + 1 by omega, sumN, show ((n.toNat : Nat) : Int) = n by omega]
theorem cnt_mono {b f t : Int} : ∀ (d : Nat) (n : Int), 0 ≤ n → cntF b f t n ≤ cntF b f t (n + d)
  | 0, n, _ => by rw [show n + ((0 : Nat) : Int) = n by omega]; exact Int.le_refl _
  | d + 1, n, h => by
    have ih := cnt_mono (b := b) (f := f) (t := t) d n h
    rw [show n + ((d + 1 : Nat) : Int) = n + d + 1 by omega, cnt_succ (by omega)]
    split <;> omega
theorem cnt_le {b f t n m : Int} (h0 : 0 ≤ n) (h : n ≤ m) : cntF b f t n ≤ cntF b f t m := by
  have := cnt_mono (b := b) (f := f) (t := t) (m - n).toNat n h0
  rw [show n + (((m - n).toNat : Nat) : Int) = m by omega] at this
  exact this
theorem cnt_pos {b f t : Int} (ht : 0 ≤ t) {n : Int} (hn : 1 ≤ n) : 1 ≤ cntF b f t n := by
  have h := cnt_le (b := b) (f := f) (t := t) (n := 0 + 1) (m := n) (by omega) (by omega)
  rw [cnt_succ (by omega), keptB_zero ht] at h
  have e : cntF b f t 0 = 0 := rfl
  rw [e] at h
  simpa using h
theorem cnt_bd {b f t n : Int} (hn : 0 ≤ n) : 0 ≤ cntF b f t n ∧ cntF b f t n ≤ n := by
  unfold cntF
  have := sumN_bd (w := 1) (n := n.toNat) (f := fun i => if keptB b f i t then 1 else 0) fun i _ => by split <;> omega
  omega
/-- the number with an index -/
def IsIdx (b f t idx n : Int) : Prop := 0 ≤ n ∧ n ≤ t ∧ keptB b f n t = true ∧ cntF b f t n = idx
theorem idx_of {b f t idx n : Int} (h0 : 0 ≤ n) (ht : n ≤ t) (h1 : cntF b f t n ≤ idx) (h2 : idx < cntF b f t (n + 1)) : IsIdx b f t idx n := by
  rw [cnt_succ h0] at h2
  by_cases hk : keptB b f n t = true
  · rw [if_pos hk] at h2
    exact ⟨h0, ht, hk, by omega⟩
  · rw [if_neg hk] at h2
    omega
theorem IsIdx.uniq {b f t idx n m : Int} (h : IsIdx b f t idx n) (k : IsIdx b f t idx m) : n = m := by
  rcases Int.lt_trichotomy n m with q | q | q
  · have h1 := cnt_le (b := b) (f := f) (t := t) (n := n + 1) (m := m) (by have := h.1; omega) (by omega)
    rw [cnt_succ h.1, if_pos h.2.2.1, h.2.2.2, k.2.2.2] at h1
    omega
  · exact q
  · have h1 := cnt_le (b := b) (f := f) (t := t) (n := m + 1) (m := n) (by have := k.1; omega) (by omega)
    rw [cnt_succ k.1, if_pos k.2.2.1, h.2.2.2, k.2.2.2] at h1
    omega
theorem cnt_lt {b f t n m : Int} (h0 : 0 ≤ n) (h : n < m) (hk : keptB b f n t = true) : cntF b f t n < cntF b f t m := by
  have h1 := cnt_le (b := b) (f := f) (t := t) (n := n + 1) (m := m) (by omega) (by omega)
  rw [cnt_succ h0, if_pos hk] at h1
  omega
theorem kept_self {b f t : Int} (hb : 2 ≤ b) (hf : 0 ≤ f) (ht : 0 ≤ t) : keptB b f t t = true := by
  by_cases h : t = 0
  · subst h
    exact keptB_zero (by omega)
  · rw [keptB_pos (by omega) (by omega), decide_eq_true_eq]
    have := Int.mul_nonneg hf (show 0 ≤ unitF b t by have := unitF_pos (b := b) (n := t) hb; omega)
    omega
end Ma

set_option Elab.async false
set_option linter.all false
set_option maxRecDepth 100000
namespace Ma
/-! ### the last and the first number of a level -/
def lastL (b u h : Int) : Int := if h / u * u % (u * b) = 0 then h / u * u - u else h / u * u
def firstL (b u l : Int) : Int := if (l + u - 1) / u * u % (u * b) = 0 then (l + u - 1) / u * u + u else (l + u - 1) / u * u
theorem ub_big {b u : Int} (hb : 2 ≤ b) (hu : 1 ≤ u) : u * 2 ≤ u * b := Int.mul_le_mul_of_nonneg_left hb (by omega)
theorem dvd_gap {u x y : Int} (hu : 1 ≤ u) (hx : u ∣ x) (hy : u ∣ y) (h : x < y) : x + u ≤ y := by
  obtain ⟨c, rfl⟩ := hx
  obtain ⟨d, rfl⟩ := hy
  have h1 : c < d := by
    rcases Int.lt_or_le c d with q | q
    · exact q
    · have := Int.mul_le_mul_of_nonneg_left q (show (0 : Int) ≤ u by omega)
      omega
  have := Int.mul_le_mul_of_nonneg_left (show c + 1 ≤ d by omega) (show (0 : Int) ≤ u by omega)
  rw [Int.mul_add] at this
  omega
theorem not_ub {b u q : Int} (hb : 2 ≤ b) (hu : 1 ≤ u) (h : u * b ∣ q) : ¬ u * b ∣ q - u ∧ ¬ u * b ∣ q + u := by
  have hub := ub_big hb hu
  constructor
  · intro h2
    have h3 := Int.dvd_sub h h2
    rw [show q - (q - u) = u by omega] at h3
    have := Int.le_of_dvd (by omega) h3
    omega
  · intro h2
    have h3 := Int.dvd_sub h2 h
    rw [show q + u - q = u by omega] at h3
    have := Int.le_of_dvd (by omega) h3
    omega
theorem lastL_is {b u h : Int} (hb : 2 ≤ b) (hp : IsPow b u) (hh : 0 ≤ h) : lastL b u h ≤ h ∧ (1 ≤ lastL b u h → unitF b (lastL b u h) = u) ∧ (∀ m, 1 ≤ m → m ≤ h → unitF b m = u → m ≤ lastL b u h) := by
  have hu := hp.pos hb
  have hub := ub_big hb hu
  have hd := down_le (s := h) (u := u) hu
  have hdd := down_dvd (s := h) (u := u)
  have hd0 := down_nonneg (s := h) (u := u) hh hu
  unfold lastL
  unfold downF at hd hdd hd0
  have hmax : ∀ m, u ∣ m → m ≤ h → m ≤ h / u * u := fun m q1 q2 => down_max hu q1 q2
  generalize h / u * u = q at *
  by_cases hm : q % (u * b) = 0
  · rw [if_pos hm]
    have hqd : u * b ∣ q := Int.dvd_of_emod_eq_zero hm
    refine ⟨by omega, fun h1 => ?_, fun m h1 h2 h3 => ?_⟩
    · exact (IsUnit.eq hb h1 ⟨hp, Int.dvd_sub hdd ⟨1, by omega⟩, (not_ub hb hu hqd).1⟩).symm
    · have hum : u ∣ m := h3 ▸ unitF_dvd
      have h4 := hmax m hum h2
      have h5 : m ≠ q := fun e => by
        subst e
        have := (dvd_iff hb h1 hp.mul).mp hqd
        omega
      have := dvd_gap hu hum hdd (by omega)
      omega
  · rw [if_neg hm]
    refine ⟨hd.1, fun h1 => ?_, fun m h1 h2 h3 => hmax m (h3 ▸ unitF_dvd) h2⟩
    exact (IsUnit.eq hb h1 ⟨hp, hdd, fun q1 => hm (Int.emod_eq_zero_of_dvd q1)⟩).symm
theorem firstL_is {b u l : Int} (hb : 2 ≤ b) (hp : IsPow b u) (hl : 1 ≤ l) : l ≤ firstL b u l ∧ unitF b (firstL b u l) = u ∧ (∀ m, l ≤ m → unitF b m = u → firstL b u l ≤ m) ∧ firstL b u l < l + 2 * u := by
  have hu := hp.pos hb
  have hub := ub_big hb hu
  have hd := down_le (s := l + u - 1) (u := u) hu
  have hdd := down_dvd (s := l + u - 1) (u := u)
  unfold firstL
  unfold downF at hd hdd
  generalize (l + u - 1) / u * u = q at *
  have hmin : ∀ m, u ∣ m → l ≤ m → q ≤ m := fun m q1 q2 => by
    rcases Int.lt_or_le m q with z | z
    · have := dvd_gap hu q1 hdd z
      omega
    · exact z
  by_cases hm : q % (u * b) = 0
  · rw [if_pos hm]
    have hqd : u * b ∣ q := Int.dvd_of_emod_eq_zero hm
    refine ⟨by omega, (IsUnit.eq hb (by omega) ⟨hp, Int.dvd_add hdd ⟨1, by omega⟩, (not_ub hb hu hqd).2⟩).symm, fun m h1 h3 => ?_, by omega⟩
    have hum : u ∣ m := h3 ▸ unitF_dvd
    have h4 := hmin m hum h1
    have h5 : m ≠ q := fun e => by
      subst e
      have := (dvd_iff hb (by omega) hp.mul).mp hqd
      omega
    exact dvd_gap hu hdd hum (by omega)
  · rw [if_neg hm]
    exact ⟨by omega, (IsUnit.eq hb (by omega) ⟨hp, hdd, fun q1 => hm (Int.emod_eq_zero_of_dvd q1)⟩).symm, fun m h1 h3 => hmin m (h3 ▸ unitF_dvd) h1, by omega⟩
/-! ### the newest kept number up to a number -/
def NewU (b f n t : Int) (i : Nat) (r : Int) : Prop := 0 ≤ r ∧ r ≤ n ∧ keptB b f r t = true ∧ ∀ j, j < i → ∀ m, 1 ≤ m → m ≤ n → unitF b m = b ^ j → keptB b f m t = true → m ≤ r
theorem kept_le {b f n t : Int} (h : keptB b f n t = true) : n ≤ t := by
  rcases Int.lt_or_le t n with q | q
  · rw [kept_gt q] at h
    cases h
  · exact q
theorem kept_iff {b f n t : Int} (hn : 1 ≤ n) : keptB b f n t = true ↔ n ≤ t ∧ t ≤ n + f * unitF b n := by
  constructor
  · intro h
    have h1 := kept_le h
    rw [keptB_pos hn h1, decide_eq_true_eq] at h
    exact ⟨h1, h⟩
  · rintro ⟨h1, h2⟩
    rw [keptB_pos hn h1, decide_eq_true_eq]
    exact h2
theorem NewU.zero {b f n t : Int} (hn : 0 ≤ n) (ht : 0 ≤ t) : NewU b f n t 0 0 := ⟨by omega, hn, keptB_zero ht, fun j h => absurd h (by omega)⟩
theorem NewU.yes {b f n t r : Int} {i : Nat} (hb : 2 ≤ b) (hn : 0 ≤ n) (ht : 0 ≤ t) (h : NewU b f n t i r) (hl : max 1 (t - f * b ^ i) ≤ lastL b (b ^ i) (min n t)) : NewU b f n t (i + 1) (max r (lastL b (b ^ i) (min n t))) := by
  have hL := lastL_is hb ⟨i, rfl⟩ (show 0 ≤ min n t by omega)
  generalize lastL b (b ^ i) (min n t) = x at *
  have hxu := hL.2.1 (by omega)
  have hxk : keptB b f x t = true := (kept_iff (by omega)).mpr ⟨by omega, by rw [hxu]; omega⟩
  obtain ⟨h1, h2, h3, h4⟩ := h
  refine ⟨by omega, by omega, ?_, fun j hj m hm1 hm2 hm3 hm4 => ?_⟩
  · rcases Int.le_total r x with q | q
    · rw [Int.max_eq_right q]
      exact hxk
    · rw [Int.max_eq_left q]
      exact h3
  · by_cases e : j = i
    · subst e
      have := hL.2.2 m hm1 (by have := kept_le hm4; omega) hm3
      omega
    · have := h4 j (by omega) m hm1 hm2 hm3 hm4
      omega
theorem NewU.no {b f n t r : Int} {i : Nat} (hb : 2 ≤ b) (hn : 0 ≤ n) (ht : 0 ≤ t) (h : NewU b f n t i r) (hl : ¬ max 1 (t - f * b ^ i) ≤ lastL b (b ^ i) (min n t)) : NewU b f n t (i + 1) r := by
  have hL := lastL_is hb ⟨i, rfl⟩ (show 0 ≤ min n t by omega)
  obtain ⟨h1, h2, h3, h4⟩ := h
  refine ⟨h1, h2, h3, fun j hj m hm1 hm2 hm3 hm4 => ?_⟩
  by_cases e : j = i
  · subst e
    have h5 := hL.2.2 m hm1 (by have := kept_le hm4; omega) hm3
    have h6 := (kept_iff hm1).mp hm4
    rw [hm3] at h6
    omega
  · exact h4 j (by omega) m hm1 hm2 hm3 hm4
theorem NewU.done {b f n t r : Int} {k : Nat} (hb : 2 ≤ b) (ht : 0 ≤ t) (hk : IsUp b t k) (h : NewU b f n t k r) : r = newF b f n t := by
  obtain ⟨h1, h2, h3, h4⟩ := h
  refine IsNew.eq ht ⟨h1, h2, h3, fun m hm1 hm2 hm3 => ?_⟩
  cases k with
  | zero =>
    have h5 := hk.2.1
    rw [Int.pow_zero] at h5
    have := kept_le hm3
    omega
  | succ k =>
    obtain ⟨j, hj, e⟩ := unit_exp (n := m) (k := k) hb (by omega) (by have := kept_le hm3; have := hk.2.1; omega)
    have := h4 j hj m (by omega) hm2 e hm3
    omega
/-! ### the next kept number -/
def IsNext (b f t n r : Int) : Prop := n ≤ r ∧ r ≤ t ∧ keptB b f r t = true ∧ ∀ m, n ≤ m → m < r → ¬ keptB b f m t = true
theorem IsNext.uniq {b f t n r q : Int} (h : IsNext b f t n r) (k : IsNext b f t n q) : r = q := by
  rcases Int.lt_trichotomy r q with z | z | z
  · exact absurd h.2.2.1 (k.2.2.2 r h.1 z)
  · exact z
  · exact absurd k.2.2.1 (h.2.2.2 q k.1 z)
def NextU (b f n t : Int) (i : Nat) (r : Int) : Prop := n ≤ r ∧ r ≤ t ∧ keptB b f r t = true ∧ ∀ j, j < i → ∀ m, n ≤ m → unitF b m = b ^ j → keptB b f m t = true → r ≤ m
theorem NextU.zero {b f n t : Int} (hb : 2 ≤ b) (hf : 1 ≤ f) (hn : 1 ≤ n) (h : n ≤ t) : NextU b f n t 0 t := ⟨h, by omega, kept_self hb (by omega) (by omega), fun j h => absurd h (by omega)⟩
theorem NextU.step {b f n t r : Int} {i : Nat} (hb : 2 ≤ b) (hn : 1 ≤ n) (h : NextU b f n t i r) : NextU b f n t (i + 1) (min r (firstL b (b ^ i) (max n (max 1 (t - f * b ^ i))))) := by
  have hL := firstL_is hb ⟨i, rfl⟩ (show 1 ≤ max n (max 1 (t - f * b ^ i)) by omega)
  generalize firstL b (b ^ i) (max n (max 1 (t - f * b ^ i))) = x at *
  obtain ⟨h1, h2, h3, h4⟩ := h
  refine ⟨by omega, by omega, ?_, fun j hj m hm1 hm3 hm4 => ?_⟩
  · rcases Int.le_total r x with q | q
    · rw [Int.min_eq_left q]
      exact h3
    · rw [Int.min_eq_right q]
      exact (kept_iff (by omega)).mpr ⟨by omega, by rw [hL.2.1]; omega⟩
  · by_cases e : j = i
    · subst e
      have h6 := (kept_iff (by omega)).mp hm4
      rw [hm3] at h6
      have := hL.2.2.1 m (by omega) hm3
      omega
    · have := h4 j (by omega) m hm1 hm3 hm4
      omega
theorem NextU.done {b f n t r : Int} {k : Nat} (hb : 2 ≤ b) (hn : 1 ≤ n) (hk : IsUp b t k) (h : NextU b f n t k r) : IsNext b f t n r := by
  obtain ⟨h1, h2, h3, h4⟩ := h
  refine ⟨h1, h2, h3, fun m hm1 hm2 hm3 => ?_⟩
  cases k with
  | zero =>
    have h5 := hk.2.1
    rw [Int.pow_zero] at h5
    have := kept_le hm3
    omega
  | succ k =>
    obtain ⟨j, hj, e⟩ := unit_exp (n := m) (k := k) hb (by omega) (by have := kept_le hm3; have := hk.2.1; omega)
    have := h4 j hj m hm1 e hm3
    omega
theorem up_item {b t p : Int} {k i : Nat} (hb : 2 ≤ b) (h : IsUp b t k) (hx : (powJ b k)[i]? = some p) : i < k ∧ p = b ^ i ∧ 1 ≤ b ^ i ∧ b ^ i ≤ t := by
  have hi : i < k := by
    have := (List.getElem?_eq_some_iff.mp hx).1
    rw [powJ_len] at this
    exact this
  rw [powJ_get hi] at hx
  exact ⟨hi, (Option.some.inj hx).symm, pow_pos hb i, h.1 i hi⟩
theorem up_done {b t : Int} {k : Nat} (hb : 2 ≤ b) (ht : t ≤ 10 ^ 60) (h : ∀ j, j < k → b ^ j ≤ t) (h2 : ¬ b ^ k ≤ t) : IsUp b t k := by
  refine ⟨h, by omega, ?_⟩
  cases k with
  | zero => omega
  | succ k =>
    have := pow_small (b := b) (k := k) hb (by have := h k (by omega); omega)
    omega
theorem up_next {b t : Int} {k : Nat} (h : ∀ j, j < k → b ^ j ≤ t) (h2 : b ^ k ≤ t) : ∀ j, j < k + 1 → b ^ j ≤ t := fun j hj => by
  by_cases e : j = k
  · subst e
    exact h2
  · exact h j (by omega)
/-! ### the list of the kept numbers -/
def keptL (b f t : Int) : List Int := (Kr.rngI 0 (t + 1).toNat).filter (fun m => keptB b f m t)
theorem rng_split (n d : Nat) : Kr.rngI 0 (n + d) = Kr.rngI 0 n ++ Kr.rngI n d := by
  unfold Kr.rngI
  rw [List.range_add, List.map_append, List.map_map]
  congr 1
  refine List.map_congr_left fun a _ => ?_
  simp only [Function.comp]
  omega
theorem cnt_len' {b f t : Int} : ∀ n : Nat, (((Kr.rngI 0 n).filter (fun m => keptB b f m t)).length : Int) = cntF b f t n
  | 0 => rfl
  | n + 1 => by
    rw [rng_split n 1, List.filter_append, List.length_append, show ((n + 1 : Nat) : Int) = (n : Int) + 1 by omega, cnt_succ (by omega), ← cnt_len' n]
    have e : Kr.rngI (n : Int) 1 = [(n : Int)] := by simp [Kr.rngI]
    rw [e, List.filter_cons]
    split
    · simp
    · simp
theorem keptL_len {b f t : Int} (ht : 0 ≤ t) : ((keptL b f t).length : Int) = cntF b f t (t + 1) := by
  have := cnt_len' (b := b) (f := f) (t := t) (t + 1).toNat
  rw [show (((t + 1).toNat : Nat) : Int) = t + 1 by omega] at this
  exact this
theorem keptL_below {b f t n : Int} (ht : 0 ≤ t) (hn : 0 ≤ n) : (((keptL b f t).filter (fun m => decide (m < n))).length : Int) = cntF b f t n := by
  unfold keptL
  have key : ∀ m : Int, 0 ≤ m → m ≤ t + 1 → (((Kr.rngI 0 (t + 1).toNat).filter (fun m => keptB b f m t)).filter (fun x => decide (x < m))).length = ((Kr.rngI 0 m.toNat).filter (fun m => keptB b f m t)).length := fun m h0 h1 => by
    rw [show (t + 1).toNat = m.toNat + (t + 1 - m).toNat by omega, rng_split, List.filter_append, List.filter_append, List.length_append]
    have e1 : ((Kr.rngI 0 m.toNat).filter (fun m => keptB b f m t)).filter (fun x => decide (x < m)) = (Kr.rngI 0 m.toNat).filter (fun m => keptB b f m t) := List.filter_eq_self.mpr fun x hx => by
      have := Kr.mem_rngI.mp (List.mem_filter.mp hx).1
      rw [decide_eq_true_eq]
      omega
    have e2 : ((Kr.rngI ((m.toNat : Nat) : Int) (t + 1 - m).toNat).filter (fun m => keptB b f m t)).filter (fun x => decide (x < m)) = [] := List.filter_eq_nil_iff.mpr fun x hx => by
      have := Kr.mem_rngI.mp (List.mem_filter.mp hx).1
      rw [decide_eq_true_eq]
      omega
    rw [e1, e2]
    rfl
  by_cases h : n ≤ t + 1
  · rw [key n hn h]
    have := cnt_len' (b := b) (f := f) (t := t) n.toNat
    rw [show ((n.toNat : Nat) : Int) = n by omega] at this
    exact this
  · rw [cnt_stop (n := n) ht (by omega), ← keptL_len ht]
    unfold keptL
    rw [List.filter_eq_self.mpr]
    intro x hx
    have := Kr.mem_rngI.mp (List.mem_filter.mp hx).1
    rw [decide_eq_true_eq]
    omega
theorem mem_keptL {b f t n : Int} : n ∈ keptL b f t ↔ 0 ≤ n ∧ keptB b f n t = true := by
  unfold keptL
  rw [List.mem_filter, Kr.mem_rngI]
  constructor
  · rintro ⟨h1, h2⟩
    exact ⟨h1.1, h2⟩
  · rintro ⟨h1, h2⟩
    have := kept_le h2
    exact ⟨⟨h1, by omega⟩, h2⟩
def idxF (b f t idx : Int) : Int := ((keptL b f t)[idx.toNat]?).getD 0
theorem keptL_at {b f t idx n : Int} (h : IsIdx b f t idx n) : (keptL b f t)[idx.toNat]? = some n := by
  obtain ⟨h0, h1, h2, h3⟩ := h
  unfold keptL
  rw [show (t + 1).toNat = n.toNat + (1 + (t - n).toNat) by omega, rng_split, List.filter_append]
  have hl := cnt_len' (b := b) (f := f) (t := t) n.toNat
  rw [show ((n.toNat : Nat) : Int) = n by omega, h3] at hl
  rw [List.getElem?_append_right (by omega), show idx.toNat - ((Kr.rngI 0 n.toNat).filter (fun m => keptB b f m t)).length = 0 by omega]
  have e : Kr.rngI ((n.toNat : Nat) : Int) (1 + (t - n).toNat) = n :: Kr.rngI (n + 1) (t - n).toNat := by
    rw [show ((n.toNat : Nat) : Int) = n by omega, Nat.add_comm]
    unfold Kr.rngI
    rw [List.range_succ_eq_map, List.map_cons, List.map_map]
    refine List.cons_eq_cons.mpr ⟨by simp, List.map_congr_left fun a _ => ?_⟩
    simp only [Function.comp]
    omega
  rw [e, List.filter_cons, if_pos h2]
  rfl
theorem IsIdx.eq {b f t idx n : Int} (h : IsIdx b f t idx n) : n = idxF b f t idx := by
  unfold idxF
  rw [keptL_at h]
  rfl
theorem idx_ex {b f t : Int} : ∀ (k : Nat) (idx : Int), 0 ≤ idx → idx < cntF b f t k → ∃ n : Int, 0 ≤ n ∧ n < (k : Int) ∧ keptB b f n t = true ∧ cntF b f t n = idx
  | 0, idx, h0, h => by
    have e : cntF b f t ((0 : Nat) : Int) = 0 := rfl
    omega
  | k + 1, idx, h0, h => by
    rw [show ((k + 1 : Nat) : Int) = (k : Int) + 1 by omega, cnt_succ (by omega)] at h
    by_cases h1 : idx < cntF b f t k
    · obtain ⟨n, q1, q2, q3, q4⟩ := idx_ex k idx h0 h1
      exact ⟨n, q1, by omega, q3, q4⟩
    · by_cases hk : keptB b f k t = true
      · rw [if_pos hk] at h
        exact ⟨k, by omega, by omega, hk, by omega⟩
      · rw [if_neg hk] at h
        omega
theorem idxF_is {b f t idx : Int} (ht : 0 ≤ t) (h0 : 0 ≤ idx) (h : idx < cntF b f t (t + 1)) : IsIdx b f t idx (idxF b f t idx) := by
  obtain ⟨n, q1, q2, q3, q4⟩ := idx_ex (b := b) (f := f) (t := t) (t + 1).toNat idx h0 (by rw [show (((t + 1).toNat : Nat) : Int) = t + 1 by omega]; exact h)
  have hi : IsIdx b f t idx n := ⟨q1, kept_le q3, q3, q4⟩
  rw [← hi.eq]
  exact hi
theorem k09_list {b f t : Int} {k : Nat} (ht : 0 ≤ t) (hk : k = (keptL b f t).length) : (Kr.rngI 0 k).map (fun i => idxF b f t i) = keptL b f t := by
  apply List.ext_getElem?
  intro i
  by_cases hi : i < k
  · rw [List.getElem?_map, Kr.rngI_get hi]
    have h2 := keptL_len (b := b) (f := f) ht
    have h3 := idxF_is (b := b) (f := f) (t := t) (idx := 0 + (i : Int)) ht (by omega) (by omega)
    have h4 := keptL_at h3
    rw [show (0 + (i : Int)).toNat = i by omega] at h4
    rw [h4]
    rfl
  · rw [List.getElem?_eq_none (by rw [List.length_map, Kr.rngI_len]; omega), List.getElem?_eq_none (by omega)]
end Ma
namespace Ma
theorem lives_no {b f n t : Int} (hn : 0 ≤ n ∧ 0 ≤ t) (h : n = 0 ∨ t < n) : decide (n = 0) = keptB b f n t := by
  rcases h with h | h
  · subst h
    rw [keptB_zero hn.2]
    rfl
  · rw [kept_gt h, decide_eq_false (by omega)]
end Ma
namespace Ma
/-! ### for laws k09, k10 -/
theorem k09_last {b f t : Int} (hb : 2 ≤ b) (hf : 1 ≤ f) (ht : 0 ≤ t) : idxF b f t (cntF b f t (t + 1) - 1) = t := by
  refine (IsIdx.eq ⟨ht, by omega, kept_self hb (by omega) ht, ?_⟩).symm
  rw [cnt_succ ht, kept_self hb (by omega) ht]
  simp
theorem idx_lt {b f t i j n m : Int} (h : IsIdx b f t i n) (k : IsIdx b f t j m) (hij : i < j) : n < m := by
  rcases Int.lt_or_le n m with q | q
  · exact q
  · have := cnt_le (b := b) (f := f) (t := t) k.1 q
    rw [h.2.2.2, k.2.2.2] at this
    omega
theorem k09_mid {b f t i n m x : Int} (h : IsIdx b f t (i - 1) n) (k : IsIdx b f t i m) (h1 : n + 1 ≤ x) (h2 : x ≤ m) : cntF b f t x = i := by
  have h0 := h.1
  have q1 := cnt_le (b := b) (f := f) (t := t) (n := n + 1) (m := x) (by omega) h1
  have q2 := cnt_le (b := b) (f := f) (t := t) (n := x) (m := m) (by omega) h2
  rw [cnt_succ h.1, if_pos h.2.2.1, h.2.2.2] at q1
  rw [k.2.2.2] at q2
  omega
theorem k09_low {b f t x : Int} (ht : 0 ≤ t) (hx : 0 ≤ x) (h : cntF b f t x < cntF b f t (t + 1)) : x ≤ idxF b f t (cntF b f t x) := by
  have hi := idxF_is ht (cnt_bd (b := b) (f := f) (t := t) hx).1 h
  rcases Int.lt_or_le (idxF b f t (cntF b f t x)) x with q | q
  · have := cnt_lt hi.1 q hi.2.2.1
    rw [hi.2.2.2] at this
    omega
  · exact q
theorem k09_up {b f t x : Int} (ht : 0 ≤ t) (hx : 0 ≤ x) (hxt : x ≤ t + 1) (h : ¬ cntF b f t x = 0) : idxF b f t (cntF b f t x - 1) < x := by
  have h0 := (cnt_bd (b := b) (f := f) (t := t) hx).1
  have h1 := cnt_le (b := b) (f := f) (t := t) hx hxt
  have hi := idxF_is (b := b) (f := f) (t := t) (idx := cntF b f t x - 1) ht (by omega) (by omega)
  rcases Int.lt_or_le (idxF b f t (cntF b f t x - 1)) x with q | q
  · exact q
  · have := cnt_le (b := b) (f := f) (t := t) hx q
    rw [hi.2.2.2] at this
    omega
end Ma

set_option Elab.async false
set_option linter.all false
set_option maxRecDepth 100000
namespace Ma
/-! ### for law k10 -/
theorem k10_max {b f t z m : Int} (ht : 0 ≤ t) (h1 : m ∈ (keptL b f t).filter (fun x => decide (x ≤ z))) (h2 : ∀ k ∈ (keptL b f t).filter (fun x => decide (x ≤ z)), k ≤ m) : newF b f z t = m := by
  obtain ⟨q1, q2⟩ := List.mem_filter.mp h1
  obtain ⟨q3, q4⟩ := mem_keptL.mp q1
  rw [decide_eq_true_eq] at q2
  refine (IsNew.eq ht ⟨q3, q2, q4, fun n hn1 hn2 hn3 => ?_⟩).symm
  have := h2 n (List.mem_filter.mpr ⟨mem_keptL.mpr ⟨by omega, hn3⟩, by rw [decide_eq_true_eq]; exact hn2⟩)
  omega
theorem k10_some {b f t z : Int} (ht : 0 ≤ t) (hz : 0 ≤ z) : 0 < ((keptL b f t).filter (fun x => decide (x ≤ z))).length :=
  List.length_pos_of_mem (List.mem_filter.mpr ⟨mem_keptL.mpr ⟨Int.le_refl 0, keptB_zero ht⟩, by rw [decide_eq_true_eq]; exact hz⟩)
theorem rng_sorted (lo : Int) (n : Nat) : (Kr.rngI lo n).Pairwise (· < ·) := by
  unfold Kr.rngI
  rw [List.pairwise_map]
  exact List.Pairwise.imp (fun h => by omega) List.pairwise_lt_range
theorem keptL_sorted (b f t : Int) : (keptL b f t).Pairwise (· < ·) := (rng_sorted 0 _).filter _
theorem k10_head {b f t z : Int} (hb : 2 ≤ b) (hf : 1 ≤ f) (ht : 0 ≤ t) (hz : 0 ≤ z) : (Kr.headV ((keptL b f t).filter (fun x => decide (z ≤ x))) = .non ∧ t < z) ∨ ∃ v, Kr.headV ((keptL b f t).filter (fun x => decide (z ≤ x))) = .int v ∧ IsNext b f t z v := by
  have hmem : ∀ x, x ∈ (keptL b f t).filter (fun x => decide (z ≤ x)) ↔ z ≤ x ∧ keptB b f x t = true := fun x => by
    rw [List.mem_filter, mem_keptL, decide_eq_true_eq]
    constructor
    · rintro ⟨⟨q1, q2⟩, q3⟩
      exact ⟨q3, q2⟩
    · rintro ⟨q1, q2⟩
      exact ⟨⟨by omega, q2⟩, q1⟩
  have hs := (keptL_sorted b f t).filter (fun x => decide (z ≤ x))
  cases hL : (keptL b f t).filter (fun x => decide (z ≤ x)) with
  | nil =>
    refine .inl ⟨rfl, ?_⟩
    rcases Int.lt_or_le t z with q | q
    · exact q
    · have := (hmem t).mpr ⟨q, kept_self hb (by omega) ht⟩
      rw [hL] at this
      cases this
  | cons y r =>
    rw [hL] at hs hmem
    have hy := (hmem y).mp (by simp)
    refine .inr ⟨y, rfl, hy.1, kept_le hy.2, hy.2, fun m h1 h2 h3 => ?_⟩
    have hm := (hmem m).mpr ⟨h1, h3⟩
    rcases List.mem_cons.mp hm with e | e
    · omega
    · have := (List.pairwise_cons.mp hs).1 m e
      omega
theorem cnt_gap {b f t x y : Int} (hx : 0 ≤ x) (hxy : x ≤ y) (h : ∀ m, x ≤ m → m < y → ¬ keptB b f m t = true) : cntF b f t y = cntF b f t x := by
  have key : ∀ d : Nat, (∀ m, x ≤ m → m < x + d → ¬ keptB b f m t = true) → cntF b f t (x + d) = cntF b f t x := by
    intro d
    induction d with
    | zero => intro _; rw [show x + ((0 : Nat) : Int) = x by omega]
    | succ d ih =>
      intro hd
      rw [show x + ((d + 1 : Nat) : Int) = x + d + 1 by omega, cnt_succ (by omega), ih fun m h1 h2 => hd m h1 (by omega), if_neg (hd (x + d) (by omega) (by omega))]
      omega
  have := key (y - x).toNat fun m h1 h2 => h m h1 (by omega)
  rw [show x + (((y - x).toNat : Nat) : Int) = y by omega] at this
  exact this
theorem new_cnt {b f t n r : Int} (h : IsNew b f n t r) : cntF b f t (n + 1) = cntF b f t r + 1 := by
  obtain ⟨h1, h2, h3, h4⟩ := h
  rw [cnt_gap (x := r + 1) (by omega) (by omega) fun m q1 q2 => h4 m (by omega) (by omega), cnt_succ h1, if_pos h3]
theorem next_cnt {b f t n r : Int} (hn : 0 ≤ n) (h : IsNext b f t n r) : cntF b f t r = cntF b f t n := cnt_gap hn h.1 h.2.2.2
theorem new_top {b f t n r : Int} (hb : 2 ≤ b) (hf : 1 ≤ f) (ht : 0 ≤ t) (h : IsNew b f n t r) (hn : t ≤ n) : r = t := by
  obtain ⟨h1, h2, h3, h4⟩ := h
  have q := kept_le h3
  rcases Int.lt_or_le r t with z | z
  · exact absurd (kept_self hb (by omega) ht) (h4 t z hn)
  · omega
theorem new_self {b f t r : Int} (ht : 0 ≤ t) (h0 : 0 ≤ r) (h : keptB b f r t = true) : newF b f r t = r := (IsNew.eq ht ⟨h0, Int.le_refl _, h, fun n h1 h2 => by omega⟩).symm
theorem next_self {b f t r : Int} (h : keptB b f r t = true) : IsNext b f t r r := ⟨Int.le_refl _, kept_le h, h, fun m h1 h2 => by omega⟩
theorem k10_idx {b f t n r v : Int} (hn : 0 ≤ n) (h : IsNew b f n t r) (hv : IsNext b f t (r + 1) v) : cntF b f t r + 1 < cntF b f t (t + 1) ∧ v = idxF b f t (cntF b f t r + 1) := by
  have h1 := next_cnt (by have := h.1; omega) hv
  rw [cnt_succ h.1, if_pos h.2.2.1] at h1
  have h0 := h.1
  have hv1 := hv.1
  refine ⟨?_, IsIdx.eq ⟨by omega, hv.2.1, hv.2.2.1, h1⟩⟩
  have := cnt_lt (b := b) (f := f) (t := t) (n := v) (m := t + 1) (by omega) (by have := hv.2.1; omega) hv.2.2.1
  omega
end Ma

set_option Elab.async false
set_option linter.all false
set_option maxRecDepth 100000
namespace Ma
/-! ### the kept numbers listed level by level -/
def lvlF (f t p : Int) : Int := -((-(max 1 (t - f * p))) / p)
def lvlL (b f t p : Int) : List Int := ((Kr.rngI (lvlF f t p) (t / p + 1 - lvlF f t p).toNat).filter (fun k => !decide (k % b = 0))).map (fun k => k * p)
def stockL (b f t : Int) : Nat → List Int
  | 0 => [0]
  | i + 1 => stockL b f t i ++ lvlL b f t (b ^ i)
theorem lvlF_le {f t p k : Int} (hp : 1 ≤ p) : lvlF f t p ≤ k ↔ max 1 (t - f * p) ≤ k * p := by
  unfold lvlF
  have h := Int.le_ediv_iff_mul_le (a := -k) (b := -(max 1 (t - f * p))) (c := p) (by omega)
  rw [Int.neg_mul] at h
  constructor
  · intro q
    have := h.mp (by omega)
    omega
  · intro q
    have := h.mpr (by omega)
    omega
theorem mem_lvl {b f t p n : Int} (hb : 2 ≤ b) (hp : IsPow b p) : n ∈ lvlL b f t p ↔ 1 ≤ n ∧ n ≤ t ∧ t ≤ n + f * p ∧ unitF b n = p := by
  have hp1 := hp.pos hb
  unfold lvlL
  rw [List.mem_map]
  constructor
  · rintro ⟨k, hk, rfl⟩
    obtain ⟨h1, h2⟩ := List.mem_filter.mp hk
    have h3 := Kr.mem_rngI.mp h1
    have h4 := (lvlF_le hp1).mp h3.1
    have h5 : k ≤ t / p := by omega
    have h6 := (Int.le_ediv_iff_mul_le (by omega)).mp h5
    refine ⟨by omega, h6, by omega, (IsUnit.eq hb (by omega) ⟨hp, ⟨k, Int.mul_comm _ _⟩, ?_⟩).symm⟩
    rintro ⟨c, hc⟩
    have e : p * k = p * (b * c) := by rw [Int.mul_comm, hc, Int.mul_assoc]
    have e2 : k = b * c := Int.eq_of_mul_eq_mul_left (by omega) e
    rw [e2] at h2
    simp at h2
  · rintro ⟨h1, h2, h3, h4⟩
    obtain ⟨k, hk⟩ : p ∣ n := h4 ▸ unitF_dvd
    have hkp : k * p = n := by rw [hk, Int.mul_comm]
    refine ⟨k, List.mem_filter.mpr ⟨Kr.mem_rngI.mpr ⟨(lvlF_le hp1).mpr (by rw [hkp]; omega), ?_⟩, ?_⟩, hkp⟩
    · have h5 : k ≤ t / p := (Int.le_ediv_iff_mul_le (by omega)).mpr (by rw [hkp]; exact h2)
      have h6 : lvlF f t p ≤ k := (lvlF_le hp1).mpr (by rw [hkp]; omega)
      omega
    · rw [Bool.not_eq_true', decide_eq_false_iff_not]
      intro h5
      have h6 : p * b ∣ n := by
        obtain ⟨c, hc⟩ := Int.dvd_of_emod_eq_zero h5
        exact ⟨c, by rw [hk, hc, Int.mul_assoc]⟩
      have := (dvd_iff hb h1 hp.mul).mp h6
      have := ub_big hb hp1
      omega
theorem lvl_len {b f t p : Int} (hp : 1 ≤ p) (hf : 0 ≤ f) : ((lvlL b f t p).length : Int) ≤ f + 1 := by
  unfold lvlL
  rw [List.length_map]
  have h1 := List.length_filter_le (fun k => !decide (k % b = 0)) (Kr.rngI (lvlF f t p) (t / p + 1 - lvlF f t p).toNat)
  rw [Kr.rngI_len] at h1
  have h2 : t / p - f ≤ lvlF f t p := by
    have h3 := (lvlF_le (f := f) (t := t) (p := p) (k := lvlF f t p) hp).mp (Int.le_refl _)
    have h4 : (t / p) * p ≤ t := by
      have := (Int.le_ediv_iff_mul_le (a := t / p) (b := t) (c := p) (by omega)).mp (Int.le_refl _)
      exact this
    have h5 : (t / p - f) * p ≤ lvlF f t p * p := by rw [Int.sub_mul]; omega
    exact Int.le_of_mul_le_mul_right h5 (by omega)
  omega
theorem lvl_sorted {b f t p : Int} (hp : 1 ≤ p) : (lvlL b f t p).Pairwise (· < ·) :=
  List.Pairwise.map _ (fun a b h => Int.mul_lt_mul_of_pos_right h (by omega)) ((rng_sorted _ _).filter _)
theorem nodup_lt {l : List Int} (h : l.Pairwise (· < ·)) : l.Nodup := List.nodup_iff_pairwise_ne.mpr (h.imp fun h => by omega)
theorem mem_stock {b f t n : Int} : ∀ {i : Nat}, n ∈ stockL b f t i ↔ n = 0 ∨ ∃ j, j < i ∧ n ∈ lvlL b f t (b ^ j)
  | 0 => by
    rw [stockL]
    constructor
    · intro h
      exact .inl (by simpa using h)
    · rintro (h | ⟨j, h, _⟩)
      · simp [h]
      · omega
  | i + 1 => by
    rw [stockL, List.mem_append, mem_stock]
    constructor
    · rintro ((h | ⟨j, h1, h2⟩) | h)
      · exact .inl h
      · exact .inr ⟨j, by omega, h2⟩
      · exact .inr ⟨i, by omega, h⟩
    · rintro (h | ⟨j, h1, h2⟩)
      · exact .inl (.inl h)
      · by_cases e : j = i
        · subst e
          exact .inr h2
        · exact .inl (.inr ⟨j, by omega, h2⟩)
theorem stock_nodup {b f t : Int} (hb : 2 ≤ b) : ∀ i : Nat, (stockL b f t i).Nodup
  | 0 => by simp [stockL]
  | i + 1 => by
    rw [stockL, List.nodup_append]
    refine ⟨stock_nodup hb i, nodup_lt (lvl_sorted (pow_pos hb i)), fun x hx y hy e => ?_⟩
    subst e
    have h1 := (mem_lvl hb ⟨i, rfl⟩).mp hy
    rcases mem_stock.mp hx with h | ⟨j, h2, h3⟩
    · omega
    · have h4 := (mem_lvl hb ⟨j, rfl⟩).mp h3
      have := pow_inj hb (h4.2.2.2.symm.trans h1.2.2.2)
      omega
theorem stock_len {b f t : Int} (hb : 2 ≤ b) (hf : 0 ≤ f) : ∀ i : Nat, ((stockL b f t i).length : Int) ≤ 1 + i * (f + 1)
  | 0 => by simp [stockL]
  | i + 1 => by
    have ih := stock_len (t := t) hb hf i
    have h := lvl_len (b := b) (f := f) (t := t) (p := b ^ i) (pow_pos hb i) hf
    rw [stockL, List.length_append, show ((i + 1 : Nat) : Int) * (f + 1) = i * (f + 1) + (f + 1) by rw [show ((i + 1 : Nat) : Int) = i + 1 by omega, Int.add_mul, Int.one_mul]]
    omega
theorem stock_mem {b f t n : Int} {k : Nat} (hb : 2 ≤ b) (ht : 0 ≤ t) (hk : t < b ^ k) : n ∈ stockL b f t k ↔ n ∈ keptL b f t := by
  rw [mem_stock, mem_keptL]
  constructor
  · rintro (h | ⟨j, h1, h2⟩)
    · subst h
      exact ⟨Int.le_refl _, keptB_zero ht⟩
    · have h4 := (mem_lvl hb ⟨j, rfl⟩).mp h2
      exact ⟨by omega, (kept_iff h4.1).mpr ⟨h4.2.1, by rw [h4.2.2.2]; exact h4.2.2.1⟩⟩
  · rintro ⟨h1, h2⟩
    by_cases h0 : n = 0
    · exact .inl h0
    · have h3 := (kept_iff (by omega)).mp h2
      cases k with
      | zero => rw [Int.pow_zero] at hk; omega
      | succ k =>
        obtain ⟨j, hj, e⟩ := unit_exp (n := n) (k := k) hb (by omega) (by omega)
        exact .inr ⟨j, hj, (mem_lvl hb ⟨j, rfl⟩).mpr ⟨by omega, h3.1, by rw [← e]; exact h3.2, e⟩⟩
theorem keptL_le (b f t : Int) : (keptL b f t).Pairwise (· ≤ ·) := (keptL_sorted b f t).imp fun h => by omega
theorem stock_eq {b f t : Int} {k : Nat} {ns : List Int} (hb : 2 ≤ b) (ht : 0 ≤ t) (hk : t < b ^ k) (hp : ns.Perm (stockL b f t k)) (hs : ns.Pairwise (· ≤ ·)) : ns = keptL b f t :=
  PySem.W.ksm_same (hp.trans ((List.perm_ext_iff_of_nodup (stock_nodup hb k) (nodup_lt (keptL_sorted b f t))).mpr fun n => stock_mem hb ht hk)) hs (keptL_le b f t)
theorem keptL_small {b f t : Int} {k : Nat} (hb : 2 ≤ b) (hf : 0 ≤ f) (ht : 0 ≤ t) (hk : t < b ^ k) : ((keptL b f t).length : Int) ≤ 1 + k * (f + 1) := by
  have h := ((List.perm_ext_iff_of_nodup (stock_nodup (f := f) (t := t) hb k) (nodup_lt (keptL_sorted b f t))).mpr fun n => stock_mem hb ht hk).length_eq
  rw [← h]
  exact stock_len hb hf k
/-! ### the newest number by trying the powers (law k18) -/
def newestL (b f n t : Int) : Nat → List Int
  | 0 => [0]
  | i + 1 => newestL b f n t i ++ (if t - n / b ^ i * b ^ i ≤ f * b ^ i then [n / b ^ i * b ^ i] else [])
theorem newest_len {b f n t : Int} : ∀ i : Nat, (newestL b f n t i).length ≤ i + 1
  | 0 => by simp [newestL]
  | i + 1 => by
    have := newest_len (b := b) (f := f) (n := n) (t := t) i
    rw [newestL, List.length_append]
    split <;> simp <;> omega
theorem newest_yes {b f n t : Int} {i : Nat} (h : t - n / b ^ i * b ^ i ≤ f * b ^ i) : (newestL b f n t i).map L2.V.int ++ [L2.V.int (n / b ^ i * b ^ i)] = (newestL b f n t (i + 1)).map L2.V.int := by
  rw [newestL, if_pos h, List.map_append]
  rfl
theorem newest_no {b f n t : Int} {i : Nat} (h : ¬ t - n / b ^ i * b ^ i ≤ f * b ^ i) : newestL b f n t i = newestL b f n t (i + 1) := by
  rw [newestL, if_neg h, List.append_nil]
theorem newest_mem {b f n t : Int} (hb : 2 ≤ b) (hf : 1 ≤ f) (hn : 0 ≤ n) (hnt : n ≤ t) : ∀ i : Nat, (∀ x ∈ newestL b f n t i, 0 ≤ x ∧ x ≤ n ∧ keptB b f x t = true) ∧ 0 ∈ newestL b f n t i ∧ ∀ j, j < i → t - downF n (b ^ j) ≤ f * b ^ j → downF n (b ^ j) ∈ newestL b f n t i
  | 0 => by
    refine ⟨fun x hx => ?_, by simp [newestL], fun j h => absurd h (by omega)⟩
    have e : x = 0 := by simpa [newestL] using hx
    subst e
    exact ⟨Int.le_refl _, hn, keptB_zero (by omega)⟩
  | i + 1 => by
    obtain ⟨h1, h2, h3⟩ := newest_mem hb hf hn hnt i
    have hp := pow_pos hb i
    refine ⟨fun x hx => ?_, ?_, fun j hj hc => ?_⟩
    · rw [newestL] at hx
      rcases List.mem_append.mp hx with h | h
      · exact h1 x h
      · by_cases hc : t - n / b ^ i * b ^ i ≤ f * b ^ i
        · rw [if_pos hc] at h
          have e : x = downF n (b ^ i) := by unfold downF; simpa using h
          subst e
          exact ⟨down_nonneg hn hp, (down_le hp).1, down_kept hb hf hn hnt hc⟩
        · rw [if_neg hc] at h
          cases h
    · rw [newestL]
      exact List.mem_append_left _ h2
    · rw [newestL]
      by_cases e : j = i
      · subst e
        rw [if_pos (show t - n / b ^ j * b ^ j ≤ f * b ^ j from hc)]
        exact List.mem_append_right _ (by simp [downF])
      · exact List.mem_append_left _ (h3 j (by omega) hc)
theorem newest_max {b f n t m : Int} {k : Nat} (hb : 2 ≤ b) (hf : 1 ≤ f) (hn : 0 ≤ n) (hnt : n ≤ t) (hk : n < b ^ k) (h1 : m ∈ newestL b f n t k) (h2 : ∀ x ∈ newestL b f n t k, x ≤ m) : m = newF b f n t := by
  obtain ⟨q1, q2, q3⟩ := newest_mem hb hf hn hnt k
  obtain ⟨r1, r2, r3⟩ := q1 m h1
  cases k with
  | zero =>
    rw [Int.pow_zero] at hk
    have e : n = 0 := by omega
    subst e
    exact IsNew.eq (by omega) ⟨r1, r2, r3, fun x h3 h4 => by omega⟩
  | succ k => exact NewI.done hb hf hnt hk ⟨r1, r2, r3, fun j hj hc => h2 _ (q3 j hj hc)⟩
end Ma
namespace Ma
theorem lvlF_pos {f t p : Int} (hp : 1 ≤ p) : 1 ≤ lvlF f t p := by
  rcases Int.lt_or_le (lvlF f t p) 1 with q | q
  · have h := (lvlF_le (f := f) (t := t) (p := p) (k := 0) hp).mp (by omega)
    omega
  · exact q
theorem lvl_rng {f t p : Int} (hp : 1 ≤ p) (hf : 0 ≤ f) : t / p + 1 - lvlF f t p ≤ f + 1 := by
  have h3 := (lvlF_le (f := f) (t := t) (p := p) (k := lvlF f t p) hp).mp (Int.le_refl _)
  have h4 : (t / p) * p ≤ t := (Int.le_ediv_iff_mul_le (a := t / p) (b := t) (c := p) (by omega)).mp (Int.le_refl _)
  have h5 : (t / p - f) * p ≤ lvlF f t p * p := by rw [Int.sub_mul]; omega
  have := Int.le_of_mul_le_mul_right h5 (by omega)
  omega
theorem pows_item {b m p : Int} {k i : Nat} (hb : 2 ≤ b) (h : IsPows b m k) (hx : (powJ b k)[i]? = some p) : i < k ∧ p = b ^ i ∧ 1 ≤ b ^ i ∧ b ^ i ≤ max 1 m := by
  have hi : i < k := by
    have := (List.getElem?_eq_some_iff.mp hx).1
    rw [powJ_len] at this
    exact this
  rw [powJ_get hi] at hx
  refine ⟨hi, (Option.some.inj hx).symm, pow_pos hb i, ?_⟩
  rcases h.2.1 with h1 | h1
  · have : i = 0 := by omega
    subst this
    rw [Int.pow_zero]
    omega
  · have := pow_mono hb (show i ≤ k - 1 by omega)
    omega
end Ma

set_option Elab.async false
set_option linter.all false
set_option maxRecDepth 100000
/-! ### k23: widest gaps -/
namespace Ma
def nwF (b f t : Int) : Nat → Int
  | 0 => t
  | j + 1 => t - f * b ^ j - 1
def bLo (b f t : Int) (j : Nat) : Int := -((-(max 1 (t - f * b ^ j))) / b ^ j) * b ^ j
def bHi (b f t : Int) (j : Nat) : Int := nwF b f t j / b ^ j * b ^ j
def bandL (b f t : Int) : Nat → List (Int × Int × Int)
  | 0 => []
  | j + 1 => bandL b f t j ++ (if bLo b f t j ≤ bHi b f t j then [(b ^ j, bLo b f t j, bHi b f t j)] else [])
def InB (b f t : Int) (j : Nat) (n : Int) : Prop := b ^ j ∣ n ∧ max 1 (t - f * b ^ j) ≤ n ∧ n ≤ nwF b f t j
theorem ceil_le {m u n : Int} (hu : 1 ≤ u) (hd : u ∣ n) : -((-m) / u) * u ≤ n ↔ m ≤ n := by
  obtain ⟨c, rfl⟩ := hd
  have h1 := Int.mul_ediv_add_emod (-m) u
  have h2 := Int.emod_nonneg (-m) (show u ≠ 0 by omega)
  have h3 := Int.emod_lt_of_pos (-m) (show 0 < u by omega)
  generalize (-m) / u = q at *
  have e : -q * u = -(u * q) := by rw [Int.neg_mul, Int.mul_comm]
  constructor
  · intro h
    omega
  · intro h
    have h4 : -(u * q) < u * (c + 1) := by
      rw [Int.mul_add, Int.mul_one]
      omega
    rw [e]
    have h5 : -q < c + 1 := by
      refine Decidable.byContradiction fun z => ?_
      have : u * (c + 1) ≤ u * (-q) := Int.mul_le_mul_of_nonneg_left (by omega) (by omega)
      rw [Int.mul_neg] at this
      omega
    have : u * (-q) ≤ u * c := Int.mul_le_mul_of_nonneg_left (by omega) (by omega)
    rw [Int.mul_neg] at this
    exact this
theorem floor_ge {m u n : Int} (hu : 1 ≤ u) (hd : u ∣ n) : n ≤ m / u * u ↔ n ≤ m := by
  obtain ⟨c, rfl⟩ := hd
  have h1 := Int.mul_ediv_add_emod m u
  have h2 := Int.emod_nonneg m (show u ≠ 0 by omega)
  have h3 := Int.emod_lt_of_pos m (show 0 < u by omega)
  generalize m / u = q at *
  constructor
  · intro h
    rw [Int.mul_comm q u] at h
    omega
  · intro h
    rw [Int.mul_comm q u]
    have h4 : u * c < u * (q + 1) := by
      rw [Int.mul_add, Int.mul_one]
      omega
    have h5 : c < q + 1 := Int.lt_of_mul_lt_mul_left h4 (by omega)
    exact Int.mul_le_mul_of_nonneg_left (by omega) (by omega)
theorem inB_iff {b f t n : Int} {j : Nat} (hb : 2 ≤ b) (hd : b ^ j ∣ n) : (max 1 (t - f * b ^ j) ≤ n ∧ n ≤ nwF b f t j) ↔ (bLo b f t j ≤ n ∧ n ≤ bHi b f t j) := by
  have hu := pow_pos (b := b) (by omega) j
  unfold bLo bHi
  rw [ceil_le hu hd, floor_ge hu hd]
theorem lo_in {b f t : Int} {j : Nat} (hb : 2 ≤ b) (h : bLo b f t j ≤ bHi b f t j) : InB b f t j (bLo b f t j) := by
  have hd : b ^ j ∣ bLo b f t j := ⟨-((-(max 1 (t - f * b ^ j))) / b ^ j), Int.mul_comm _ _⟩
  exact ⟨hd, (inB_iff hb hd).mpr ⟨Int.le_refl _, h⟩⟩
theorem hi_in {b f t : Int} {j : Nat} (hb : 2 ≤ b) (h : bLo b f t j ≤ bHi b f t j) : InB b f t j (bHi b f t j) := by
  have hd : b ^ j ∣ bHi b f t j := ⟨nwF b f t j / b ^ j, Int.mul_comm _ _⟩
  exact ⟨hd, (inB_iff hb hd).mpr ⟨h, Int.le_refl _⟩⟩
theorem nw_le {b f t : Int} (hb : 2 ≤ b) (hf : 1 ≤ f) : ∀ j, nwF b f t j ≤ t
  | 0 => Int.le_refl _
  | j + 1 => by
    have hu := pow_pos (b := b) (by omega) j
    have : 0 ≤ f * b ^ j := Int.mul_nonneg (by omega) (by omega)
    show t - f * b ^ j - 1 ≤ t
    omega
theorem inB_kept {b f t n : Int} {j : Nat} (hb : 2 ≤ b) (hf : 1 ≤ f) (h : InB b f t j n) : keptB b f n t = true ∧ 1 ≤ n := by
  obtain ⟨h1, h2, h3⟩ := h
  have hn : 1 ≤ n := by omega
  refine ⟨(kept_iff hn).mpr ⟨Int.le_trans h3 (nw_le hb hf j), ?_⟩, hn⟩
  have hu := (dvd_iff hb hn ⟨j, rfl⟩).mp h1
  have : f * b ^ j ≤ f * unitF b n := Int.mul_le_mul_of_nonneg_left hu (by omega)
  omega
theorem pow_dvd_succ {b n : Int} {j : Nat} (h : b ^ (j + 1) ∣ n) : b ^ j ∣ n := Int.dvd_trans ⟨b, Int.pow_succ b j⟩ h
theorem inB_min {b f t n : Int} (hn : 1 ≤ n) (hnt : n ≤ t) : ∀ j : Nat, t - n ≤ f * b ^ j → b ^ j ∣ n → ∃ i, i ≤ j ∧ InB b f t i n
  | 0, h, hd => ⟨0, Nat.le_refl _, hd, by omega, hnt⟩
  | j + 1, h, hd => by
    by_cases q : t - n ≤ f * b ^ j
    · obtain ⟨i, hi, h2⟩ := inB_min hn hnt j q (pow_dvd_succ hd)
      exact ⟨i, by omega, h2⟩
    · exact ⟨j + 1, Nat.le_refl _, hd, by omega, by show n ≤ t - f * b ^ j - 1; omega⟩
theorem pow_mono2 {b : Int} (hb : 2 ≤ b) : ∀ {i j : Nat}, i ≤ j → b ^ i ≤ b ^ j
  | i, 0, h => by
    obtain rfl : i = 0 := by omega
    exact Int.le_refl _
  | i, j + 1, h => by
    by_cases q : i = j + 1
    · rw [q]
      exact Int.le_refl _
    · have h1 := pow_mono2 hb (i := i) (j := j) (by omega)
      have hu := pow_pos (b := b) (by omega) j
      have : b ^ j * 1 ≤ b ^ j * b := Int.mul_le_mul_of_nonneg_left (by omega) (by omega)
      rw [Int.pow_succ]
      omega
theorem kept_inB {b f t n : Int} {k : Nat} (hb : 2 ≤ b) (hf : 1 ≤ f) (hk : t < b ^ (k + 1)) (hn : 1 ≤ n) (h : keptB b f n t = true) : ∃ j, j < k + 1 ∧ InB b f t j n := by
  have hi := (kept_iff hn).mp h
  obtain ⟨j, hj⟩ : IsPow b (unitF b n) := unitF_pow
  have hd : b ^ j ∣ n := hj ▸ unitF_dvd
  have hu := unitF_le (b := b) (n := n) hn
  obtain ⟨i, hij, h2⟩ := inB_min (f := f) hn hi.1 j (by rw [← hj]; omega) hd
  refine ⟨i, ?_, h2⟩
  have : j < k + 1 := Nat.lt_of_not_le fun q => by
    have := pow_mono2 hb q
    omega
  omega
theorem inB_order {b f t n m : Int} {i j : Nat} (hb : 2 ≤ b) (hf : 1 ≤ f) (hij : i < j) (hn : InB b f t i n) (hm : InB b f t j m) : m < n := by
  obtain ⟨j, rfl⟩ : ∃ q, j = q + 1 := ⟨j - 1, by omega⟩
  have h1 : m ≤ t - f * b ^ j - 1 := hm.2.2
  have h2 : t - f * b ^ i ≤ n := by
    have := hn.2.1
    omega
  have h3 : f * b ^ i ≤ f * b ^ j := Int.mul_le_mul_of_nonneg_left (pow_mono2 hb (by omega)) (by omega)
  omega
/-- neighbours -/
def IsCn (b f t x y : Int) : Prop := 0 ≤ x ∧ x < y ∧ keptB b f x t = true ∧ keptB b f y t = true ∧ ∀ n, x < n → n < y → ¬ keptB b f n t = true
theorem IsCn.low {b f t x y z : Int} (h : IsCn b f t x y) (k : IsCn b f t z y) : x = z := by
  rcases Int.lt_trichotomy x z with q | q | q
  · exact absurd k.2.2.1 (h.2.2.2.2 z q k.2.1)
  · exact q
  · exact absurd h.2.2.1 (k.2.2.2.2 x q h.2.1)
def stepW (s : List (Int × Int) × Int) (r : Int × Int × Int) : List (Int × Int) × Int := ((s.1 ++ [(s.2, r.2.1)]) ++ (if r.2.1 < r.2.2 then [(r.2.1, r.2.1 + r.1)] else []), r.2.2)
structure WI (b f t : Int) (J : Nat) (s : List (Int × Int) × Int) : Prop where
  bk : keptB b f s.2 t = true ∧ 0 ≤ s.2
  rem : ∀ n, keptB b f n t = true → s.2 < n → ∃ j, j < J ∧ InB b f t j n
  ab : ∀ j, j < J → ∀ n, InB b f t j n → s.2 < n
  cons : ∀ p ∈ s.1, IsCn b f t p.1 p.2 ∧ p.2 ≤ s.2
  srt : s.1.Pairwise (fun p q => p.1 < q.1)
  cov : ∀ x y, IsCn b f t x y → y ≤ s.2 → ∃ p ∈ s.1, p.2 - p.1 = y - x ∧ p.1 ≤ x
theorem WI.zero {b f t : Int} {k : Nat} (hb : 2 ≤ b) (hf : 1 ≤ f) (ht : 0 ≤ t) (hk : t < b ^ (k + 1)) : WI b f t (k + 1) ([], 0) where
  bk := ⟨keptB_zero ht, Int.le_refl _⟩
  rem := fun n h h0 => kept_inB hb hf hk (by have : (0 : Int) < n := h0; omega) h
  ab := fun j _ n h => by
    have := (inB_kept hb hf h).2
    show (0 : Int) < n
    omega
  cons := fun p h => nomatch h
  srt := .nil
  cov := fun x y h h0 => by
    have h1 := h.1
    have h2 := h.2.1
    have h0 : y ≤ 0 := h0
    omega
theorem WI.no {b f t : Int} {J : Nat} {s : List (Int × Int) × Int} (hb : 2 ≤ b) (h : WI b f t (J + 1) s) (hl : ¬ bLo b f t J ≤ bHi b f t J) : WI b f t J s where
  bk := h.bk
  rem := fun n hn h0 => by
    obtain ⟨j, hj, hi⟩ := h.rem n hn h0
    refine ⟨j, Nat.lt_of_le_of_ne (by omega) fun e => ?_, hi⟩
    subst e
    have := (inB_iff hb hi.1).mp hi.2
    omega
  ab := fun j hj => h.ab j (by omega)
  cons := h.cons
  srt := h.srt
  cov := h.cov
theorem WI.yes {b f t : Int} {J : Nat} {s : List (Int × Int) × Int} (hb : 2 ≤ b) (hf : 1 ≤ f) (h : WI b f t (J + 1) s) (hl : bLo b f t J ≤ bHi b f t J) : WI b f t J (stepW s (b ^ J, bLo b f t J, bHi b f t J)) := by
  have hu := pow_pos (b := b) (by omega) J
  have hlo := lo_in hb hl
  have hhi := hi_in hb hl
  have hlk := inB_kept hb hf hlo
  have hhk := inB_kept hb hf hhi
  have hb1 := h.ab J (by omega) _ hlo
  -- a kept number above s.2 and up to hi is in band J
  have inJ : ∀ n, keptB b f n t = true → s.2 < n → n ≤ bHi b f t J → InB b f t J n := fun n hn h0 h1 => by
    obtain ⟨j, hj, hi⟩ := h.rem n hn h0
    rcases Nat.lt_or_ge j J with q | q
    · have := inB_order hb hf q hi hhi
      omega
    · obtain rfl : j = J := by omega
      exact hi
  have lo_le : ∀ n, InB b f t J n → bLo b f t J ≤ n := fun n hn => ((inB_iff hb hn.1).mp hn.2).1
  have c1 : IsCn b f t s.2 (bLo b f t J) := ⟨h.bk.2, hb1, h.bk.1, hlk.1, fun n h1 h2 h3 => by
    have := lo_le n (inJ n h3 h1 (by omega))
    omega⟩
  have c2 : bLo b f t J < bHi b f t J → InB b f t J (bLo b f t J + b ^ J) ∧ IsCn b f t (bLo b f t J) (bLo b f t J + b ^ J) := fun q => by
    have hd : b ^ J ∣ bLo b f t J + b ^ J := Int.dvd_add hlo.1 (Int.dvd_refl _)
    have h3 := dvd_gap hu hlo.1 hhi.1 q
    have h4 : InB b f t J (bLo b f t J + b ^ J) := ⟨hd, (inB_iff hb hd).mpr ⟨by omega, h3⟩⟩
    refine ⟨h4, by omega, by omega, hlk.1, (inB_kept hb hf h4).1, fun n h1 h2 h5 => ?_⟩
    have h6 := inJ n h5 (by omega) (by omega)
    have := dvd_gap hu hlo.1 h6.1 h1
    omega
  refine ⟨⟨hhk.1, by show 0 ≤ bHi b f t J; omega⟩, fun n hn h0 => ?_, fun j hj n hn => inB_order hb hf hj hn hhi, fun p hp => ?_, ?_, fun x y hxy hy => ?_⟩
  · have h0 : bHi b f t J < n := h0
    obtain ⟨j, hj, hi⟩ := h.rem n hn (by omega)
    refine ⟨j, Nat.lt_of_le_of_ne (by omega) fun e => ?_, hi⟩
    subst e
    have := ((inB_iff hb hi.1).mp hi.2).2
    omega
  · rcases List.mem_append.mp hp with hp | hp
    · rcases List.mem_append.mp hp with hp | hp
      · have := h.cons p hp
        exact ⟨this.1, by show p.2 ≤ bHi b f t J; omega⟩
      · obtain rfl : p = (s.2, bLo b f t J) := by simpa using hp
        exact ⟨c1, hl⟩
    · split at hp
      · rename_i q
        have q : bLo b f t J < bHi b f t J := q
        obtain rfl : p = (bLo b f t J, bLo b f t J + b ^ J) := by simpa using hp
        have := c2 q
        exact ⟨this.2, ((inB_iff hb this.1.1).mp this.1.2).2⟩
      · cases hp
  · show (((s.1 ++ [(s.2, bLo b f t J)]) ++ (if bLo b f t J < bHi b f t J then [(bLo b f t J, bLo b f t J + b ^ J)] else [])).Pairwise _)
    have hp1 : ∀ p ∈ s.1, p.1 < s.2 := fun p hp => by
      have := h.cons p hp
      have := this.1.2.1
      omega
    rw [List.pairwise_append, List.pairwise_append]
    refine ⟨⟨h.srt, List.pairwise_singleton _ _, fun p hp q hq => ?_⟩, ?_, fun p hp q hq => ?_⟩
    · obtain rfl : q = (s.2, bLo b f t J) := by simpa using hq
      exact hp1 p hp
    · split
      · exact List.pairwise_singleton _ _
      · exact .nil
    · split at hq
      · obtain rfl : q = (bLo b f t J, bLo b f t J + b ^ J) := by simpa using hq
        rcases List.mem_append.mp hp with hp | hp
        · have := hp1 p hp
          show p.1 < bLo b f t J
          omega
        · obtain rfl : p = (s.2, bLo b f t J) := by simpa using hp
          exact hb1
      · cases hq
  · have hy : y ≤ bHi b f t J := hy
    by_cases q : y ≤ s.2
    · obtain ⟨p, hp, h1, h2⟩ := h.cov x y hxy q
      exact ⟨p, List.mem_append_left _ (List.mem_append_left _ hp), h1, h2⟩
    · have hyJ := inJ y hxy.2.2.2.1 (by omega) hy
      have hly := lo_le y hyJ
      by_cases e : y = bLo b f t J
      · subst e
        have := hxy.low c1
        exact ⟨(s.2, bLo b f t J), List.mem_append_left _ (List.mem_append_right _ (by simp)), by rw [this], by show s.2 ≤ x; omega⟩
      · have h5 := dvd_gap hu hlo.1 hyJ.1 (by omega)
        have hd : b ^ J ∣ y - b ^ J := Int.dvd_sub hyJ.1 (Int.dvd_refl _)
        have h6 : InB b f t J (y - b ^ J) := ⟨hd, (inB_iff hb hd).mpr ⟨by omega, by omega⟩⟩
        have h7 : IsCn b f t (y - b ^ J) y := ⟨by omega, by omega, (inB_kept hb hf h6).1, hxy.2.2.2.1, fun n h1 h2 h3 => by
          have h8 := inJ n h3 (by omega) (by omega)
          have := dvd_gap hu h6.1 h8.1 h1
          omega⟩
        have h9 := hxy.low h7
        have hlt : bLo b f t J < bHi b f t J := by omega
        refine ⟨(bLo b f t J, bLo b f t J + b ^ J), List.mem_append_right _ ?_, by show bLo b f t J + b ^ J - bLo b f t J = y - x; omega, by show bLo b f t J ≤ x; omega⟩
        show _ ∈ (if bLo b f t J < bHi b f t J then [(bLo b f t J, bLo b f t J + b ^ J)] else [])
        rw [if_pos hlt]
        simp
theorem WI.fold {b f t : Int} (hb : 2 ≤ b) (hf : 1 ≤ f) : ∀ (J : Nat) (s : List (Int × Int) × Int), WI b f t J s → WI b f t 0 ((bandL b f t J).reverse.foldl stepW s)
  | 0, s, h => h
  | J + 1, s, h => by
    unfold bandL
    rw [List.reverse_append, List.foldl_append]
    split
    · rename_i q
      exact WI.fold hb hf J _ (h.yes hb hf q)
    · rename_i q
      exact WI.fold hb hf J _ (h.no hb q)
/-- the pairs that the program makes -/
def pairsW (b f t : Int) (k : Nat) : List (Int × Int) := ((bandL b f t (k + 1)).reverse.foldl stepW ([], 0)).1
def IsWG (b f t x y : Int) : Prop := IsCn b f t x y ∧ ∀ x' y', IsCn b f t x' y' → y' - x' < y - x ∨ (y' - x' = y - x ∧ x ≤ x')
theorem IsWG.uniq {b f t x y z w : Int} (h : IsWG b f t x y) (k : IsWG b f t z w) : x = z ∧ y = w := by
  have h1 := h.2 z w k.1
  have h2 := k.2 x y h.1
  omega
theorem cn_ex {b f t : Int} (hb : 2 ≤ b) (hf : 1 ≤ f) (ht : 1 ≤ t) : ∃ x, IsCn b f t x t := by
  have hn := newF_is (b := b) (f := f) (s := t - 1) (t := t) (by omega) (by omega)
  refine ⟨newF b f (t - 1) t, hn.1, by have := hn.2.1; omega, hn.2.2.1, kept_self hb (by omega) (by omega), fun n h1 h2 h3 => ?_⟩
  have := hn.2.2.2 n (by have := hn.1; omega) (by omega) h3
  omega
theorem pairs_all {b f t : Int} {k : Nat} (hb : 2 ≤ b) (hf : 1 ≤ f) (ht : 0 ≤ t) (hk : t < b ^ (k + 1)) :
    (∀ p ∈ pairsW b f t k, IsCn b f t p.1 p.2) ∧ (pairsW b f t k).Pairwise (fun p q => p.1 < q.1) ∧ ∀ x y, IsCn b f t x y → ∃ p ∈ pairsW b f t k, p.2 - p.1 = y - x ∧ p.1 ≤ x := by
  have h := WI.fold hb hf (k + 1) ([], 0) (WI.zero hb hf ht hk)
  have hs : t ≤ ((bandL b f t (k + 1)).reverse.foldl stepW ([], 0)).2 := Decidable.byContradiction fun q => by
    obtain ⟨j, hj, _⟩ := h.rem t (kept_self hb (by omega) ht) (by omega)
    omega
  exact ⟨fun p hp => (h.cons p hp).1, h.srt, fun x y hxy => h.cov x y hxy (Int.le_trans (kept_le hxy.2.2.2.1) hs)⟩
theorem pairs_nil {b f t : Int} {k : Nat} (hb : 2 ≤ b) (hf : 1 ≤ f) (ht : 0 ≤ t) (hk : t < b ^ (k + 1)) (w : Int) (hw : ∀ p ∈ pairsW b f t k, p.2 - p.1 ≤ w) (hm : pairsW b f t k = [] ∨ ∃ p ∈ pairsW b f t k, p.2 - p.1 = w)
    (h : (pairsW b f t k).filter (fun p => decide (p.2 - p.1 = w)) = []) : t = 0 := by
  rcases hm with hm | ⟨p, hp, hq⟩
  · refine Decidable.byContradiction fun q => ?_
    obtain ⟨x, hx⟩ := cn_ex (b := b) (f := f) (t := t) hb hf (by omega)
    obtain ⟨p, hp, _⟩ := (pairs_all hb hf ht hk).2.2 x t hx
    rw [hm] at hp
    cases hp
  · have := List.filter_eq_nil_iff.mp h p hp
    simp [hq] at this
theorem pairs_first {b f t x y : Int} {k : Nat} {r : List (Int × Int)} (hb : 2 ≤ b) (hf : 1 ≤ f) (ht : 0 ≤ t) (hk : t < b ^ (k + 1)) (w : Int) (hw : ∀ p ∈ pairsW b f t k, p.2 - p.1 ≤ w)
    (h : (pairsW b f t k).filter (fun p => decide (p.2 - p.1 = w)) = (x, y) :: r) : IsWG b f t x y := by
  obtain ⟨h1, h2, h3⟩ := pairs_all hb hf ht hk
  have hmem : (x, y) ∈ (pairsW b f t k).filter (fun p => decide (p.2 - p.1 = w)) := by rw [h]; simp
  obtain ⟨m1, m2⟩ := List.mem_filter.mp hmem
  have m2 : y - x = w := of_decide_eq_true m2
  refine ⟨h1 _ m1, fun x' y' hc => ?_⟩
  obtain ⟨p, hp, e1, e2⟩ := h3 x' y' hc
  have hpw := hw p hp
  by_cases e : p.2 - p.1 = w
  · refine .inr ⟨by omega, ?_⟩
    have hpf : p ∈ (pairsW b f t k).filter (fun p => decide (p.2 - p.1 = w)) := List.mem_filter.mpr ⟨hp, decide_eq_true e⟩
    have hs := h2.filter (fun p => decide (p.2 - p.1 = w))
    rw [h] at hpf hs
    rcases List.mem_cons.mp hpf with q | q
    · rw [q] at e2
      exact e2
    · have := (List.pairwise_cons.mp hs).1 p q
      have : x < p.1 := this
      omega
  · exact .inl (by omega)
/-! ### the law's own list of gaps -/
theorem zip_cn {ks : List Int} (hs : ks.Pairwise (· < ·)) : ∀ x y, (x, y) ∈ ks.zip ks.tail ↔ (x ∈ ks ∧ y ∈ ks ∧ x < y ∧ ∀ n ∈ ks, ¬ (x < n ∧ n < y)) := by
  induction ks with
  | nil => simp
  | cons a r ih =>
    cases r with
    | nil =>
      intro x y
      simp
      intro h1 h2
      omega
    | cons c r =>
      have hs' := List.pairwise_cons.mp hs
      have hac := hs'.1 c (by simp)
      intro x y
      have hz : (a :: c :: r).zip (a :: c :: r).tail = (a, c) :: (c :: r).zip (c :: r).tail := rfl
      rw [hz, List.mem_cons, ih hs'.2 x y]
      constructor
      · rintro (h | ⟨h1, h2, h3, h4⟩)
        · injection h with e1 e2
          subst e1 e2
          refine ⟨by simp, by simp, hac, fun n hn hq => ?_⟩
          rcases List.mem_cons.mp hn with q | q
          · omega
          · rcases List.mem_cons.mp q with q | q
            · omega
            · have := (List.pairwise_cons.mp hs'.2).1 n q
              omega
        · refine ⟨List.mem_cons_of_mem _ h1, List.mem_cons_of_mem _ h2, h3, fun n hn hq => ?_⟩
          rcases List.mem_cons.mp hn with q | q
          · have := hs'.1 x h1
            omega
          · exact h4 n q hq
      · rintro ⟨h1, h2, h3, h4⟩
        rcases List.mem_cons.mp h1 with q | q
        · subst q
          refine .inl ?_
          rcases List.mem_cons.mp h2 with q | q
          · omega
          · rcases List.mem_cons.mp q with q | q
            · rw [q]
            · have := (List.pairwise_cons.mp hs'.2).1 y q
              exact absurd ⟨hac, this⟩ (h4 c (by simp))
        · refine .inr ⟨q, ?_, h3, fun n hn => h4 n (List.mem_cons_of_mem _ hn)⟩
          rcases List.mem_cons.mp h2 with z | z
          · have := hs'.1 x q
            omega
          · exact z
theorem zip_kept {b f t x y : Int} : (x, y) ∈ (keptL b f t).zip (keptL b f t).tail ↔ IsCn b f t x y := by
  rw [zip_cn (keptL_sorted b f t)]
  constructor
  · rintro ⟨h1, h2, h3, h4⟩
    have h1 := mem_keptL.mp h1
    have h2 := mem_keptL.mp h2
    exact ⟨h1.1, h3, h1.2, h2.2, fun n q1 q2 q3 => h4 n (mem_keptL.mpr ⟨by omega, q3⟩) ⟨q1, q2⟩⟩
  · rintro ⟨h0, h1, h2, h3, h4⟩
    exact ⟨mem_keptL.mpr ⟨h0, h2⟩, mem_keptL.mpr ⟨by omega, h3⟩, h1, fun n hn q => h4 n q.1 q.2 (mem_keptL.mp hn).2⟩
def gapsW (b f t : Int) : List (Int × Int × Int) := ((keptL b f t).zip (keptL b f t).tail).map fun p => (p.1 - p.2, p.1, p.2)
def ltT (y x : Int × Int × Int) : Prop := y.1 < x.1 ∨ (y.1 = x.1 ∧ (y.2.1 < x.2.1 ∨ (y.2.1 = x.2.1 ∧ y.2.2 < x.2.2)))
theorem gaps_min {b f t : Int} {m : Int × Int × Int} (hm : m ∈ gapsW b f t) (hl : ∀ y ∈ gapsW b f t, ¬ ltT y m) : IsWG b f t m.2.1 m.2.2 := by
  obtain ⟨p, hp, rfl⟩ := List.mem_map.mp hm
  refine ⟨zip_kept.mp hp, fun x' y' hc => ?_⟩
  have h := hl (x' - y', x', y') (List.mem_map.mpr ⟨(x', y'), zip_kept.mpr hc, rfl⟩)
  unfold ltT at h
  dsimp only at h ⊢
  omega
theorem gaps_nil {b f t : Int} (hb : 2 ≤ b) (hf : 1 ≤ f) (ht : 0 ≤ t) (h : gapsW b f t = []) : t = 0 := by
  refine Decidable.byContradiction fun q => ?_
  obtain ⟨x, hx⟩ := cn_ex (b := b) (f := f) (t := t) hb hf (by omega)
  have hm : (x - t, x, t) ∈ gapsW b f t := List.mem_map.mpr ⟨(x, t), zip_kept.mpr hx, rfl⟩
  rw [h] at hm
  cases hm
theorem gaps_some {b f t : Int} (ht : t = 0) : gapsW b f t = [] := by
  subst ht
  refine List.eq_nil_iff_forall_not_mem.mpr fun m hm => ?_
  obtain ⟨p, hp, rfl⟩ := List.mem_map.mp hm
  have h := zip_kept.mp hp
  have h1 := kept_le h.2.2.2.1
  have h2 := h.1
  have h3 := h.2.1
  omega
end Ma
namespace Ma
open Kr L2
def foldW (b f t : Int) (k i : Nat) : List (Int × Int) × Int := ((bandL b f t (k + 1)).reverse.take i).foldl stepW ([], 0)
theorem foldW_succ {b f t : Int} {k i : Nat} {r : Int × Int × Int} (h : (bandL b f t (k + 1)).reverse[i]? = some r) : foldW b f t k (i + 1) = stepW (foldW b f t k i) r := by
  unfold foldW
  rw [List.take_add_one, h, List.foldl_append]
  rfl
theorem foldW_all {b f t : Int} {k : Nat} : (foldW b f t k (bandL b f t (k + 1)).reverse.length).1 = pairsW b f t k := by
  unfold foldW pairsW
  rw [List.take_length]
theorem fold_yes {b f t x u y1 y2 : Int} {k i : Nat} (h : (bandL b f t (k + 1)).reverse[i]? = some (u, y1, y2)) (hx : x = (foldW b f t k i).2) (hl : y1 < y2) :
    ((foldW b f t k i).1.map row2 ++ [[V.int x, V.int y1]]) ++ [[V.int y1, V.int (y1 + u)]] = (foldW b f t k (i + 1)).1.map row2 := by
  rw [foldW_succ h]
  unfold stepW
  dsimp only
  rw [if_pos hl, hx, List.map_append, List.map_append]
  rfl
theorem fold_no {b f t x u y1 y2 : Int} {k i : Nat} (h : (bandL b f t (k + 1)).reverse[i]? = some (u, y1, y2)) (hx : x = (foldW b f t k i).2) (hl : ¬ y1 < y2) :
    (foldW b f t k i).1.map row2 ++ [[V.int x, V.int y1]] = (foldW b f t k (i + 1)).1.map row2 := by
  rw [foldW_succ h]
  unfold stepW
  dsimp only
  rw [if_neg hl, hx, List.append_nil, List.map_append]
  rfl
theorem fold_len {b f t : Int} {k : Nat} : ∀ i, (foldW b f t k i).1.length ≤ 2 * i
  | 0 => by
    unfold foldW
    simp
  | i + 1 => by
    have ih := fold_len (b := b) (f := f) (t := t) (k := k) i
    cases h : (bandL b f t (k + 1)).reverse[i]? with
    | none =>
      have hl : (bandL b f t (k + 1)).reverse.length ≤ i := List.getElem?_eq_none_iff.mp h
      have : foldW b f t k (i + 1) = foldW b f t k i := by
        unfold foldW
        rw [List.take_of_length_le (by omega), List.take_of_length_le hl]
      rw [this]
      omega
    | some r =>
      rw [foldW_succ h]
      unfold stepW
      dsimp only
      rw [List.length_append, List.length_append]
      split <;> simp <;> omega
theorem band_len {b f t : Int} : ∀ k, (bandL b f t k).length ≤ k
  | 0 => Nat.le_refl _
  | k + 1 => by
    have := band_len (b := b) (f := f) (t := t) k
    unfold bandL
    rw [List.length_append]
    split <;> simp <;> omega
theorem band_yes {b f t : Int} {i : Nat} (h : bLo b f t i ≤ bHi b f t i) : (bandL b f t i).map row3 ++ [[V.int (b ^ i), V.int (bLo b f t i), V.int (bHi b f t i)]] = (bandL b f t (i + 1)).map row3 := by
  rw [bandL, if_pos h, List.map_append]
  rfl
theorem band_no {b f t : Int} {i : Nat} (h : ¬ bLo b f t i ≤ bHi b f t i) : (bandL b f t i).map row3 = (bandL b f t (i + 1)).map row3 := by
  rw [bandL, if_neg h, List.append_nil]
theorem gapsW_eq {b f t : Int} : (((keptL b f t).zip (keptL b f t).tail).filter (fun _ => true)).map (fun p => (p.1 - p.2, p.1, p.2)) = gapsW b f t := by
  rw [List.filter_eq_self.mpr (fun _ _ => rfl)]
  rfl
theorem gaps_len {b f t : Int} : (gapsW b f t).length ≤ (keptL b f t).length := by
  unfold gapsW
  rw [List.length_map, List.length_zip]
  omega
theorem cut_tail (ns : List Int) : cutV (ns.map V.int) (some 1) none = ns.tail.map V.int := by
  unfold cutV HT.sIx
  cases ns with
  | nil => rfl
  | cons n r =>
    simp
    exact List.take_of_length_le (by simp)
/-! ### the next kept number, unit by unit -/
def nxL (b f s t : Int) (k : Nat) : List Int := (List.range k).map fun j => -((-(max (s + 1) (t - f * b ^ j))) / b ^ j) * b ^ j
theorem nxL_next {b f s t : Int} {k : Nat} : nxL b f s t (k + 1) = nxL b f s t k ++ [-((-(max (s + 1) (t - f * b ^ k))) / b ^ k) * b ^ k] := by
  unfold nxL
  rw [List.range_succ, List.map_append]
  rfl
theorem nxL_app {b f s t : Int} {k : Nat} : (t :: nxL b f s t k).map V.int ++ [V.int (-((-(max (s + 1) (t - f * b ^ k))) / b ^ k) * b ^ k)] = (t :: nxL b f s t (k + 1)).map V.int := by
  rw [nxL_next, ← List.cons_append, List.map_append]
  rfl
theorem nx_min {b f s t m : Int} {k : Nat} (hb : 2 ≤ b) (hf : 1 ≤ f) (hs : 0 ≤ s) (hst : s < t) (hk : t < b ^ k) (hm : m ∈ t :: nxL b f s t k) (hl : ∀ y ∈ t :: nxL b f s t k, m ≤ y) : IsNext b f t (s + 1) m := by
  have hmt := hl t (by simp)
  have hlow : ∀ r, s + 1 ≤ r → keptB b f r t = true → m ≤ r := fun r h1 h2 => by
    have hi := (kept_iff (by omega)).mp h2
    obtain ⟨j, hj⟩ : IsPow b (unitF b r) := unitF_pow
    have hd : b ^ j ∣ r := hj ▸ unitF_dvd
    have hu := unitF_le (b := b) (n := r) (by omega)
    have hu1 := pow_pos (b := b) (by omega) j
    have hjk : j < k := Nat.lt_of_not_le fun q => by
      have := pow_mono2 hb q
      omega
    have hc : -((-(max (s + 1) (t - f * b ^ j))) / b ^ j) * b ^ j ≤ r := (ceil_le hu1 hd).mpr (by rw [← hj]; omega)
    exact Int.le_trans (hl _ (List.mem_cons_of_mem _ (List.mem_map.mpr ⟨j, List.mem_range.mpr hjk, rfl⟩))) hc
  have hk1 : s + 1 ≤ m ∧ keptB b f m t = true := by
    rcases List.mem_cons.mp hm with e | e
    · rw [e]
      exact ⟨by omega, kept_self hb (by omega) (by omega)⟩
    · obtain ⟨j, hj, e⟩ := List.mem_map.mp e
      have hu1 := pow_pos (b := b) (by omega) j
      have hd : b ^ j ∣ m := ⟨-((-(max (s + 1) (t - f * b ^ j))) / b ^ j), by rw [← e, Int.mul_comm]⟩
      have hc := (ceil_le (m := max (s + 1) (t - f * b ^ j)) hu1 hd).mp (by rw [e]; exact Int.le_refl _)
      have hm1 : 1 ≤ m := by omega
      refine ⟨by omega, (kept_iff hm1).mpr ⟨hmt, ?_⟩⟩
      have hu := (dvd_iff hb hm1 ⟨j, rfl⟩).mp hd
      have : f * b ^ j ≤ f * unitF b m := Int.mul_le_mul_of_nonneg_left hu (by omega)
      omega
  exact ⟨hk1.1, hmt, hk1.2, fun n h1 h2 h3 => by
    have := hlow n h1 h3
    omega⟩
/-- the gap around a state is no wider -/
theorem wg_state {b f t x y s m : Int} (h : IsWG b f t x y) (hs : 0 ≤ s) (hst : s < t) (hm : IsNext b f t (s + 1) m) : m - newF b f s t ≤ y - x := by
  have hn := newF_is (b := b) (f := f) (s := s) (t := t) (by omega) (by omega)
  have hc : IsCn b f t (newF b f s t) m := ⟨hn.1, by have := hn.2.1; have := hm.1; omega, hn.2.2.1, hm.2.2.1, fun n h1 h2 h3 => by
    by_cases q : n ≤ s
    · exact hn.2.2.2 n h1 q h3
    · exact hm.2.2.2 n (by omega) h2 h3⟩
  have := h.2 _ _ hc
  omega
/-- the first of a widest gap is the newest before the second -/
theorem wg_new {b f t x y : Int} (h : IsCn b f t x y) : newF b f (y - 1) t = x := by
  have hk := kept_le h.2.2.2.1
  have h0 := h.1
  have h1 := h.2.1
  have hn := newF_is (b := b) (f := f) (s := y - 1) (t := t) (by omega) (by omega)
  generalize newF b f (y - 1) t = z at *
  have h2 := hn.1
  have h3 := hn.2.1
  rcases Int.lt_trichotomy x z with q | q | q
  · exact absurd hn.2.2.1 (h.2.2.2.2 z q (by omega))
  · exact q.symm
  · exact absurd h.2.2.1 (hn.2.2.2 x q (by omega))
end Ma
namespace Ma
theorem ceil_bd {m u : Int} (hm : 0 ≤ m) (hu : 1 ≤ u) : 0 ≤ -((-m) / u) ∧ -((-m) / u) ≤ m := by
  have h1 := Int.mul_ediv_add_emod (-m) u
  have h2 := Int.emod_nonneg (-m) (show u ≠ 0 by omega)
  have h3 := Int.emod_lt_of_pos (-m) (show 0 < u by omega)
  generalize (-m) / u = q at *
  constructor
  · refine Decidable.byContradiction fun z => ?_
    have : u * 1 ≤ u * q := Int.mul_le_mul_of_nonneg_left (by omega) (by omega)
    omega
  · refine Decidable.byContradiction fun z => ?_
    have : (m + 1) * 1 ≤ (m + 1) * u := Int.mul_le_mul_of_nonneg_left hu (by omega)
    have h4 : u * (m + 1) ≤ u * (-q) := Int.mul_le_mul_of_nonneg_left (by omega) (by omega)
    rw [Int.mul_neg] at h4
    rw [Int.mul_comm] at h4
    have h5 : m * 1 ≤ m * u := Int.mul_le_mul_of_nonneg_left hu hm
    rw [Int.add_mul] at h4
    omega
theorem floor_bd {m u : Int} (hu : 1 ≤ u) : min m 0 ≤ m / u ∧ m / u ≤ max m 0 := by
  have h1 := Int.mul_ediv_add_emod m u
  have h2 := Int.emod_nonneg m (show u ≠ 0 by omega)
  have h3 := Int.emod_lt_of_pos m (show 0 < u by omega)
  generalize m / u = q at *
  constructor
  · refine Decidable.byContradiction fun z => ?_
    have h4 : u * q ≤ u * (min m 0 - 1) := Int.mul_le_mul_of_nonneg_left (by omega) (by omega)
    have h5 : (1 - min m 0) * 1 ≤ (1 - min m 0) * u := Int.mul_le_mul_of_nonneg_left hu (by omega)
    have h6 : u * (min m 0 - 1) = -((1 - min m 0) * u) := by rw [← Int.neg_mul, Int.mul_comm]; congr 1; omega
    have h7 : (1 - min m 0) * u = u + (-(min m 0)) * u := by rw [Int.sub_mul, Int.one_mul, Int.neg_mul]; omega
    have h8 : (-(min m 0)) * 1 ≤ (-(min m 0)) * u := Int.mul_le_mul_of_nonneg_left hu (by omega)
    omega
  · refine Decidable.byContradiction fun z => ?_
    have h4 : q * 1 ≤ q * u := Int.mul_le_mul_of_nonneg_left hu (by omega)
    rw [Int.mul_comm q u] at h4
    omega
theorem nw_bd {b f t nw : Int} {j : Nat} (hb : 2 ≤ b) (hf : 1 ≤ f ∧ f ≤ 1000000) (ht : 0 ≤ t ∧ t ≤ 10 ^ 60) (hu : b ^ j ≤ 10 ^ 61) (h : nw = nwF b f t j) : -(10 ^ 70) ≤ nw ∧ nw ≤ 10 ^ 70 := by
  cases j with
  | zero =>
    have h : nw = t := h
    omega
  | succ j =>
    have h : nw = t - f * b ^ j - 1 := h
    have hu1 := pow_pos (b := b) (by omega) j
    have h1 : b ^ j * 1 ≤ b ^ j * b := Int.mul_le_mul_of_nonneg_left (by omega) (by omega)
    rw [Int.pow_succ] at hu
    have h2 : f * b ^ j ≤ 1000000 * b ^ j := Int.mul_le_mul_of_nonneg_right (by omega) (by omega)
    have h3 : 0 ≤ f * b ^ j := Int.mul_nonneg (by omega) (by omega)
    omega
theorem pairs_len {b f t : Int} {k : Nat} : (pairsW b f t k).length ≤ 2 * (k + 1) := by
  rw [← foldW_all]
  have h1 := fold_len (b := b) (f := f) (t := t) (k := k) (bandL b f t (k + 1)).reverse.length
  have h2 := band_len (b := b) (f := f) (t := t) (k + 1)
  rw [List.length_reverse] at h1
  rw [List.length_reverse]
  omega
end Ma
namespace Ma
open Kr L2
theorem band_yesE {b f t : Int} (i : Nat) (h : -((-(max 1 (t - f * b ^ i))) / b ^ i) * b ^ i ≤ nwF b f t i / b ^ i * b ^ i) : (bandL b f t i).map row3 ++ [[V.int (b ^ i), V.int (-((-(max 1 (t - f * b ^ i))) / b ^ i) * b ^ i), V.int (nwF b f t i / b ^ i * b ^ i)]] = (bandL b f t (i + 1)).map row3 := band_yes h
theorem band_noE {b f t : Int} (i : Nat) (h : ¬ -((-(max 1 (t - f * b ^ i))) / b ^ i) * b ^ i ≤ nwF b f t i / b ^ i * b ^ i) : (bandL b f t i).map row3 = (bandL b f t (i + 1)).map row3 := band_no h
end Ma
namespace Ma
theorem wg_pos {b f t x y : Int} (h : IsWG b f t x y) : 1 ≤ t := by
  have h1 := h.1.1
  have h2 := h.1.2.1
  have h3 := kept_le h.1.2.2.2.1
  omega
end Ma

set_option Elab.async false
set_option linter.all false
set_option maxRecDepth 100000
set_option maxHeartbeats 4000000
namespace Sn
open PySem L2 Kr
def topS (i : Nat) : Stmt := PySem.Challenge.pw_snapdigits_k23_widest_gaps.main.body.getD i (.Pass ⟨0, 0, 0, 0⟩)
abbrev s__law_mixed : Stmt := topS 24
abbrev s__law_draw : Stmt := topS 26
abbrev s__law_one : Stmt := topS 27
abbrev s__law_wide : Stmt := topS 31
abbrev s_is_integer : Stmt := topS 9
abbrev s_is_between : Stmt := topS 10
abbrev s_Scheme_init : Stmt := inClass (topS 22) 0
abbrev s_check_time : Stmt := topS 12
abbrev s_units : Stmt := topS 7
abbrev s_Scheme_base : Stmt := inClass (topS 22) 2
abbrev s_Scheme_factor : Stmt := inClass (topS 22) 3
abbrev s_bands : Stmt := topS 17
abbrev s_widest_gap : Stmt := topS 18
abbrev s_check_age : Stmt := topS 15
abbrev s_newest_up_to : Stmt := topS 14
abbrev s_restore_point : Stmt := topS 16
abbrev s_check_number : Stmt := topS 11
abbrev s_Scheme_unit : Stmt := inClass (topS 22) 4
abbrev s_Scheme_last_time : Stmt := inClass (topS 22) 11
abbrev s_Scheme_is_kept : Stmt := inClass (topS 22) 12
abbrev s__law_powers : Stmt := topS 32
abbrev s__law_next : Stmt := topS 36
abbrev s__law_newest : Stmt := topS 34
abbrev s__law_pile : Stmt := topS 28
abbrev s__law_big : Stmt := topS 29
abbrev s__law_far_right : Stmt := topS 37
abbrev s__law_stock : Stmt := topS 33
abbrev s__law_listed : Stmt := topS 35
abbrev s__law_near : Stmt := topS 30
abbrev s__law_right : Stmt := topS 38
abbrev s__law_well : Stmt := topS 25
abbrev s_law : Stmt := topS 39
structure Top (K : PySem.W.Frag) (mg : Str → Option Value) (CS : Addr) : Prop where
  b_bool : mg "bool" = none
  b_int : mg "int" = none
  b_isinstance : mg "isinstance" = none
  b_len : mg "len" = none
  b_max : mg "max" = none
  b_min : mg "min" = none
  b_range : mg "range" = none
  b_reversed : mg "reversed" = none
  b_sorted : mg "sorted" = none
  b_zip : mg "zip" = none
  c_MOST_BASE : ∃ t, mg "MOST_BASE" = some (.int 1000 t)
  c_MOST_FACTOR : ∃ t, mg "MOST_FACTOR" = some (.int 1000000 t)
  cl_Scheme : Cls K CS
  n_Scheme_radix : NoAttr K CS "radix"
  n_Scheme_multiple : NoAttr K CS "multiple"
  f__law_mixed : TopFn K mg "_law_mixed" s__law_mixed
  f__law_draw : TopFn K mg "_law_draw" s__law_draw
  f__law_one : TopFn K mg "_law_one" s__law_one
  f__law_wide : TopFn K mg "_law_wide" s__law_wide
  f_is_integer : TopFn K mg "is_integer" s_is_integer
  f_is_between : TopFn K mg "is_between" s_is_between
  f_Scheme_init : InitFn K mg "Scheme" CS "Scheme.__init__" s_Scheme_init
  f_check_time : TopFn K mg "check_time" s_check_time
  f_units : TopFn K mg "units" s_units
  f_Scheme_base : MethFn K CS "base" "Scheme.base" s_Scheme_base
  f_Scheme_factor : MethFn K CS "factor" "Scheme.factor" s_Scheme_factor
  f_bands : TopFn K mg "bands" s_bands
  f_widest_gap : TopFn K mg "widest_gap" s_widest_gap
  f_check_age : TopFn K mg "check_age" s_check_age
  f_newest_up_to : TopFn K mg "newest_up_to" s_newest_up_to
  f_restore_point : TopFn K mg "restore_point" s_restore_point
  f_check_number : TopFn K mg "check_number" s_check_number
  f_Scheme_unit : MethFn K CS "unit" "Scheme.unit" s_Scheme_unit
  f_Scheme_last_time : MethFn K CS "last_time" "Scheme.last_time" s_Scheme_last_time
  f_Scheme_is_kept : MethFn K CS "is_kept" "Scheme.is_kept" s_Scheme_is_kept
  f__law_powers : TopFn K mg "_law_powers" s__law_powers
  f__law_next : TopFn K mg "_law_next" s__law_next
  f__law_newest : TopFn K mg "_law_newest" s__law_newest
  f__law_pile : TopFn K mg "_law_pile" s__law_pile
  f__law_big : TopFn K mg "_law_big" s__law_big
  f__law_far_right : TopFn K mg "_law_far_right" s__law_far_right
  f__law_stock : TopFn K mg "_law_stock" s__law_stock
  f__law_listed : TopFn K mg "_law_listed" s__law_listed
  f__law_near : TopFn K mg "_law_near" s__law_near
  f__law_right : TopFn K mg "_law_right" s__law_right
  f__law_well : TopFn K mg "_law_well" s__law_well
  f_law : TopFn K mg "law" s_law

/-! ### sizes -/
theorem log2_big {x : Int} (h1 : -(10 ^ 200) ≤ x) (h2 : x ≤ 10 ^ 200) : x.natAbs < 2 ^ 700 := by
  have h : (10 ^ 200 : Nat) < 2 ^ 700 := by decide +kernel
  have e : ((10 ^ 200 : Nat) : Int) = 10 ^ 200 := by norm_cast
  exact Nat.lt_of_le_of_lt (by omega) h
theorem mulOk {i j : Int} (h1 : -(10 ^ 200) ≤ i ∧ i ≤ 10 ^ 200) (h2 : -(10 ^ 200) ≤ j ∧ j ≤ 10 ^ 200) : CMulW i j :=
  wide_mul (log2_big h1.1 h1.2) (log2_big h2.1 h2.2) (by decide) (by decide) (by decide)
theorem mulOk1 {i j : Int} (h1 : i.natAbs < 2 ^ 500000) (h2 : -(10 ^ 200) ≤ j ∧ j ≤ 10 ^ 200) : CMulW i j :=
  wide_mul h1 (log2_big h2.1 h2.2) (by decide) (by decide) (by decide)
theorem divOk {i j : Int} (h : 0 < j ∧ j ≤ 10 ^ 200) : CDivW i j := wide_div h.1 (log2_big (by omega) h.2) (by decide) (by decide)
theorem powOk {i j : Int} (h : 0 ≤ j ∧ j ≤ 1000 ∧ 0 ≤ i ∧ i < 2 ^ 63) : CPow i j := ⟨h.1, by omega, by omega⟩

/-! ### a scheme's attributes -/
def scF (b f : Int) : List (Str × V) := putF "multiple" (.int f) (putF "radix" (.int b) [])
theorem scF_ne : ¬ (("radix" : Str) = "multiple") := by decide +kernel
theorem scF_radix (b f : Int) : (scF b f).lookup ("radix" : Str) = some (.int b) := by
  unfold scF
  rw [lookup_putF, if_neg scF_ne, lookup_putF, if_pos rfl]
theorem scF_multiple (b f : Int) : (scF b f).lookup ("multiple" : Str) = some (.int f) := by
  unfold scF
  rw [lookup_putF, if_pos rfl]
theorem scF_no (b f : Int) {m : Str} (h1 : ¬ m = "multiple") (h2 : ¬ m = "radix") : (scF b f).lookup m = none := by
  unfold scF
  rw [lookup_putF, if_neg h1, lookup_putF, if_neg h2]
  all_goals rfl
def SchOk (b f : Int) : Prop := 2 ≤ b ∧ b ≤ 1000 ∧ 1 ≤ f ∧ f ≤ 1000000

section
variable {K : PySem.W.Frag} {g : Gr} {L : Led} {C : V → Led → Prop} {σ : St}
theorem wc_isi_int {n : Int} (c : C (.bl true) L) : Wp g L (rIsi K [.int n, .ty "int"]) C :=
  .now (fun H _ _ q => ⟨.int n, .ty "int", _, _, true, rfl, .ty _, .base (.int n), kit_ty (by decide +kernel), q⟩) c
theorem wc_isi_bool {n : Int} (c : C (.bl false) L) : Wp g L (rIsi K [.int n, .ty "bool"]) C :=
  .now (fun H _ _ q => ⟨.int n, .ty "bool", _, _, false, rfl, .ty _, .base (.int n), kit_ty (by decide +kernel), q⟩) c
end
theorem op_in_seqK {X : Cx} {Kf : PySem.W.Frag} (hK : X.K = Kf) : OpR X (compareOp .In) (rIn Kf false) := hK ▸ op_in_seq
theorem op_notIn_seqK {X : Cx} {Kf : PySem.W.Frag} (hK : X.K = Kf) : OpR X (compareOp .NotIn) (rIn Kf true) := hK ▸ op_notIn_seq
def sp_Scheme_init (CS : Addr) : Sp := fun vs H Q _ => ∃ (p dx : Addr) (b f : Int), vs = [.ref p, .int b, .int f] ∧ H p = some (.ins CS dx []) ∧ SchOk b f ∧
  ∀ H' : Hp, H' p = some (.ins CS dx (scF b f)) → (∀ q o, H q = some o → q ≠ p → H' q = some o) → Q .non H'
theorem wm_Scheme {CS : Addr} {g : Gr} {L : Led} {C : V → Led → Prop} {σ : St} {E : XK} {tr : TA}
    (h : Wp g L (tr σ) fun vs L1 => ∃ b f : Int, vs = [.int b, .int f] ∧ SchOk b f ∧ ∀ p dx, C (.ref p) (L1 ++ [(p, .ob (.ins CS dx (scF b f)), true)])) : Wp g L (tMake CS (sp_Scheme_init CS) [] E tr σ) C :=
  fun H z Q q => h H z _ fun vs L1 H1 ⟨b, f, e, hs, k⟩ z1 => fun x dx hx hdx hne => by
    subst e
    refine ⟨x, dx, b, f, rfl, upd_same, hs, fun H' h1 h2 => ⟨rfl, q _ _ _ (k x dx) ?_⟩⟩
    refine z1.new (fun c o ho => h2 c o ?_ (ne_of_none ho hx)) hx h1
    rw [upd_ne (ne_of_none ho hx), upd_ne (ne_of_none ho hdx)]
    exact ho

/-- the powers 1, b, .., b ^ k as values -/
def pows (b : Int) : Nat → List V
  | 0 => [.int 1]
  | k + 1 => pows b k ++ [.int (b ^ (k + 1))]
theorem pows_len (b : Int) (k : Nat) : (pows b k).length = k + 1 := by
  induction k with
  | zero => rfl
  | succ k ih => simp [pows, ih]
theorem atI_neg1 {xs : List V} {x : V} : atI (xs ++ [x]) (-1) = some x := by
  unfold atI ixN
  rw [if_neg (by decide), if_pos (by simp; omega)]
  have e : (-1 + ((xs ++ [x]).length : Int)).toNat = xs.length := by simp; omega
  first
    | (rw [e]; simp)
    | (simp; have e2 : (-1 + ((xs.length : Int) + 1)).toNat = xs.length := by omega
       rw [e2]; simp)
theorem pows_last (b : Int) (k : Nat) : atI (pows b k) (-1) = some (.int (b ^ k)) := by
  cases k with
  | zero => rw [show pows b 0 = [] ++ [V.int 1] from rfl, atI_neg1]; simp
  | succ k => exact atI_neg1
theorem pows_get (b : Int) : ∀ (k i : Nat), i ≤ k → (pows b k)[i]? = some (.int (b ^ i))
  | 0, i, h => by
    have : i = 0 := by omega
    subst this
    simp [pows]
  | k + 1, i, h => by
    by_cases e : i = k + 1
    · subst e
      rw [pows, List.getElem?_append_right (by rw [pows_len]; omega), pows_len]
      simp
    · rw [pows, List.getElem?_append_left (by rw [pows_len]; omega)]
      exact pows_get b k i (by omega)

theorem last_map {pre : List Int} {m : Int} : atI ((pre ++ [m]).map V.int) (-1) = some (.int m) := by
  rw [List.map_append]
  exact atI_neg1
theorem cut_butlast (ms : List Int) : cutV (ms.map V.int) none (some (-1)) = ms.dropLast.map V.int := by
  unfold cutV
  have h1 : HT.sIx (ms.map V.int).length 0 none = 0 := rfl
  have h2 : HT.sIx (ms.map V.int).length (ms.map V.int).length (some (-1)) = ms.length - 1 := by
    unfold HT.sIx
    simp
    omega
  rw [h1, h2, List.drop_zero, Nat.sub_zero, List.dropLast_eq_take, List.map_take]
theorem wr_slB {K : PySem.W.Frag} {g : Gr} {L : Led} {C : V → Led → Prop} {a : Addr} {ms : List Int} (s : Seen K g L a (ms.map V.int)) (c : ∀ p, C (.ref p) (L ++ [(p, .ob (.lst (ms.dropLast.map V.int)), true)])) : Wp g L (rSlL K (.ref a) none (some (-1))) C :=
  wr_slL s (by rw [cut_butlast]; exact c)
theorem wmk_Scheme {CS : Addr} {g : Gr} {L : Led} {C : V → Led → Prop} {σ : St} {E : XK} {tk : TA} {perm : List Nat} {n : Nat}
    (h : Wp g L (tk σ) fun zs L1 => zs.length = n ∧ ∃ b f : Int, pick perm zs = [.int b, .int f] ∧ SchOk b f ∧ ∀ p dx, C (.ref p) (L1 ++ [(p, .ob (.ins CS dx (scF b f)), true)])) : Wp g L (tKwC CS (sp_Scheme_init CS) perm n E tk σ) C :=
  fun H z Q q => h H z _ fun zs L1 H1 ⟨el, b, f, e, hs, k⟩ z1 => ⟨el, fun x dx hx hdx hne => by
    rw [e]
    refine ⟨x, dx, b, f, rfl, upd_same, hs, fun H' h1 h2 => ⟨rfl, q _ _ _ (k x dx) ?_⟩⟩
    refine z1.new (fun c o ho => h2 c o ?_ (ne_of_none ho hx)) hx h1
    rw [upd_ne (ne_of_none ho hx), upd_ne (ne_of_none ho hdx)]
    exact ho⟩

theorem prime_at (k : Int) (h0 : 0 ≤ k) (h1 : k < 7) : ∃ q : Int, atI [V.int 2147483647, .int 2147483629, .int 2147483587, .int 2147483579, .int 2147483563, .int 2147483549, .int 2147483543] k = some (.int q) ∧ 1 < q ∧ q ≤ 2147483647 := by
  have h : k = 0 ∨ k = 1 ∨ k = 2 ∨ k = 3 ∨ k = 4 ∨ k = 5 ∨ k = 6 := by omega
  rcases h with rfl | rfl | rfl | rfl | rfl | rfl | rfl <;> exact ⟨_, rfl, by decide, by decide⟩
theorem atI_in {xs : List V} {k : Int} (h0 : 0 ≤ k) (h1 : k < (xs.length : Int)) : ∃ v, atI xs k = some v ∧ v ∈ xs := by
  have hk : k.toNat < xs.length := by omega
  refine ⟨xs[k.toNat], at_of (j := k.toNat) (by omega) (List.getElem?_eq_getElem hk), List.getElem_mem hk⟩
theorem ints_all {ns : List Int} : ∀ v ∈ ns.map V.int, ∃ n : Int, v = .int n := fun v hv => by
  obtain ⟨n, _, e⟩ := List.mem_map.mp hv
  exact ⟨n, e.symm⟩
theorem cut_mem {xs : List V} {lo hi : Option Int} {v : V} (h : v ∈ cutV xs lo hi) : v ∈ xs := List.mem_of_mem_drop (List.mem_of_mem_take h)

theorem powJ_app (b : Int) (k : Nat) : (Ma.powJ b k).map V.int ++ [V.int (b ^ k)] = (Ma.powJ b (k + 1)).map V.int := by
  rw [Ma.powJ_next, List.map_append]
  rfl
theorem last_pow {b p : Int} {k : Nat} (hb : 2 ≤ b) (h : Ma.IsPows b p k) (hp : Ma.IsPow b p) : atI ([V.int 1] ++ ((Ma.powJ b k).filter (fun x => decide (x = p))).map V.int) (-1) = some (.int p) := by
  have hm : p ∈ (Ma.powJ b k).filter (fun x => decide (x = p)) := List.mem_filter.mpr ⟨h.mem hb hp (Int.le_refl _), by simp⟩
  have ha : ∀ x ∈ (Ma.powJ b k).filter (fun x => decide (x = p)), x = p := fun x hx => by simpa using (List.mem_filter.mp hx).2
  generalize (Ma.powJ b k).filter (fun x => decide (x = p)) = xs at hm ha
  rcases List.eq_nil_or_concat xs with e | ⟨ys, y, e⟩
  · rw [e] at hm
    cases hm
  · rw [List.concat_eq_append] at e
    subst e
    have := ha y (by simp)
    subst this
    rw [List.map_append, ← List.append_assoc]
    exact atI_neg1
theorem app_int (ys : List Int) (v : Int) : ys.map V.int ++ [V.int v] = (ys ++ [v]).map V.int := by
  rw [List.map_append]
  rfl

section
variable {P : Program} {w : World} {K : PySem.W.Frag} {mg : Str → Option Value} {base : Heap} {CS : Addr}
theorem sc__law_mixed : FnScope ["_law_cell", "_law_k", "_law_figure"] ["_law_cell", "_law_k"] (defScope s__law_mixed) := ⟨rfl, rfl, rfl, by decide +kernel, rfl, by decide +kernel, by decide +kernel⟩
def sp__law_mixed (CS : Addr) : Sp := fun vs H Q _ => ∃ (x k : Int), (vs = [.int x, .int k]) ∧ (0 ≤ k ∧ k ≤ 2000000) ∧ ∀ (r : Int) (H' : Hp), (0 ≤ r) → Same H H' → Q (.int r) H'
theorem wc__law_mixed {CS : Addr} {g : Gr} {L : Led} {C : V → Led → Prop} {E : XK} {x k : Int} (hpre : 0 ≤ k ∧ k ≤ 2000000) (c : ∀ (r : Int), (0 ≤ r) → C (.int r) L) : Wp g L (fun H Q => sp__law_mixed CS [.int x, .int k] H Q E) C := fun H z Q q => ⟨x, k, rfl, hpre, fun r H' hpost s' => q _ _ _ (c r hpost) (z.same s')⟩
theorem ok__law_mixed (T : Top K mg CS) : Ok P w K mg base 1 "_law_mixed" s__law_mixed ["_law_cell", "_law_k"] (sp__law_mixed CS) := by
  refine Ok.of T.f__law_mixed sc__law_mixed (fun _ _ _ _ _ _ us hl => match us, hl with | [_, _], _ => rfl) (fun vs H Q E h => ?_) (fun f cdv A outer s H vs Q E hr h => ?_)
  · obtain ⟨x, k, rfl, _⟩ := h
    rfl
  · obtain ⟨x, k, rfl, hpre, kk⟩ := h
    refine ⟨_, (pss_cons (ps_set (i := 2) sc__law_mixed.nd rfl (Or.inl rfl) (pe_op op_mod (pe_op op_pow (pe_op op_add (pe_op op_add (pe_op op_mod (pv 0) pe_int) (pe_op op_mulW pe_int (pv 1))) pe_int) pe_int) pe_int))
      (pss_cons (ps_set (i := 2) sc__law_mixed.nd rfl (Or.inl rfl) (pe_op op_mod (pe_op op_add (pv 2) (pe_op op_mulW (pe_op op_mod (pe_op op_fdivW (pv 0) pe_int) pe_int) (pe_op op_add (pv 1) pe_int))) pe_int))
      (pss_cons (ps_set (i := 2) sc__law_mixed.nd rfl (Or.inl rfl) (pe_op op_mod (pe_op op_mulW (pv 2) (pe_op op_add (pe_op op_add (pe_op op_fdivW (pv 2) pe_int) pe_int) (pv 1))) pe_int))
      (pss_one (ps_ret (pe_op op_mod (pe_op op_mulW (pv 2) (pe_op op_add (pe_op op_fdivW (pv 2) pe_int) pe_int)) pe_int)))))), ?_⟩
    refine run_ws (σ := [some (.int x), some (.int k), none]) (K := kV (fun v => ∃ (r : Int), v = (.int r) ∧ (0 ≤ r))) (L := []) ?_ at_nil (eo_V fun v H' ⟨r, e, hpost⟩ s' => e ▸ kk r H' hpost s')
    refine ws_seq ?_
    refine ws_set ?_
    refine wp_op ?_
    refine wp_op ?_
    refine wp_op ?_
    refine wp_op ?_
    refine wp_op ?_
    refine wp_var rfl ?_
    refine wp_c ?_
    refine wr_modA (by decide) ?_
    intro a1 ha1 ha2
    refine wp_op ?_
    refine wp_c ?_
    refine wp_var rfl ?_
    refine wr1 (by exact mulOk (by omega) (by omega)) ?_
    refine wr0 ?_
    refine wp_c ?_
    refine wr0 ?_
    refine wp_c ?_
    refine wr1 (powOk (by omega)) ?_
    refine wp_c ?_
    refine wr_modA (by decide) ?_
    intro f1 hf1 hf2
    refine ws_seq ?_
    refine ws_set ?_
    refine wp_op ?_
    refine wp_op ?_
    refine wp_var rfl ?_
    refine wp_op ?_
    refine wp_op ?_
    refine wp_op ?_
    refine wp_var rfl ?_
    refine wp_c ?_
    refine wr1 (by exact divOk (by omega)) ?_
    refine wp_c ?_
    refine wr_modA (by decide) ?_
    intro a2 ha3 ha4
    refine wp_op ?_
    refine wp_var rfl ?_
    refine wp_c ?_
    refine wr0 ?_
    refine wr1 (by exact mulOk (by omega) (by omega)) ?_
    refine wr0 ?_
    refine wp_c ?_
    refine wr_modA (by decide) ?_
    intro f2 hf3 hf4
    refine ws_seq ?_
    refine ws_set ?_
    refine wp_op ?_
    refine wp_op ?_
    refine wp_var rfl ?_
    refine wp_op ?_
    refine wp_op ?_
    refine wp_op ?_
    refine wp_var rfl ?_
    refine wp_c ?_
    refine wr1 (by exact divOk (by omega)) ?_
    refine wp_c ?_
    refine wr0 ?_
    refine wp_var rfl ?_
    refine wr0 ?_
    refine wr1 (by exact mulOk (by omega) (by omega)) ?_
    refine wp_c ?_
    refine wr_modA (by decide) ?_
    intro f3 hf5 hf6
    refine ws_ret ?_
    refine wp_op ?_
    refine wp_op ?_
    refine wp_var rfl ?_
    refine wp_op ?_
    refine wp_op ?_
    refine wp_var rfl ?_
    refine wp_c ?_
    refine wr1 (by exact divOk (by omega)) ?_
    refine wp_c ?_
    refine wr0 ?_
    refine wr1 (by exact mulOk (by omega) (by omega)) ?_
    refine wp_c ?_
    refine wr_modA (by decide) ?_
    intro f4 hf7 hf8
    exact ⟨_, rfl, hf7⟩
theorem sc__law_draw : FnScope ["_law_well_here", "_law_many", "_law_found"] ["_law_well_here", "_law_many"] (defScope s__law_draw) := ⟨rfl, rfl, rfl, by decide +kernel, rfl, by decide +kernel, by decide +kernel⟩
def sp__law_draw (CS : Addr) : Sp := fun vs H Q _ => ∃ (a : Addr) (m : Nat) (many : Int), vs = [.ref a, .int many] ∧ EntAt (.well m) H a ∧ m ≤ 1000000 ∧ (1 ≤ many ∧ many ≤ 10 ^ 100) ∧ ∀ (n : Int) (H' : Hp), (0 ≤ n ∧ n < many) → EntAt (.well (m + 1)) H' a → Exc a H H' → Q (.int n) H'
theorem wc__law_draw {CS : Addr} {g : Gr} {L : Led} {C : V → Led → Prop} {E : XK} {a : Addr} {m : Nat} {many : Int} (i : Nat) (h : L[i]? = some (a, .well m, true)) (hm : m ≤ 1000000) (hn : 1 ≤ many ∧ many ≤ 10 ^ 100)
    (c : ∀ n : Int, (0 ≤ n ∧ n < many) → C (.int n) (L.set i (a, .well (m + 1), true))) : Wp g L (fun H Q => sp__law_draw CS [.ref a, .int many] H Q E) C :=
  fun H z Q q => ⟨a, m, many, rfl, z.look h, hm, hn, fun n H' hn' he hx => q _ _ _ (c n hn') (z.draw h hx he)⟩

theorem ok__law_draw (T : Top K mg CS) : Ok P w K mg base 2 "_law_draw" s__law_draw ["_law_well_here", "_law_many"] (sp__law_draw CS) := by
  refine Ok.of T.f__law_draw sc__law_draw (fun _ _ _ _ _ _ us hl => match us, hl with | [_, _], _ => rfl) (fun vs H Q E h => ?_) (fun f cdv A outer s H vs Q E hr h => ?_)
  · obtain ⟨a, m, many, rfl, _⟩ := h
    rfl
  · obtain ⟨a, m, many, rfl, ⟨o, ha, x, y, z, rfl, hz0, hz1⟩, hm, hmany, kk⟩ := h
    refine ⟨_, (pss_cons (ps_if (pt_cmpR op_gt (pe_ix ix_list (pv 0) pe_int (fun _ _ => rfl)) pe_int (nomark _)) (pss_cons (ps_set (i := 2) sc__law_draw.nd rfl (Or.inl rfl) (pe_op op_mod (pe_ix ix_list (pv 0) pe_int (fun _ _ => rfl)) (pv 1)))
      (pss_cons (ps_asg (pe_op op_fdivW (pe_ix ix_list (pv 0) pe_int (fun _ _ => rfl)) (pv 1)) (pg_sub (pv 0) pe_int set_list))
      (pss_one (ps_ret (pv 2))))) pss_nil)
      (pss_cons (ps_asg (pe_op op_add (pe_ix ix_list (pv 0) pe_int (fun _ _ => rfl)) pe_int) (pg_sub (pv 0) pe_int set_list))
      (pss_one (ps_ret (pe_op op_mod (pe_own (ok__law_mixed T) (hr.mono (by decide)) rfl (pa_cons (pe_ix ix_list (pv 0) pe_int (fun _ _ => rfl)) (pa_cons (pe_ix ix_list (pv 0) pe_int (fun _ _ => rfl)) pa_nil))) (pv 1)))))), ?_⟩
    refine run_ws (σ := [some (.ref a), some (.int many), none]) (g := ⟨H, fun c => c = a⟩) (K := kS a (.well (m + 1)) (fun v => ∃ n : Int, v = .int n ∧ 0 ≤ n ∧ n < many)) (L := [(a, .ob (.lst [.int x, .int y, .int z]), true)]) ?_ (at_cons at_nil ha rfl (by simp) (fun _ => .inr rfl)) (eo_S fun v H' ⟨n, e, h1, h2⟩ he hx => e ▸ kk n H' ⟨h1, h2⟩ he hx)
    refine ws_seq ?_
    refine ws_if ?_
    refine wt_test ?_
    refine wp_op ?_
    refine wp_op ?_
    refine wp_var rfl ?_
    refine wp_c ?_
    refine wr_ixL (seen 0 rfl) (rfl) ?_
    refine wp_c ?_
    refine wr0 ?_
    refine ⟨_, rfl, ?_⟩
    refine ifB (fun hc1 => ?_) (fun hc1 => ?_)
    · try simp only [decide_eq_true_eq, decide_eq_false_iff_not, Bool.and_eq_true, Bool.or_eq_true, Bool.not_eq_true', Bool.and_eq_false_iff, Bool.or_eq_false_iff, Bool.not_eq_false', Bool.not_true, Bool.not_false, Bool.false_or, Bool.true_and, Bool.true_or, Bool.false_and, Bool.and_true, Bool.or_false, reduceCtorEq, not_true_eq_false, not_false_eq_true, decide_true, decide_false] at hc1
      refine ws_seq ?_
      refine ws_set ?_
      refine wp_op ?_
      refine wp_op ?_
      refine wp_var rfl ?_
      refine wp_c ?_
      refine wr_ixL (seen 0 rfl) (rfl) ?_
      refine wp_var rfl ?_
      refine wr_modA (by omega) ?_
      intro r hr0 hr1
      refine ws_seq ?_
      refine ws_asg ?_
      refine wp_op ?_
      refine wp_op ?_
      refine wp_var rfl ?_
      refine wp_c ?_
      refine wr_ixL (seen 0 rfl) (rfl) ?_
      refine wp_var rfl ?_
      refine wr1 (by exact divOk (by omega)) ?_
      refine wg_sub ?_
      refine wp_var rfl ?_
      refine wp_c ?_
      refine wr_setL 0 rfl (rfl) ?_
      refine ws_ret ?_
      refine wp_var rfl ?_
      exact ⟨⟨_, rfl, hr0, hr1⟩, 0, _, rfl, _, _, _, rfl, hz0, by omega⟩
    · try simp only [decide_eq_true_eq, decide_eq_false_iff_not, Bool.and_eq_true, Bool.or_eq_true, Bool.not_eq_true', Bool.and_eq_false_iff, Bool.or_eq_false_iff, Bool.not_eq_false', Bool.not_true, Bool.not_false, Bool.false_or, Bool.true_and, Bool.true_or, Bool.false_and, Bool.and_true, Bool.or_false, reduceCtorEq, not_true_eq_false, not_false_eq_true, decide_true, decide_false] at hc1
      refine ws_next ?_
      refine ws_seq ?_
      refine ws_asg ?_
      refine wp_op ?_
      refine wp_op ?_
      refine wp_var rfl ?_
      refine wp_c ?_
      refine wr_ixL (seen 0 rfl) (rfl) ?_
      refine wp_c ?_
      refine wr0 ?_
      refine wg_sub ?_
      refine wp_var rfl ?_
      refine wp_c ?_
      refine wr_setL 0 rfl (rfl) ?_
      refine ws_ret ?_
      refine wp_op ?_
      refine wp_call ?_
      refine wa_cons ?_
      refine wp_op ?_
      refine wp_var rfl ?_
      refine wp_c ?_
      refine wr_ixL (seen 0 rfl) (rfl) ?_
      refine wa_cons ?_
      refine wp_op ?_
      refine wp_var rfl ?_
      refine wp_c ?_
      refine wr_ixL (seen 0 rfl) (rfl) ?_
      refine wa_nil ?_
      refine wc__law_mixed (by omega) ?_
      intro r2 hr2
      refine wp_var rfl ?_
      refine wr_modA (by omega) ?_
      intro r hr0 hr1
      exact ⟨⟨_, rfl, hr0, hr1⟩, 0, _, rfl, _, _, _, rfl, by omega, by omega⟩
theorem sc__law_one : FnScope ["_law_well_here", "_law_some"] ["_law_well_here", "_law_some"] (defScope s__law_one) := ⟨rfl, rfl, rfl, by decide +kernel, rfl, by decide +kernel, by decide +kernel⟩
def sp__law_one (CS : Addr) : Sp := fun vs H Q _ => ∃ (a q : Addr) (m : Nat) (xs : List V), vs = [.ref a, .ref q] ∧ EntAt (.well m) H a ∧ H q = some (.lst xs) ∧ a ≠ q ∧ m ≤ 1000000 ∧ (1 ≤ xs.length ∧ xs.length ≤ 100000) ∧ ∀ (v : V) (H' : Hp), v ∈ xs → EntAt (.well (m + 1)) H' a → Exc a H H' → Q v H'
theorem wc__law_one {CS : Addr} {g : Gr} {L : Led} {C : V → Led → Prop} {E : XK} {a q : Addr} {m : Nat} {xs : List V} {bo : Bool} {P : Int → Prop} (i j : Nat) (h : L[i]? = some (a, .well m, true)) (h2 : L[j]? = some (q, .ob (.lst xs), bo)) (hij : i ≠ j) (hm : m ≤ 1000000) (hl : 1 ≤ xs.length ∧ xs.length ≤ 100000)
    (hP : ∀ v ∈ xs, ∃ n : Int, v = .int n ∧ P n) (c : ∀ n : Int, P n → C (.int n) (L.set i (a, .well (m + 1), true))) : Wp g L (fun H Q => sp__law_one CS [.ref a, .ref q] H Q E) C :=
  fun H z Q k => ⟨a, q, m, xs, rfl, z.look h, z.get h2, z.ne h h2 hij, hm, hl, fun v H' hv he hx => by
    obtain ⟨n, e, hn⟩ := hP v hv
    subst e
    exact k _ _ _ (c n hn) (z.draw h hx he)⟩

theorem ok__law_one (T : Top K mg CS) : Ok P w K mg base 3 "_law_one" s__law_one ["_law_well_here", "_law_some"] (sp__law_one CS) := by
  refine Ok.of T.f__law_one sc__law_one (fun _ _ _ _ _ _ us hl => match us, hl with | [_, _], _ => rfl) (fun vs H Q E h => ?_) (fun f cdv A outer s H vs Q E hr h => ?_)
  · obtain ⟨a, q, m, xs, rfl, _⟩ := h
    rfl
  · obtain ⟨a, q, m, xs, rfl, ⟨o, ha, he⟩, hq, hne, hm, hl, kk⟩ := h
    refine ⟨_, (pss_one (ps_ret (pe_ix ix_list (pv 1) (pe_own (ok__law_draw T) (hr.mono (by decide)) rfl (pa_cons (pv 0) (pa_cons (pe_callB c_len (by rfl) T.b_len PySem.boot_len (pa_cons (pv 1) pa_nil)) pa_nil))) (fun _ _ => rfl)))), ?_⟩
    refine run_ws (σ := [some (.ref a), some (.ref q)]) (g := ⟨H, fun c => c = a⟩) (K := kM a (.well (m + 1)) 0 (fun v => v ∈ xs)) (L := [(a, .well m, true), (q, .ob (.lst xs), false)]) ?_ (at_cons (at_one hq) ha he (by simpa using hne) (fun _ => .inr rfl)) (eo_M fun v H' r he hx => kk v H' r he hx)
    refine ws_ret ?_
    refine wp_op ?_
    refine wp_var rfl ?_
    refine wp_call ?_
    refine wa_cons ?_
    refine wp_var rfl ?_
    refine wa_cons ?_
    refine wp_cb ?_
    refine wa_cons ?_
    refine wp_var rfl ?_
    refine wa_nil ?_
    refine wc_len (seen 1 rfl) ?_
    refine wa_nil ?_
    refine wc__law_draw 0 rfl hm (by omega) ?_
    intro nx hnx
    obtain ⟨v, hv, hvm⟩ := atI_in hnx.1 hnx.2
    refine wr_ixL (seen 1 rfl) (hv) ?_
    exact ⟨hvm, rfl⟩
theorem sc__law_wide : FnScope ["_law_well_here", "_law_base"] ["_law_well_here"] (defScope s__law_wide) := ⟨rfl, rfl, rfl, by decide +kernel, rfl, by decide +kernel, by decide +kernel⟩
def sp__law_wide (CS : Addr) : Sp := fun vs H Q _ => ∃ (a : Addr) (m : Nat), vs = [.ref a] ∧ EntAt (.well m) H a ∧ m ≤ 200000 ∧ ∀ (b f : Int) (p : Addr) (H' : Hp), (2 ≤ b ∧ b ≤ 1000 ∧ 1 ≤ f ∧ f ≤ 1000000) → H p = none → H' p = some (.tup [.int b, .int f]) → EntAt (.well (m + 5)) H' a → Exc a H H' → Q (.ref p) H'
theorem wc__law_wide {CS : Addr} {g : Gr} {L : Led} {C : V → Led → Prop} {E : XK} {a : Addr} {m : Nat} (i : Nat) (h : L[i]? = some (a, .well m, true)) (hm : m ≤ 200000) (c : ∀ (b f : Int), (2 ≤ b ∧ b ≤ 1000 ∧ 1 ≤ f ∧ f ≤ 1000000) → ∀ p : Addr, C (.ref p) ((L.set i (a, .well (m + 5), true)) ++ [(p, .ob (.tup [.int b, .int f]), true)])) : Wp g L (fun H Q => sp__law_wide CS [.ref a] H Q E) C := fun H z Q q => ⟨a, m, rfl, z.look h, hm, fun b f p H' hpost hn hp he hx => q _ _ _ (c b f hpost p) (z.draw_new h hx he hn hp)⟩
theorem ok__law_wide (T : Top K mg CS) : Ok P w K mg base 4 "_law_wide" s__law_wide ["_law_well_here"] (sp__law_wide CS) := by
  refine Ok.of T.f__law_wide sc__law_wide (fun _ _ _ _ _ _ us hl => match us, hl with | [_], _ => rfl) (fun vs H Q E h => ?_) (fun f cdv A outer s H vs Q E hr h => ?_)
  · obtain ⟨a, m, rfl, _⟩ := h
    rfl
  · obtain ⟨a, m, rfl, ⟨o_, ha, he⟩, hm, kk⟩ := h
    refine ⟨_, (pss_cons (ps_set (i := 1) sc__law_wide.nd rfl (Or.inl rfl) (pe_own (ok__law_one T) (hr.mono (by decide)) rfl (pa_cons (pv 0) (pa_cons (pe_lst (pa_cons pe_int (pa_cons pe_int (pa_cons pe_int (pa_cons (pe_op op_add pe_int (pe_own (ok__law_draw T) (hr.mono (by decide)) rfl (pa_cons (pv 0) (pa_cons pe_int pa_nil)))) pa_nil))))) pa_nil))))
      (pss_one (ps_ret (pe_tup (pa_cons (pv 1) (pa_cons (pe_own (ok__law_one T) (hr.mono (by decide)) rfl (pa_cons (pv 0) (pa_cons (pe_lst (pa_cons pe_int (pa_cons pe_int (pa_cons (pe_op op_add pe_int (pe_own (ok__law_draw T) (hr.mono (by decide)) rfl (pa_cons (pv 0) (pa_cons pe_int pa_nil)))) (pa_cons (pe_op op_add pe_int (pe_own (ok__law_draw T) (hr.mono (by decide)) rfl (pa_cons (pv 0) (pa_cons (pe_op op_pow pe_int pe_int) pa_nil)))) pa_nil))))) pa_nil))) pa_nil)))))), ?_⟩
    refine run_ws (σ := [some (.ref a), none]) (g := ⟨H, fun c => c = a⟩) (K := kDN Ent.well a m 5 (fun o => ∃ (b f : Int), o = (.tup [.int b, .int f]) ∧ (2 ≤ b ∧ b ≤ 1000 ∧ 1 ≤ f ∧ f ≤ 1000000))) (L := [(a, .well m, true)]) ?_ (at_cons at_nil ha he (by simp) (fun _ => .inr rfl)) (eo_DN (fun hk x => well_mono hk x) fun p H' o ⟨b, f, e, hpost⟩ hn hp he hx => kk b f p H' hpost hn (by rw [hp, e]) he hx)
    refine ws_seq ?_
    refine ws_set ?_
    refine wp_call ?_
    refine wa_cons ?_
    refine wp_var rfl ?_
    refine wa_cons ?_
    refine wp_lst ?_
    refine wa_cons ?_
    refine wp_c ?_
    refine wa_cons ?_
    refine wp_c ?_
    refine wa_cons ?_
    refine wp_c ?_
    refine wa_cons ?_
    refine wp_op ?_
    refine wp_c ?_
    refine wp_call ?_
    refine wa_cons ?_
    refine wp_var rfl ?_
    refine wa_cons ?_
    refine wp_c ?_
    refine wa_nil ?_
    refine wc__law_draw 0 rfl (by omega) (by omega) ?_
    intro n1 hn1
    refine wr0 ?_
    refine wa_nil ?_
    refine ⟨by simp, fun p2 => ?_⟩
    refine wa_nil ?_
    refine wc__law_one (P := fun n => 2 ≤ n ∧ n ≤ 1000) 0 1 rfl rfl (by decide) (by omega) (by simp) (by (intro v hv; simp only [List.mem_cons, List.not_mem_nil, or_false] at hv; repeat' (rcases hv with hv | hv)) <;> exact ⟨_, rfl, by first | omega | decide⟩) ?_
    intro n3 hn3
    refine ws_ret ?_
    refine wp_tup ?_
    refine wa_cons ?_
    refine wp_var rfl ?_
    refine wa_cons ?_
    refine wp_call ?_
    refine wa_cons ?_
    refine wp_var rfl ?_
    refine wa_cons ?_
    refine wp_lst ?_
    refine wa_cons ?_
    refine wp_c ?_
    refine wa_cons ?_
    refine wp_c ?_
    refine wa_cons ?_
    refine wp_op ?_
    refine wp_c ?_
    refine wp_call ?_
    refine wa_cons ?_
    refine wp_var rfl ?_
    refine wa_cons ?_
    refine wp_c ?_
    refine wa_nil ?_
    refine wc__law_draw 0 rfl (by omega) (by omega) ?_
    intro n4 hn4
    refine wr0 ?_
    refine wa_cons ?_
    refine wp_op ?_
    refine wp_c ?_
    refine wp_call ?_
    refine wa_cons ?_
    refine wp_var rfl ?_
    refine wa_cons ?_
    refine wp_op ?_
    refine wp_c ?_
    refine wp_c ?_
    refine wr_powc (r := 1000000) (powOk (by decide)) (by decide) ?_
    refine wa_nil ?_
    refine wc__law_draw 0 rfl (by omega) (by omega) ?_
    intro n5 hn5
    refine wr0 ?_
    refine wa_nil ?_
    refine ⟨by simp, fun p6 => ?_⟩
    refine wa_nil ?_
    refine wc__law_one (P := fun n => 1 ≤ n ∧ n ≤ 1000000) 0 2 rfl rfl (by decide) (by omega) (by simp) (by (intro v hv; simp only [List.mem_cons, List.not_mem_nil, or_false] at hv; repeat' (rcases hv with hv | hv)) <;> exact ⟨_, rfl, by first | omega | decide⟩) ?_
    intro n7 hn7
    refine wa_nil ?_
    refine ⟨by simp, fun p8 => ?_⟩
    exact ⟨_, 2, _, rfl, rfl, ⟨_, _, rfl, by omega⟩, 5, by decide, rfl⟩
theorem sc_is_integer : FnScope ["value"] ["value"] (defScope s_is_integer) := ⟨rfl, rfl, rfl, by decide +kernel, rfl, by decide +kernel, by decide +kernel⟩
def sp_is_integer (CS : Addr) : Sp := fun vs H Q _ => ∃ (n : Int), (vs = [.int n]) ∧ ∀ (H' : Hp), Same H H' → Q (.bl true) H'
theorem wc_is_integer {CS : Addr} {g : Gr} {L : Led} {C : V → Led → Prop} {E : XK} {n : Int} (c : C (.bl true) L) : Wp g L (fun H Q => sp_is_integer CS [.int n] H Q E) C := fun H z Q q => ⟨n, rfl, fun H' s' => q _ _ _ (c) (z.same s')⟩
theorem ok_is_integer (T : Top K mg CS) : Ok P w K mg base 1 "is_integer" s_is_integer ["value"] (sp_is_integer CS) := by
  refine Ok.of T.f_is_integer sc_is_integer (fun _ _ _ _ _ _ us hl => match us, hl with | [_], _ => rfl) (fun vs H Q E h => ?_) (fun f cdv A outer s H vs Q E hr h => ?_)
  · obtain ⟨n, rfl, _⟩ := h
    rfl
  · obtain ⟨n, rfl, kk⟩ := h
    refine ⟨_, (pss_one (ps_ret (pe_and (pe_callB call_isi (by rfl) T.b_isinstance (by decide +kernel) (pa_cons (pv 0) (pa_cons (pe_tyint rfl T.b_int) pa_nil))) (pe_one (pe_not (pe_callB call_isi (by rfl) T.b_isinstance (by decide +kernel) (pa_cons (pv 0) (pa_cons (pe_tybool rfl T.b_bool) pa_nil)))))))), ?_⟩
    refine run_ws (σ := [some (.int n)]) (K := kV (fun v => v = (.bl true))) (L := []) ?_ at_nil (eo_V fun v H' e s' => e ▸ kk H' s')
    refine ws_ret ?_
    refine wp_andVP ?_
    refine wp_cb ?_
    refine wa_cons ?_
    refine wp_var rfl ?_
    refine wa_cons ?_
    refine wp_c ?_
    refine wa_nil ?_
    refine wc_isi_int ?_
    refine ⟨_, rfl, ?_⟩
    apply andK
    · intro hb1
      try simp only [decide_eq_true_eq, decide_eq_false_iff_not, Bool.and_eq_true, Bool.or_eq_true, Bool.not_eq_true', Bool.and_eq_false_iff, Bool.or_eq_false_iff, Bool.not_eq_false', Bool.not_true, Bool.not_false, Bool.false_or, Bool.true_and, Bool.true_or, Bool.false_and, Bool.and_true, Bool.or_false, reduceCtorEq, not_true_eq_false, not_false_eq_true, decide_true, decide_false] at hb1
      refine wp_notV ?_
      refine wp_cb ?_
      refine wa_cons ?_
      refine wp_var rfl ?_
      refine wa_cons ?_
      refine wp_c ?_
      refine wa_nil ?_
      refine wc_isi_bool ?_
      refine ⟨_, rfl, ?_⟩
      exact ⟨rfl, rfl⟩
    exact rfl
theorem sc_is_between : FnScope ["value", "low", "high"] ["value", "low", "high"] (defScope s_is_between) := ⟨rfl, rfl, rfl, by decide +kernel, rfl, by decide +kernel, by decide +kernel⟩
def sp_is_between (CS : Addr) : Sp := fun vs H Q _ => ∃ (n lo hi : Int), (vs = [.int n, .int lo, .int hi]) ∧ ∀ (H' : Hp), Same H H' → Q (.bl (decide (lo ≤ n) && decide (n ≤ hi))) H'
theorem wc_is_between {CS : Addr} {g : Gr} {L : Led} {C : V → Led → Prop} {E : XK} {n lo hi : Int} (c : C (.bl (decide (lo ≤ n) && decide (n ≤ hi))) L) : Wp g L (fun H Q => sp_is_between CS [.int n, .int lo, .int hi] H Q E) C := fun H z Q q => ⟨n, lo, hi, rfl, fun H' s' => q _ _ _ (c) (z.same s')⟩
theorem ok_is_between (T : Top K mg CS) : Ok P w K mg base 2 "is_between" s_is_between ["value", "low", "high"] (sp_is_between CS) := by
  refine Ok.of T.f_is_between sc_is_between (fun _ _ _ _ _ _ us hl => match us, hl with | [_, _, _], _ => rfl) (fun vs H Q E h => ?_) (fun f cdv A outer s H vs Q E hr h => ?_)
  · obtain ⟨n, lo, hi, rfl, _⟩ := h
    rfl
  · obtain ⟨n, lo, hi, rfl, kk⟩ := h
    refine ⟨_, (pss_one (ps_ret (pe_and (pe_own (ok_is_integer T) (hr.mono (by decide)) rfl (pa_cons (pv 0) pa_nil)) (pe_one (pe_chain op_le op_le (pv 1) (pv 0) (pv 2)))))), ?_⟩
    refine run_ws (σ := [some (.int n), some (.int lo), some (.int hi)]) (K := kV (fun v => v = (.bl (decide (lo ≤ n) && decide (n ≤ hi))))) (L := []) ?_ at_nil (eo_V fun v H' e s' => e ▸ kk H' s')
    refine ws_ret ?_
    refine wp_andVP ?_
    refine wp_call ?_
    refine wa_cons ?_
    refine wp_var rfl ?_
    refine wa_nil ?_
    refine wc_is_integer ?_
    refine ⟨_, rfl, ?_⟩
    apply andK
    · intro hb1
      try simp only [decide_eq_true_eq, decide_eq_false_iff_not, Bool.and_eq_true, Bool.or_eq_true, Bool.not_eq_true', Bool.and_eq_false_iff, Bool.or_eq_false_iff, Bool.not_eq_false', Bool.not_true, Bool.not_false, Bool.false_or, Bool.true_and, Bool.true_or, Bool.false_and, Bool.and_true, Bool.or_false, reduceCtorEq, not_true_eq_false, not_false_eq_true, decide_true, decide_false] at hb1
      refine wp_chainP ?_
      refine wp_var rfl ?_
      refine wp_var rfl ?_
      refine wr0 ?_
      refine ⟨_, rfl, ?_⟩
      apply andK
      · intro _
        refine wp_var rfl ?_
        refine wr0 ?_
        exact ⟨rfl, rfl⟩
      exact ⟨rfl, rfl⟩
    exact rfl
theorem sc_Scheme_init : FnScope ["self", "base", "factor"] ["self", "base", "factor"] (defScope s_Scheme_init) := ⟨rfl, rfl, rfl, by decide +kernel, rfl, by decide +kernel, by decide +kernel⟩


theorem ok_Scheme_init (T : Top K mg CS) : OkC P w K mg base "Scheme" CS 3 "Scheme.__init__" s_Scheme_init ["self", "base", "factor"] (sp_Scheme_init CS) := by
  refine OkC.of T.f_Scheme_init sc_Scheme_init (fun _ _ _ _ _ _ us hl => match us, hl with | [_, _, _], _ => rfl) (fun vs H Q E h => ?_) (fun f cdv A outer s H vs Q E hr h => ?_)
  · obtain ⟨p, dx, b, f, rfl, _⟩ := h
    rfl
  · obtain ⟨p, dx, b, f, rfl, hp, hs, kk⟩ := h
    unfold SchOk at hs
    refine ⟨_, (pss_cons (ps_if (pt_not (pt_val (pe_own (ok_is_between T) (hr.mono (by decide)) rfl (pa_cons (pv 1) (pa_cons pe_int (pa_cons (pe_const rfl T.c_MOST_BASE) pa_nil)))))) (pss_one ps_never) pss_nil)
      (pss_cons (ps_if (pt_not (pt_val (pe_own (ok_is_between T) (hr.mono (by decide)) rfl (pa_cons (pv 2) (pa_cons pe_int (pa_cons (pe_const rfl T.c_MOST_FACTOR) pa_nil)))))) (pss_one ps_never) pss_nil)
      (pss_cons (ps_fld (pv 0) (pv 1) rfl)
      (pss_one (ps_fld (pv 0) (pv 2) rfl))))), ?_⟩
    refine run_ws (σ := [some (.ref p), some (.int b), some (.int f)]) (g := ⟨H, fun c => c = p⟩) (L := [(p, .ob (.ins CS dx []), true)]) (K := { nx := fun _ L => L = [(p, .ob (.ins CS dx (scF b f)), true)], rt := fun _ _ => False }) ?_ (at_cons at_nil hp rfl (by simp) (fun _ => .inr rfl)) ⟨fun σ L H' e z => ?_, fun _ _ _ e _ => e.elim, fun _ _ _ e _ => e.elim, fun _ _ _ e _ => e.elim⟩
    rotate_left
    · have e : L = [(p, .ob (.ins CS dx (scF b f)), true)] := e
      subst e
      exact kk H' (z.get (i := 0) rfl) fun q o h hn => z.old q o h hn
    refine ws_seq ?_
    refine ws_if ?_
    refine wt_not ?_
    refine wt_B ?_
    refine wp_call ?_
    refine wa_cons ?_
    refine wp_var rfl ?_
    refine wa_cons ?_
    refine wp_c ?_
    refine wa_cons ?_
    refine wp_c ?_
    refine wa_nil ?_
    refine wc_is_between ?_
    refine ⟨_, rfl, ?_⟩
    refine ifB (fun hc1 => ?_) (fun hc1 => ?_)
    · try simp only [decide_eq_true_eq, decide_eq_false_iff_not, Bool.and_eq_true, Bool.or_eq_true, Bool.not_eq_true', Bool.and_eq_false_iff, Bool.or_eq_false_iff, Bool.not_eq_false', Bool.not_true, Bool.not_false, Bool.false_or, Bool.true_and, Bool.true_or, Bool.false_and, Bool.and_true, Bool.or_false, reduceCtorEq, not_true_eq_false, not_false_eq_true, decide_true, decide_false] at hc1
      exact ws_never (by first | omega | (simp at *; done) | (exfalso; omega) | (simp at *; omega))
    · try simp only [decide_eq_true_eq, decide_eq_false_iff_not, Bool.and_eq_true, Bool.or_eq_true, Bool.not_eq_true', Bool.and_eq_false_iff, Bool.or_eq_false_iff, Bool.not_eq_false', Bool.not_true, Bool.not_false, Bool.false_or, Bool.true_and, Bool.true_or, Bool.false_and, Bool.and_true, Bool.or_false, reduceCtorEq, not_true_eq_false, not_false_eq_true, decide_true, decide_false] at hc1
      refine ws_next ?_
      refine ws_seq ?_
      refine ws_if ?_
      refine wt_not ?_
      refine wt_B ?_
      refine wp_call ?_
      refine wa_cons ?_
      refine wp_var rfl ?_
      refine wa_cons ?_
      refine wp_c ?_
      refine wa_cons ?_
      refine wp_c ?_
      refine wa_nil ?_
      refine wc_is_between ?_
      refine ⟨_, rfl, ?_⟩
      refine ifB (fun hc2 => ?_) (fun hc2 => ?_)
      · try simp only [decide_eq_true_eq, decide_eq_false_iff_not, Bool.and_eq_true, Bool.or_eq_true, Bool.not_eq_true', Bool.and_eq_false_iff, Bool.or_eq_false_iff, Bool.not_eq_false', Bool.not_true, Bool.not_false, Bool.false_or, Bool.true_and, Bool.true_or, Bool.false_and, Bool.and_true, Bool.or_false, reduceCtorEq, not_true_eq_false, not_false_eq_true, decide_true, decide_false] at hc2
        exact ws_never (by first | omega | (simp at *; done) | (exfalso; omega) | (simp at *; omega))
      · try simp only [decide_eq_true_eq, decide_eq_false_iff_not, Bool.and_eq_true, Bool.or_eq_true, Bool.not_eq_true', Bool.and_eq_false_iff, Bool.or_eq_false_iff, Bool.not_eq_false', Bool.not_true, Bool.not_false, Bool.false_or, Bool.true_and, Bool.true_or, Bool.false_and, Bool.and_true, Bool.or_false, reduceCtorEq, not_true_eq_false, not_false_eq_true, decide_true, decide_false] at hc2
        refine ws_next ?_
        refine ws_seq ?_
        refine ws_fld 0 T.cl_Scheme T.n_Scheme_radix ?_
        refine wp_var rfl ?_
        refine wp_var rfl ?_
        refine ⟨_, _, _, rfl, rfl, by first | decide | (simp [putF]; done) | (simp [putF]; split <;> simp), ?_⟩
        refine ws_fld 0 T.cl_Scheme T.n_Scheme_multiple ?_
        refine wp_var rfl ?_
        refine wp_var rfl ?_
        refine ⟨_, _, _, rfl, rfl, by first | decide | (simp [putF]; done) | (simp [putF]; split <;> simp), ?_⟩
        exact rfl
theorem sc_check_time : FnScope ["time"] ["time"] (defScope s_check_time) := ⟨rfl, rfl, rfl, by decide +kernel, rfl, by decide +kernel, by decide +kernel⟩
def sp_check_time (CS : Addr) : Sp := fun vs H Q _ => ∃ (n : Int), (vs = [.int n]) ∧ (0 ≤ n) ∧ ∀ (H' : Hp), Same H H' → Q .non H'
theorem wc_check_time {CS : Addr} {g : Gr} {L : Led} {C : V → Led → Prop} {E : XK} {n : Int} (hpre : 0 ≤ n) (c : C .non L) : Wp g L (fun H Q => sp_check_time CS [.int n] H Q E) C := fun H z Q q => ⟨n, rfl, hpre, fun H' s' => q _ _ _ (c) (z.same s')⟩
theorem ok_check_time (T : Top K mg CS) : Ok P w K mg base 2 "check_time" s_check_time ["time"] (sp_check_time CS) := by
  refine Ok.of T.f_check_time sc_check_time (fun _ _ _ _ _ _ us hl => match us, hl with | [_], _ => rfl) (fun vs H Q E h => ?_) (fun f cdv A outer s H vs Q E hr h => ?_)
  · obtain ⟨n, rfl, _⟩ := h
    rfl
  · obtain ⟨n, rfl, hpre, kk⟩ := h
    refine ⟨_, (pss_one (ps_if (PW.pt (pw_or (pt_not (pt_val (pe_own (ok_is_integer T) (hr.mono (by decide)) rfl (pa_cons (pv 0) pa_nil)))) (pw_or1 (pt_cmpR op_lt (pv 0) pe_int (nomark _))))) (pss_one ps_never) pss_nil)), ?_⟩
    refine run_ws (σ := [some (.int n)]) (K := kV (fun v => v = .non)) (L := []) ?_ at_nil (eo_V fun v H' e s' => e ▸ kk H' s')
    refine ws_if ?_
    refine wt_orP ?_
    refine wt_not ?_
    refine wt_B ?_
    refine wp_call ?_
    refine wa_cons ?_
    refine wp_var rfl ?_
    refine wa_nil ?_
    refine wc_is_integer ?_
    refine ⟨_, rfl, ?_⟩
    apply andK
    · intro hb1
      try simp only [decide_eq_true_eq, decide_eq_false_iff_not, Bool.and_eq_true, Bool.or_eq_true, Bool.not_eq_true', Bool.and_eq_false_iff, Bool.or_eq_false_iff, Bool.not_eq_false', Bool.not_true, Bool.not_false, Bool.false_or, Bool.true_and, Bool.true_or, Bool.false_and, Bool.and_true, Bool.or_false, reduceCtorEq, not_true_eq_false, not_false_eq_true, decide_true, decide_false] at hb1
      refine wt_test ?_
      refine wp_op ?_
      refine wp_var rfl ?_
      refine wp_c ?_
      refine wr0 ?_
      refine ⟨_, rfl, ?_⟩
      exact ⟨rfl, rfl⟩
    refine ifB (fun hc2 => ?_) (fun hc2 => ?_)
    · try simp only [decide_eq_true_eq, decide_eq_false_iff_not, Bool.and_eq_true, Bool.or_eq_true, Bool.not_eq_true', Bool.and_eq_false_iff, Bool.or_eq_false_iff, Bool.not_eq_false', Bool.not_true, Bool.not_false, Bool.false_or, Bool.true_and, Bool.true_or, Bool.false_and, Bool.and_true, Bool.or_false, reduceCtorEq, not_true_eq_false, not_false_eq_true, decide_true, decide_false] at hc2
      exact ws_never (by first | omega | (simp at *; done) | (exfalso; omega) | (simp at *; omega))
    · try simp only [decide_eq_true_eq, decide_eq_false_iff_not, Bool.and_eq_true, Bool.or_eq_true, Bool.not_eq_true', Bool.and_eq_false_iff, Bool.or_eq_false_iff, Bool.not_eq_false', Bool.not_true, Bool.not_false, Bool.false_or, Bool.true_and, Bool.true_or, Bool.false_and, Bool.and_true, Bool.or_false, reduceCtorEq, not_true_eq_false, not_false_eq_true, decide_true, decide_false] at hc2
      refine ws_next ?_
      exact rfl
theorem sc_units : FnScope ["base", "most", "found"] ["base", "most"] (defScope s_units) := ⟨rfl, rfl, rfl, by decide +kernel, rfl, by decide +kernel, by decide +kernel⟩
def sp_units (CS : Addr) : Sp := fun vs H Q _ => ∃ (b m : Int), (vs = [.int b, .int m]) ∧ (2 ≤ b ∧ b ≤ 1000 ∧ m ≤ 10 ^ 60) ∧ ∀ (k : Nat) (p : Addr) (H' : Hp), ((k = 0 ∨ b ^ k ≤ m) ∧ m < b ^ (k + 1) ∧ k < 210) → H p = none → Same H H' → H' p = some (.lst (pows b k)) → Q (.ref p) H'
theorem wc_units {CS : Addr} {g : Gr} {L : Led} {C : V → Led → Prop} {E : XK} {b m : Int} (hpre : 2 ≤ b ∧ b ≤ 1000 ∧ m ≤ 10 ^ 60) (c : ∀ (k : Nat), ((k = 0 ∨ b ^ k ≤ m) ∧ m < b ^ (k + 1) ∧ k < 210) → ∀ p : Addr, C (.ref p) (L ++ [(p, .ob (.lst (pows b k)), true)])) : Wp g L (fun H Q => sp_units CS [.int b, .int m] H Q E) C := fun H z Q q => ⟨b, m, rfl, hpre, fun k p H' hpost n s' hp => q _ _ _ (c k hpost p) (z.new s' n hp)⟩
theorem ok_units (T : Top K mg CS) : Ok P w K mg base 1 "units" s_units ["base", "most"] (sp_units CS) := by
  refine Ok.of T.f_units sc_units (fun _ _ _ _ _ _ us hl => match us, hl with | [_, _], _ => rfl) (fun vs H Q E h => ?_) (fun f cdv A outer s H vs Q E hr h => ?_)
  · obtain ⟨b, m, rfl, _⟩ := h
    rfl
  · obtain ⟨b, m, rfl, hpre, kk⟩ := h
    have pw : ∀ k : Nat, (k = 0 ∨ b ^ k ≤ m) → b ^ k ≤ 10 ^ 61 ∧ 1 ≤ b ^ k := fun k h => ⟨by
      rcases h with h | h
      · subst h
        simp
      · omega, Ma.pow_pos (by omega) k⟩
    refine ⟨_, (pss_cons (ps_set (i := 2) sc_units.nd rfl (Or.inl rfl) (pe_lst (pa_cons pe_int pa_nil)))
      (pss_cons (ps_while PassesOwn.never (pt_cmpR op_le (pe_op op_mulW (pe_ix ix_list (pv 2) (pe_un un_neg pe_int) (fun _ _ => rfl)) (pv 0)) (pv 1) (nomark _)) (pss_one (ps_expr (pe_bm PySem.F.plainAttrs_list PySem.F.slot_list_append PySem.F.type_list_append mt_append (pv 2) (pa_cons (pe_op op_mulW (pe_ix ix_list (pv 2) (pe_un un_neg pe_int) (fun _ _ => rfl)) (pv 0)) pa_nil)))))
      (pss_one (ps_ret (pv 2))))), ?_⟩
    refine run_ws (σ := [some (.int b), some (.int m), none]) (K := kR (fun o => ∃ (k : Nat), o = (.lst (pows b k)) ∧ ((k = 0 ∨ b ^ k ≤ m) ∧ m < b ^ (k + 1) ∧ k < 210))) (L := []) ?_ at_nil (eo_R fun p H' o ⟨k, e, hpost⟩ n s' hp => kk k p H' hpost n s' (by rw [hp, e]))
    refine ws_seq ?_
    refine ws_set ?_
    refine wp_lst ?_
    refine wa_cons ?_
    refine wp_c ?_
    refine wa_nil ?_
    refine ⟨by simp, fun p1 => ?_⟩
    refine ws_seq ?_
    refine ws_whileN (fun n σ L => ∃ (p : Addr) (k : Nat), σ = [some (.int b), some (.int m), some (.ref p)] ∧ L = [(p, .ob (.lst (pows b k)), true)] ∧ (k = 0 ∨ b ^ k ≤ m) ∧ n = 210 - k) ?_ ?_
    · exact ⟨210, _, 0, rfl, rfl, .inl rfl, rfl⟩
    rintro mm σ L ⟨p, k, rfl, rfl, hk, hn⟩
    have p1 := pw k hk
    have p2 := Ma.pow_small (b := b) (by omega) p1.1
    refine wt_test ?_
    refine wp_op ?_
    refine wp_op ?_
    refine wp_op ?_
    refine wp_var rfl ?_
    refine wp_un ?_
    refine wp_c ?_
    refine wu0 ?_
    refine wr_ixL (seen 0 rfl) (pows_last _ _) ?_
    refine wp_var rfl ?_
    refine wr1 (by exact mulOk (by omega) (by omega)) ?_
    refine wp_var rfl ?_
    refine wr0 ?_
    refine ⟨_, rfl, ?_⟩
    refine ifB (fun hc => ?_) (fun hc => ?_)
    · try simp only [decide_eq_true_eq, decide_eq_false_iff_not, Bool.and_eq_true, Bool.or_eq_true, Bool.not_eq_true', Bool.and_eq_false_iff, Bool.or_eq_false_iff, Bool.not_eq_false', Bool.not_true, Bool.not_false, Bool.false_or, Bool.true_and, Bool.true_or, Bool.false_and, Bool.and_true, Bool.or_false, reduceCtorEq, not_true_eq_false, not_false_eq_true, decide_true, decide_false] at hc
      refine ws_drop ?_
      refine wp_bm ?_
      refine wp_var rfl ?_
      refine ⟨ty_list 0 rfl, ?_⟩
      refine wa_cons ?_
      refine wp_op ?_
      refine wp_op ?_
      refine wp_var rfl ?_
      refine wp_un ?_
      refine wp_c ?_
      refine wu0 ?_
      refine wr_ixL (seen 0 rfl) (pows_last _ _) ?_
      refine wp_var rfl ?_
      refine wr1 (by exact mulOk (by omega) (by omega)) ?_
      refine wa_nil ?_
      refine wr_app (e := .src 0) 0 rfl (by (rw [pows_len]; omega)) ?_
      have e := Int.pow_succ b k
      exact ⟨210 - (k + 1), _, by omega, ⟨p, k + 1, rfl, by rw [pows, e]; rfl, .inr (by rw [e]; omega), rfl⟩, List.prefix_refl _⟩
    · try simp only [decide_eq_true_eq, decide_eq_false_iff_not, Bool.and_eq_true, Bool.or_eq_true, Bool.not_eq_true', Bool.and_eq_false_iff, Bool.or_eq_false_iff, Bool.not_eq_false', Bool.not_true, Bool.not_false, Bool.false_or, Bool.true_and, Bool.true_or, Bool.false_and, Bool.and_true, Bool.or_false, reduceCtorEq, not_true_eq_false, not_false_eq_true, decide_true, decide_false] at hc
      refine ws_ret ?_
      refine wp_var rfl ?_
      exact ⟨_, 0, _, rfl, rfl, k, rfl, hk, by rw [Int.pow_succ]; omega, by omega⟩
theorem sc_Scheme_base : FnScope ["self"] ["self"] (defScope s_Scheme_base) := ⟨rfl, rfl, rfl, by decide +kernel, rfl, by decide +kernel, by decide +kernel⟩
def sp_Scheme_base (CS : Addr) : Sp := fun vs H Q _ => ∃ (s dx : Addr) (b f : Int), (vs = [.ref s]) ∧ (H s = some (.ins CS dx (scF b f))) ∧ ∀ (H' : Hp), Same H H' → Q (.int b) H'
theorem wc_Scheme_base {CS : Addr} {g : Gr} {L : Led} {C : V → Led → Prop} {E : XK} {s dx : Addr} {b f : Int} {bo0 : Bool} (i0 : Nat) (h0 : L[i0]? = some (s, .ob (.ins CS dx (scF b f)), bo0)) (c : C (.int b) L) : Wp g L (fun H Q => sp_Scheme_base CS [.ref s] H Q E) C := fun H z Q q => ⟨s, dx, b, f, rfl, z.get h0, fun H' s' => q _ _ _ (c) (z.same s')⟩
theorem ok_Scheme_base (T : Top K mg CS) : OkM P w K mg base CS 1 "base" "Scheme.base" s_Scheme_base ["self"] (sp_Scheme_base CS) := by
  refine OkM.of T.f_Scheme_base sc_Scheme_base (fun _ _ _ _ _ _ us hl => match us, hl with | [_], _ => rfl) (fun vs H Q E h => ?_) (fun f cdv A outer s H vs Q E hr h => ?_)
  · obtain ⟨s, dx, b, f, rfl, _⟩ := h
    rfl
  · obtain ⟨s, dx, b, f, rfl, hh0, kk⟩ := h
    refine ⟨_, (pss_one (ps_ret (pe_fld (pv 0) rfl))), ?_⟩
    refine run_ws (σ := [some (.ref s)]) (K := kV (fun v => v = (.int b))) (L := [(s, .ob (.ins CS dx (scF b f)), false)]) ?_ (at_one hh0) (eo_V fun v H' e s' => e ▸ kk H' s')
    refine ws_ret ?_
    refine wp_fld 0 T.cl_Scheme T.n_Scheme_radix ?_
    refine wp_var rfl ?_
    refine ⟨_, _, _, _, _, rfl, rfl, scF_radix _ _, ?_⟩
    exact rfl
theorem sc_Scheme_factor : FnScope ["self"] ["self"] (defScope s_Scheme_factor) := ⟨rfl, rfl, rfl, by decide +kernel, rfl, by decide +kernel, by decide +kernel⟩
def sp_Scheme_factor (CS : Addr) : Sp := fun vs H Q _ => ∃ (s dx : Addr) (b f : Int), (vs = [.ref s]) ∧ (H s = some (.ins CS dx (scF b f))) ∧ ∀ (H' : Hp), Same H H' → Q (.int f) H'
theorem wc_Scheme_factor {CS : Addr} {g : Gr} {L : Led} {C : V → Led → Prop} {E : XK} {s dx : Addr} {b f : Int} {bo0 : Bool} (i0 : Nat) (h0 : L[i0]? = some (s, .ob (.ins CS dx (scF b f)), bo0)) (c : C (.int f) L) : Wp g L (fun H Q => sp_Scheme_factor CS [.ref s] H Q E) C := fun H z Q q => ⟨s, dx, b, f, rfl, z.get h0, fun H' s' => q _ _ _ (c) (z.same s')⟩
theorem ok_Scheme_factor (T : Top K mg CS) : OkM P w K mg base CS 1 "factor" "Scheme.factor" s_Scheme_factor ["self"] (sp_Scheme_factor CS) := by
  refine OkM.of T.f_Scheme_factor sc_Scheme_factor (fun _ _ _ _ _ _ us hl => match us, hl with | [_], _ => rfl) (fun vs H Q E h => ?_) (fun f cdv A outer s H vs Q E hr h => ?_)
  · obtain ⟨s, dx, b, f, rfl, _⟩ := h
    rfl
  · obtain ⟨s, dx, b, f, rfl, hh0, kk⟩ := h
    refine ⟨_, (pss_one (ps_ret (pe_fld (pv 0) rfl))), ?_⟩
    refine run_ws (σ := [some (.ref s)]) (K := kV (fun v => v = (.int f))) (L := [(s, .ob (.ins CS dx (scF b f)), false)]) ?_ (at_one hh0) (eo_V fun v H' e s' => e ▸ kk H' s')
    refine ws_ret ?_
    refine wp_fld 0 T.cl_Scheme T.n_Scheme_multiple ?_
    refine wp_var rfl ?_
    refine ⟨_, _, _, _, _, rfl, rfl, scF_multiple _ _, ?_⟩
    exact rfl
theorem sc_bands : FnScope ["scheme", "time", "unit", "found", "newest", "first", "last"] ["scheme", "time"] (defScope s_bands) := ⟨rfl, rfl, rfl, by decide +kernel, rfl, by decide +kernel, by decide +kernel⟩
def sp_bands (CS : Addr) : Sp := fun vs H Q _ => ∃ (s dx : Addr) (b f : Int) (t : Int), (vs = [.ref s, .int t]) ∧ (H s = some (.ins CS dx (scF b f))) ∧ (SchOk b f ∧ 0 ≤ t ∧ t ≤ 10 ^ 60) ∧ ∀ (k : Nat) (p : Addr) (H' : Hp), (t < b ^ (k + 1) ∧ k < 210) → H p = none → Same H H' → EntAt (.rows ((Ma.bandL b f t (k + 1)).map row3)) H' p → Q (.ref p) H'
theorem wc_bands {CS : Addr} {g : Gr} {L : Led} {C : V → Led → Prop} {E : XK} {s dx : Addr} {b f : Int} {t : Int} {bo0 : Bool} (i0 : Nat) (h0 : L[i0]? = some (s, .ob (.ins CS dx (scF b f)), bo0)) (hpre : SchOk b f ∧ 0 ≤ t ∧ t ≤ 10 ^ 60) (c : ∀ (k : Nat), (t < b ^ (k + 1) ∧ k < 210) → ∀ p : Addr, C (.ref p) (L ++ [(p, .rows ((Ma.bandL b f t (k + 1)).map row3), true)])) : Wp g L (fun H Q => sp_bands CS [.ref s, .int t] H Q E) C := fun H z Q q => ⟨s, dx, b, f, t, rfl, z.get h0, hpre, fun k p H' hpost n s' hp => q _ _ _ (c k hpost p) (z.newEA s' n hp)⟩
theorem ok_bands (T : Top K mg CS) : Ok P w K mg base 2 "bands" s_bands ["scheme", "time"] (sp_bands CS) := by
  refine Ok.of T.f_bands sc_bands (fun _ _ _ _ _ _ us hl => match us, hl with | [_, _], _ => rfl) (fun vs H Q E h => ?_) (fun f cdv A outer s H vs Q E hr h => ?_)
  · obtain ⟨s, dx, b, f, t, rfl, _⟩ := h
    rfl
  · obtain ⟨s, dx, b, f, t, rfl, hh0, hpre, kk⟩ := h
    have hs := hpre.1
    unfold SchOk at hs
    refine ⟨_, (pss_cons (ps_par (i := 3) (j := 4) (by rfl) sc_bands.nd rfl rfl (by decide) rfl rfl (pa_cons (pe_lst pa_nil) (pa_cons (pv 1) pa_nil)) (by rfl))
      (pss_cons (ps_for PassesOwn.never rfl (pi_list (pe_own (ok_units T) (hr.mono (by decide)) rfl (pa_cons (pe_om0 T.cl_Scheme (ok_Scheme_base T) (hr.mono (by decide)) (pv 0)) (pa_cons (pv 1) pa_nil)))) (pg_name (i := 2) sc_bands.nd rfl (Or.inl rfl)) (pss_cons (ps_set (i := 5) sc_bands.nd rfl (Or.inl rfl) (pe_op op_mulW (pe_un un_neg (pe_op op_fdivW (pe_un un_neg (pe_callB (c_max2 rfl) (by rfl) T.b_max (by decide +kernel) (pa_cons pe_int (pa_cons (pe_op op_sub (pv 1) (pe_op op_mulW (pe_om0 T.cl_Scheme (ok_Scheme_factor T) (hr.mono (by decide)) (pv 0)) (pv 2))) pa_nil)))) (pv 2))) (pv 2)))
      (pss_cons (ps_set (i := 6) sc_bands.nd rfl (Or.inl rfl) (pe_op op_mulW (pe_op op_fdivW (pv 4) (pv 2)) (pv 2)))
      (pss_cons (ps_if (pt_cmpR op_le (pv 5) (pv 6) (nomark _)) (pss_one (ps_expr (pe_bm PySem.F.plainAttrs_list PySem.F.slot_list_append PySem.F.type_list_append mt_append (pv 3) (pa_cons (pe_tup (pa_cons (pv 2) (pa_cons (pv 5) (pa_cons (pv 6) pa_nil)))) pa_nil)))) pss_nil)
      (pss_one (ps_set (i := 4) sc_bands.nd rfl (Or.inl rfl) (pe_op op_sub (pe_op op_sub (pv 1) (pe_op op_mulW (pe_om0 T.cl_Scheme (ok_Scheme_factor T) (hr.mono (by decide)) (pv 0)) (pv 2))) pe_int)))))))
      (pss_one (ps_ret (pv 3))))), ?_⟩
    refine run_ws (σ := [some (.ref s), some (.int t), none, none, none, none, none]) (K := kRows (fun rs => ∃ (k : Nat), rs = ((Ma.bandL b f t (k + 1)).map row3) ∧ (t < b ^ (k + 1) ∧ k < 210))) (L := [(s, .ob (.ins CS dx (scF b f)), false)]) ?_ (at_one hh0) (eo_Rows fun p H' rs ⟨k, e, hpost⟩ n s' hp => kk k p H' hpost n s' (e ▸ hp))
    refine ws_seq ?_
    refine ws_par ?_
    refine wa_cons ?_
    refine wp_lst ?_
    refine wa_nil ?_
    refine ⟨by simp, fun p1 => ?_⟩
    refine wa_cons ?_
    refine wp_var rfl ?_
    refine wa_nil ?_
    refine ⟨_, _, rfl, ?_⟩
    refine ws_seq ?_
    refine ws_rows 1 rfl ?_
    refine ws_nf (σ' := [_, _, _, _, _, _, _]) (L' := [_, _]) rfl rfl ?_
    refine ws_for ?_
    refine wi_list ?_
    refine wp_call ?_
    refine wa_cons ?_
    refine wp_meth 0 ?_
    refine wp_var rfl ?_
    refine ⟨_, _, _, _, rfl, rfl, scF_no _ _ (by decide +kernel) (by decide +kernel), ?_⟩
    refine wa_nil ?_
    refine wc_Scheme_base 0 rfl ?_
    refine wa_cons ?_
    refine wp_var rfl ?_
    refine wa_nil ?_
    refine wc_units (by omega) ?_
    intro ku hku
    intro p2
    refine ⟨_, _, rfl, (seen 2 rfl), ?_⟩
    refine wf_A 1 rfl (fun _ => (iter_listV (seen 2 rfl))) (fun i vs e => ∃ w2 : Option V, ∃ nw : Int, ∃ w5 : Option V, ∃ w6 : Option V, vs = [none, none, some w2, none, some (some (.int nw)), some w5, some w6] ∧ e = .rows ((Ma.bandL b f t i).map row3) ∧ (nw = Ma.nwF b f t i)) ?_ ?_ ?_
    · exact ⟨[none, none, some _, none, some _, some _, some _], rfl, _, _, _, _, rfl, rfl, rfl⟩
    · rintro i x vs e hx ⟨w2, nw, w5, w6, rfl, rfl, hI⟩
      have hi : i ≤ ku := by
        have := (List.getElem?_eq_some_iff.mp hx).1
        rw [pows_len] at this
        omega
      obtain rfl : V.int (b ^ i) = x := by
        rw [pows_get _ _ _ hi] at hx
        exact Option.some.inj hx
      have hu1 := Ma.pow_pos (b := b) (by omega) i
      have hu2 : b ^ i ≤ 10 ^ 61 := by
        have h1 := Ma.pow_mono (b := b) (by omega) hi
        rcases hku.1 with h | h
        · subst h
          rw [Int.pow_zero] at h1
          omega
        · omega
      have hfu0 : 0 ≤ f * b ^ i := Int.mul_nonneg (by omega) (by omega)
      have hfu1 : f * b ^ i ≤ 1000000 * b ^ i := Int.mul_le_mul_of_nonneg_right (by omega) (by omega)
      refine ws_nf (σ' := [_, _, _, _, _, _, _]) (L' := [_, _, _]) rfl rfl ?_
      refine ws_seq ?_
      refine ws_set ?_
      refine wp_op ?_
      refine wp_un ?_
      refine wp_op ?_
      refine wp_un ?_
      refine wp_cb ?_
      refine wa_cons ?_
      refine wp_c ?_
      refine wa_cons ?_
      refine wp_op ?_
      refine wp_var rfl ?_
      refine wp_op ?_
      refine wp_meth 0 ?_
      refine wp_var rfl ?_
      refine ⟨_, _, _, _, rfl, rfl, scF_no _ _ (by decide +kernel) (by decide +kernel), ?_⟩
      refine wa_nil ?_
      refine wc_Scheme_factor 0 rfl ?_
      refine wp_var rfl ?_
      refine wr1 (by exact mulOk (by omega) (by omega)) ?_
      refine wr0 ?_
      refine wa_nil ?_
      refine wc_max2 ?_
      refine wu0 ?_
      refine wp_var rfl ?_
      refine wr1 (by exact divOk (by omega)) ?_
      refine wu0 ?_
      refine wp_var rfl ?_
      refine wr1 (by have hc1 := Ma.ceil_bd (m := max 1 (t - f * b ^ i)) (by omega) hu1; exact mulOk (by omega) (by omega)) ?_
      refine ws_seq ?_
      refine ws_set ?_
      refine wp_op ?_
      refine wp_op ?_
      refine wp_var rfl ?_
      refine wp_var rfl ?_
      refine wr1 (by exact divOk (by omega)) ?_
      refine wp_var rfl ?_
      refine wr1 (by have hc2 := Ma.floor_bd (m := nw) hu1; have hc3 := Ma.nw_bd (b := b) (f := f) (t := t) (j := i) (by omega) (by omega) (by omega) (by omega) hI; exact mulOk (by omega) (by omega)) ?_
      refine ws_seq ?_
      refine ws_if ?_
      refine wt_test ?_
      refine wp_op ?_
      refine wp_var rfl ?_
      refine wp_var rfl ?_
      refine wr0 ?_
      refine ⟨_, rfl, ?_⟩
      refine ifB (fun hc3 => ?_) (fun hc3 => ?_)
      · try simp only [decide_eq_true_eq, decide_eq_false_iff_not, Bool.and_eq_true, Bool.or_eq_true, Bool.not_eq_true', Bool.and_eq_false_iff, Bool.or_eq_false_iff, Bool.not_eq_false', Bool.not_true, Bool.not_false, Bool.false_or, Bool.true_and, Bool.true_or, Bool.false_and, Bool.and_true, Bool.or_false, reduceCtorEq, not_true_eq_false, not_false_eq_true, decide_true, decide_false] at hc3
        refine ws_drop ?_
        refine wp_bm ?_
        refine wp_var rfl ?_
        refine ⟨ty_rows 1 rfl, ?_⟩
        refine wa_cons ?_
        refine wp_tup ?_
        refine wa_cons ?_
        refine wp_var rfl ?_
        refine wa_cons ?_
        refine wp_var rfl ?_
        refine wa_cons ?_
        refine wp_var rfl ?_
        refine wa_nil ?_
        refine ⟨by simp, fun p4 => ?_⟩
        refine wa_nil ?_
        refine wr_appT 1 3 rfl rfl (by (rw [List.length_map]; have := Ma.band_len (b := b) (f := f) (t := t) i; omega)) ?_
        refine ws_set ?_
        refine wp_op ?_
        refine wp_op ?_
        refine wp_var rfl ?_
        refine wp_op ?_
        refine wp_meth 0 ?_
        refine wp_var rfl ?_
        refine ⟨_, _, _, _, rfl, rfl, scF_no _ _ (by decide +kernel) (by decide +kernel), ?_⟩
        refine wa_nil ?_
        refine wc_Scheme_factor 0 rfl ?_
        refine wp_var rfl ?_
        refine wr1 (by exact mulOk (by omega) (by omega)) ?_
        refine wr0 ?_
        refine wp_c ?_
        refine wr0 ?_
        subst hI
        first
          | rw [Ma.band_yesE i (by assumption)]
          | rw [Ma.band_noE i (by assumption)]
        exact ⟨[none, none, some _, none, some _, some _, some _], _, ⟨rfl, _, _, _, _, rfl, rfl, rfl⟩, ⟨_, rfl⟩⟩
      · try simp only [decide_eq_true_eq, decide_eq_false_iff_not, Bool.and_eq_true, Bool.or_eq_true, Bool.not_eq_true', Bool.and_eq_false_iff, Bool.or_eq_false_iff, Bool.not_eq_false', Bool.not_true, Bool.not_false, Bool.false_or, Bool.true_and, Bool.true_or, Bool.false_and, Bool.and_true, Bool.or_false, reduceCtorEq, not_true_eq_false, not_false_eq_true, decide_true, decide_false] at hc3
        refine ws_next ?_
        refine ws_set ?_
        refine wp_op ?_
        refine wp_op ?_
        refine wp_var rfl ?_
        refine wp_op ?_
        refine wp_meth 0 ?_
        refine wp_var rfl ?_
        refine ⟨_, _, _, _, rfl, rfl, scF_no _ _ (by decide +kernel) (by decide +kernel), ?_⟩
        refine wa_nil ?_
        refine wc_Scheme_factor 0 rfl ?_
        refine wp_var rfl ?_
        refine wr1 (by exact mulOk (by omega) (by omega)) ?_
        refine wr0 ?_
        refine wp_c ?_
        refine wr0 ?_
        subst hI
        first
          | rw [Ma.band_yesE i (by assumption)]
          | rw [Ma.band_noE i (by assumption)]
        exact ⟨[none, none, some _, none, some _, some _, some _], _, ⟨rfl, _, _, _, _, rfl, rfl, rfl⟩, ⟨_, rfl⟩⟩
    rintro vs e ⟨w2, nw, w5, w6, rfl, rfl, hI⟩
    refine ws_ret ?_
    refine wp_var rfl ?_
    exact ⟨_, 1, _, rfl, rfl, ku, by rw [pows_len], hku.2⟩
theorem sc_widest_gap : FnScope ["scheme", "time", "widest", "pairs", "before", "unit", "first", "last", "number", "after", "pair"] ["scheme", "time"] (defScope s_widest_gap) := ⟨rfl, rfl, rfl, by decide +kernel, rfl, by decide +kernel, by decide +kernel⟩
def sp_widest_gap (CS : Addr) : Sp := fun vs H Q _ => ∃ (s dx : Addr) (b f : Int) (t : Int), (vs = [.ref s, .int t]) ∧ (H s = some (.ins CS dx (scF b f))) ∧ (SchOk b f ∧ 0 ≤ t ∧ t ≤ 10 ^ 60) ∧ ((t = 0) → ∀ H' : Hp, Same H H' → Q .non H') ∧ ∀ (xP yP : Int) (p : Addr) (H' : Hp), (Ma.IsWG b f t xP yP) → Same H H' → H' p = some (.tup [.int xP, .int yP]) → Q (.ref p) H'
theorem wc_widest_gap {CS : Addr} {g : Gr} {L : Led} {C : V → Led → Prop} {E : XK} {s dx : Addr} {b f : Int} {t : Int} {bo0 : Bool} (i0 : Nat) (h0 : L[i0]? = some (s, .ob (.ins CS dx (scF b f)), bo0)) (hpre : SchOk b f ∧ 0 ≤ t ∧ t ≤ 10 ^ 60) (c1 : (t = 0) → C .non L) (c2 : ∀ xP yP : Int, (Ma.IsWG b f t xP yP) → ∀ p : Addr, C (.ref p) (L ++ [(p, .ob (.tup [.int xP, .int yP]), false)])) : Wp g L (fun H Q => sp_widest_gap CS [.ref s, .int t] H Q E) C := fun H z Q q => ⟨s, dx, b, f, t, rfl, z.get h0, hpre, fun hn H' s' => q _ _ _ (c1 hn) (z.same s'), fun x y p H' hn s' hp => q _ _ _ (c2 x y hn p) ((z.same s').addT hp)⟩
theorem ok_widest_gap (T : Top K mg CS) : Ok P w K mg base 3 "widest_gap" s_widest_gap ["scheme", "time"] (sp_widest_gap CS) := by
  refine Ok.of T.f_widest_gap sc_widest_gap (fun _ _ _ _ _ _ us hl => match us, hl with | [_, _], _ => rfl) (fun vs H Q E h => ?_) (fun f cdv A outer s H vs Q E hr h => ?_)
  · obtain ⟨s, dx, b, f, t, rfl, _⟩ := h
    rfl
  · obtain ⟨s, dx, b, f, t, rfl, hh0, hpre, kk1, kk2⟩ := h
    have hs := hpre.1
    unfold SchOk at hs
    refine ⟨_, (pss_cons (ps_expr (pe_own (ok_check_time T) (hr.mono (by decide)) rfl (pa_cons (pv 1) pa_nil)))
      (pss_cons (ps_par (i := 3) (j := 4) (by rfl) sc_widest_gap.nd rfl rfl (by decide) rfl rfl (pa_cons (pe_lst pa_nil) (pa_cons pe_int pa_nil)) (by rfl))
      (pss_cons (ps_for PassesOwn.never rfl (pi_reversed rfl T.b_reversed (pa_cons (pe_own (ok_bands T) (hr.mono (by decide)) rfl (pa_cons (pv 0) (pa_cons (pv 1) pa_nil))) pa_nil)) (pg_tup rfl (pgs_cons (pg_name (i := 5) sc_widest_gap.nd rfl (Or.inl rfl)) (pgs_cons (pg_name (i := 6) sc_widest_gap.nd rfl (Or.inl rfl)) (pgs_cons (pg_name (i := 7) sc_widest_gap.nd rfl (Or.inl rfl)) pgs_nil)))) (pss_cons (ps_expr (pe_bm PySem.F.plainAttrs_list PySem.F.slot_list_append PySem.F.type_list_append mt_append (pv 3) (pa_cons (pe_tup (pa_cons (pv 4) (pa_cons (pv 6) pa_nil))) pa_nil)))
      (pss_cons (ps_if (pt_cmpR op_lt (pv 6) (pv 7) (nomark _)) (pss_one (ps_expr (pe_bm PySem.F.plainAttrs_list PySem.F.slot_list_append PySem.F.type_list_append mt_append (pv 3) (pa_cons (pe_tup (pa_cons (pv 6) (pa_cons (pe_op op_add (pv 6) (pv 5)) pa_nil))) pa_nil)))) pss_nil)
      (pss_one (ps_set (i := 4) sc_widest_gap.nd rfl (Or.inl rfl) (pv 7))))))
      (pss_cons (ps_set (i := 2) sc_widest_gap.nd rfl (Or.inr rfl) (pe_callBK (ks := ["default"]) (cr_maxDf rfl hr.units) (by rfl) T.b_max (by decide +kernel) (pa_cons (pe_lc (own := [("number", 8), ("after", 9)]) rfl sc_widest_gap.nd (pi_list (pv 3)) (blkOk_by (N := ["scheme", "time", "widest", "pairs", "before", "unit", "first", "last", "number", "after", "pair"]) (sc := defScope s_widest_gap) (by decide +kernel)) (fun _ _ _ _ _ => (pg_tupK (Kf := K) (n := 2) rfl rfl (pgs_cons (pg_name (i := 8) sc_widest_gap.nd rfl (Or.inl rfl)) (pgs_cons (pg_name (i := 9) sc_widest_gap.nd rfl (Or.inl rfl)) pgs_nil)) rfl)) (fun _ _ _ _ _ => pts_nil) (fun _ _ _ _ _ => (pe_op op_sub (pv 9) (pv 8)))) pa_nil) (pk_cons pe_int pk_nil)))
      (pss_one (ps_ret (pe_ix ix_list (pe_op op_cat (pe_lc (own := [("pair", 10)]) rfl sc_widest_gap.nd (pi_list (pv 3)) (blkOk_by (N := ["scheme", "time", "widest", "pairs", "before", "unit", "first", "last", "number", "after", "pair"]) (sc := defScope s_widest_gap) (by decide +kernel)) (fun _ _ _ _ _ => (pg_name (i := 10) sc_widest_gap.nd rfl (Or.inl rfl))) (fun _ _ _ _ _ => (pts_one (pt_cmpR op_eq (pe_op op_sub (pe_ix (ix_tupK (Kf := K) rfl) (pv 10) pe_int (fun _ _ => rfl)) (pe_ix (ix_tupK (Kf := K) rfl) (pv 10) pe_int (fun _ _ => rfl))) (pv 2) (nomark _)))) (fun _ _ _ _ _ => (pv 10))) (pe_lst (pa_cons pe_non pa_nil))) pe_int (fun _ _ => rfl)))))))), ?_⟩
    refine run_ws (σ := [some (.ref s), some (.int t), none, none, none, none, none, none, none, none, none]) (K := kPT (t = 0) (fun xP yP => Ma.IsWG b f t xP yP)) (L := [(s, .ob (.ins CS dx (scF b f)), false)]) ?_ (at_one hh0) (eo_PT kk1 kk2)
    refine ws_seq ?_
    refine ws_drop ?_
    refine wp_call ?_
    refine wa_cons ?_
    refine wp_var rfl ?_
    refine wa_nil ?_
    refine wc_check_time (by omega) ?_
    refine ws_seq ?_
    refine ws_par ?_
    refine wa_cons ?_
    refine wp_lst ?_
    refine wa_nil ?_
    refine ⟨by simp, fun p1 => ?_⟩
    refine wa_cons ?_
    refine wp_c ?_
    refine wa_nil ?_
    refine ⟨_, _, rfl, ?_⟩
    refine ws_nf (σ' := [_, _, _, _, _, _, _, _, _, _, _]) (L' := [_, _]) rfl rfl ?_
    refine ws_seq ?_
    refine ws_rows 1 rfl ?_
    refine ws_nf (σ' := [_, _, _, _, _, _, _, _, _, _, _]) (L' := [_, _]) rfl rfl ?_
    refine ws_for ?_
    refine wi_revrows 2 ?_
    refine wa_cons ?_
    refine wp_call ?_
    refine wa_cons ?_
    refine wp_var rfl ?_
    refine wa_cons ?_
    refine wp_var rfl ?_
    refine wa_nil ?_
    refine wc_bands 0 rfl ⟨by (unfold SchOk; omega), by omega⟩ ?_
    intro kB hkB
    intro p2
    refine wa_nil ?_
    refine ⟨_, _, _, rfl, rfl, ?_⟩
    refine wf_A 1 rfl (fun _ => (iter_revrows [5, 6, 7] row3 (by simp) 2 rfl (fun _ => rfl) rfl)) (fun i vs e => ∃ bf : Int, ∃ w5 : Option V, ∃ w6 : Option V, ∃ w7 : Option V, vs = [none, none, none, none, some (some (.int bf)), some w5, some w6, some w7, none, none, none] ∧ e = .rows ((Ma.foldW b f t kB i).1.map row2) ∧ (bf = (Ma.foldW b f t kB i).2)) ?_ ?_ ?_
    · exact ⟨[none, none, none, none, some _, some _, some _, some _, none, none, none], rfl, _, _, _, _, rfl, rfl, rfl⟩
    · rintro i ⟨u, y1, y2⟩ vs e hx ⟨bf, w5, w6, w7, rfl, rfl, hI⟩
      refine ws_nf (σ' := [_, _, _, _, _, _, _, _, _, _, _]) (L' := [_, _, _]) rfl rfl ?_
      refine ws_seq ?_
      refine ws_drop ?_
      refine wp_bm ?_
      refine wp_var rfl ?_
      refine ⟨ty_rows 1 rfl, ?_⟩
      refine wa_cons ?_
      refine wp_tup ?_
      refine wa_cons ?_
      refine wp_var rfl ?_
      refine wa_cons ?_
      refine wp_var rfl ?_
      refine wa_nil ?_
      refine ⟨by simp, fun p3 => ?_⟩
      refine wa_nil ?_
      refine wr_appT 1 3 rfl rfl (by (first | ((try rw [List.length_append]); rw [List.length_map]; have h1 := Ma.fold_len (b := b) (f := f) (t := t) (k := kB) i; have h2 := Ma.band_len (b := b) (f := f) (t := t) (kB + 1); have h3 := (List.getElem?_eq_some_iff.mp hx).1; rw [List.length_reverse] at h3; (try simp only [List.length_cons, List.length_nil]); omega) | (rw [List.length_map, List.length_map]; have h1 := Ma.pairs_len (b := b) (f := f) (t := t) (k := kB); have h2 := List.length_filter_le (fun p : Int × Int => decide (p.2 - p.1 = wW)) (Ma.pairsW b f t kB); omega))) ?_
      refine ws_seq ?_
      refine ws_if ?_
      refine wt_test ?_
      refine wp_op ?_
      refine wp_var rfl ?_
      refine wp_var rfl ?_
      refine wr0 ?_
      refine ⟨_, rfl, ?_⟩
      refine ifB (fun hc4 => ?_) (fun hc4 => ?_)
      · try simp only [decide_eq_true_eq, decide_eq_false_iff_not, Bool.and_eq_true, Bool.or_eq_true, Bool.not_eq_true', Bool.and_eq_false_iff, Bool.or_eq_false_iff, Bool.not_eq_false', Bool.not_true, Bool.not_false, Bool.false_or, Bool.true_and, Bool.true_or, Bool.false_and, Bool.and_true, Bool.or_false, reduceCtorEq, not_true_eq_false, not_false_eq_true, decide_true, decide_false] at hc4
        refine ws_drop ?_
        refine wp_bm ?_
        refine wp_var rfl ?_
        refine ⟨ty_rows 1 rfl, ?_⟩
        refine wa_cons ?_
        refine wp_tup ?_
        refine wa_cons ?_
        refine wp_var rfl ?_
        refine wa_cons ?_
        refine wp_op ?_
        refine wp_var rfl ?_
        refine wp_var rfl ?_
        refine wr0 ?_
        refine wa_nil ?_
        refine ⟨by simp, fun p5 => ?_⟩
        refine wa_nil ?_
        refine wr_appT 1 4 rfl rfl (by (first | ((try rw [List.length_append]); rw [List.length_map]; have h1 := Ma.fold_len (b := b) (f := f) (t := t) (k := kB) i; have h2 := Ma.band_len (b := b) (f := f) (t := t) (kB + 1); have h3 := (List.getElem?_eq_some_iff.mp hx).1; rw [List.length_reverse] at h3; (try simp only [List.length_cons, List.length_nil]); omega) | (rw [List.length_map, List.length_map]; have h1 := Ma.pairs_len (b := b) (f := f) (t := t) (k := kB); have h2 := List.length_filter_le (fun p : Int × Int => decide (p.2 - p.1 = wW)) (Ma.pairsW b f t kB); omega))) ?_
        refine ws_set ?_
        refine wp_var rfl ?_
        first
          | rw [Ma.fold_yes hx hI (by assumption)]
          | rw [Ma.fold_no hx hI (by assumption)]
        exact ⟨[none, none, none, none, some _, some _, some _, some _, none, none, none], _, ⟨rfl, _, _, _, _, rfl, rfl, by rw [Ma.foldW_succ hx]; rfl⟩, ⟨_, rfl⟩⟩
      · try simp only [decide_eq_true_eq, decide_eq_false_iff_not, Bool.and_eq_true, Bool.or_eq_true, Bool.not_eq_true', Bool.and_eq_false_iff, Bool.or_eq_false_iff, Bool.not_eq_false', Bool.not_true, Bool.not_false, Bool.false_or, Bool.true_and, Bool.true_or, Bool.false_and, Bool.and_true, Bool.or_false, reduceCtorEq, not_true_eq_false, not_false_eq_true, decide_true, decide_false] at hc4
        refine ws_next ?_
        refine ws_set ?_
        refine wp_var rfl ?_
        first
          | rw [Ma.fold_yes hx hI (by assumption)]
          | rw [Ma.fold_no hx hI (by assumption)]
        exact ⟨[none, none, none, none, some _, some _, some _, some _, none, none, none], _, ⟨rfl, _, _, _, _, rfl, rfl, by rw [Ma.foldW_succ hx]; rfl⟩, ⟨_, rfl⟩⟩
    rintro vs e ⟨bf, w5, w6, w7, rfl, rfl, hI⟩
    rw [Ma.foldW_all]
    refine ws_nf (σ' := [_, _, _, _, _, _, _, _, _, _, _]) (L' := [_, _, _]) rfl rfl ?_
    refine ws_seq ?_
    refine ws_set ?_
    refine wp_ckw ?_
    refine wa_cons ?_
    refine wp_lc ?_
    refine wi_rows 1 ?_
    refine wp_var rfl ?_
    refine ⟨_, _, _, rfl, rfl, ?_⟩
    refine lc_V V.int (fun _ => true) (fun p => p.2 - p.1) (iter_rows [8, 9] row2 1 rfl (fun _ => rfl) rfl) (fun _ => rfl) (by (have h1 := Ma.pairs_len (b := b) (f := f) (t := t) (k := kB); omega)) ?_ ?_
    · rintro p hx D acc
      refine wt_yes ?_
      refine ⟨rfl, ?_⟩
      refine ifT rfl ?_
      refine wp_op ?_
      refine wp_var rfl ?_
      refine wp_var rfl ?_
      refine wr0 ?_
      exact ⟨rfl, by first | exact List.prefix_refl _ | exact ⟨_, rfl⟩⟩
    intro p6
    refine wa_nil ?_
    refine wa_cons ?_
    refine wp_c ?_
    refine wa_nil ?_
    refine wc_maxDW (seen 3 rfl) ?_
    intro wW hWW hMW
    have hgw : ∀ p ∈ Ma.pairsW b f t kB, p.2 - p.1 ≤ wW := fun p hp => hMW _ (List.mem_map.mpr ⟨p, List.mem_filter.mpr ⟨hp, rfl⟩, rfl⟩)
    have hgm : Ma.pairsW b f t kB = [] ∨ ∃ p ∈ Ma.pairsW b f t kB, p.2 - p.1 = wW := by
      rcases hWW with h | h
      · left
        have h2 := List.map_eq_nil_iff.mp h.1
        rw [List.filter_eq_self.mpr (fun _ _ => rfl)] at h2
        exact h2
      · obtain ⟨p, hp, e⟩ := List.mem_map.mp h
        exact .inr ⟨p, (List.mem_filter.mp hp).1, e⟩
    refine ws_nf (σ' := [_, _, _, _, _, _, _, _, _, _, _]) (L' := [_, _, _, _]) rfl rfl ?_
    refine ws_ret ?_
    refine wp_op ?_
    refine wp_op ?_
    refine wp_lc ?_
    refine wi_rows 1 ?_
    refine wp_var rfl ?_
    refine ⟨_, _, _, rfl, rfl, ?_⟩
    refine lc_TN row2 (fun p => decide (p.2 - p.1 = wW)) (fun p => p) (iter_rowsN 10 row2 1 rfl) (fun _ _ => rfl) (by (have h1 := Ma.pairs_len (b := b) (f := f) (t := t) (k := kB); omega)) ?_ ?_
    · rintro p pr hx D acc
      refine wt_test ?_
      refine wp_op ?_
      refine wp_op ?_
      refine wp_op ?_
      refine wp_var rfl ?_
      refine wp_c ?_
      refine wr_ixT (seenT 5 rfl) (rfl) ?_
      refine wp_op ?_
      refine wp_var rfl ?_
      refine wp_c ?_
      refine wr_ixT (seenT 5 rfl) (rfl) ?_
      refine wr0 ?_
      refine wp_var rfl ?_
      refine wr_eqI ?_
      refine ⟨_, rfl, ?_⟩
      refine ⟨rfl, ?_⟩
      refine ifB (fun hc => ?_) (fun hc => ?_)
      · try simp only [decide_eq_true_eq, decide_eq_false_iff_not, Bool.and_eq_true, Bool.or_eq_true, Bool.not_eq_true', Bool.and_eq_false_iff, Bool.or_eq_false_iff, Bool.not_eq_false', Bool.not_true, Bool.not_false, Bool.false_or, Bool.true_and, Bool.true_or, Bool.false_and, Bool.and_true, Bool.or_false, reduceCtorEq, not_true_eq_false, not_false_eq_true, decide_true, decide_false] at hc
        refine wp_var rfl ?_
        exact ⟨⟨_, 5, _, rfl, rfl⟩, by first | exact List.prefix_refl _ | exact ⟨_, rfl⟩⟩
      · first | exact List.prefix_refl _ | exact ⟨_, rfl⟩
    intro p7
    refine wp_lst ?_
    refine wa_cons ?_
    refine wp_c ?_
    refine wa_nil ?_
    refine ⟨by simp, fun p8 => ?_⟩
    refine wr_catH 4 5 rfl rfl (by (first | ((try rw [List.length_append]); rw [List.length_map]; have h1 := Ma.fold_len (b := b) (f := f) (t := t) (k := kB) i; have h2 := Ma.band_len (b := b) (f := f) (t := t) (kB + 1); have h3 := (List.getElem?_eq_some_iff.mp hx).1; rw [List.length_reverse] at h3; (try simp only [List.length_cons, List.length_nil]); omega) | (rw [List.length_map, List.length_map]; have h1 := Ma.pairs_len (b := b) (f := f) (t := t) (k := kB); have h2 := List.length_filter_le (fun p : Int × Int => decide (p.2 - p.1 = wW)) (Ma.pairsW b f t kB); omega))) ?_ ?_
    · intro hrs p9
      have hz := List.map_eq_nil_iff.mp (List.map_eq_nil_iff.mp hrs)
      refine wp_c ?_
      refine wr_ixL (seen 6 rfl) (atI_cons0) ?_
      first
        | exact .inl ⟨rfl, Ma.pairs_nil (by omega) (by omega) (by omega) hkB.1 wW hgw hgm hz⟩
        | exact .inr ⟨gx, gy, _, none, _, rfl, rfl, Ma.pairs_first (by omega) (by omega) (by omega) hkB.1 wW hgw hfe⟩
    · intro rw_ rest_ hrs a0_ zs_ p10
      rw [List.map_id'] at hrs
      obtain ⟨⟨gx, gy⟩, gr, hfe, rfl, _⟩ := List.map_eq_cons_iff.mp hrs
      refine wp_c ?_
      refine wr_ixL (seen 7 rfl) (atI_cons0) ?_
      first
        | exact .inl ⟨rfl, Ma.pairs_nil (by omega) (by omega) (by omega) hkB.1 wW hgw hgm hz⟩
        | exact .inr ⟨gx, gy, _, 6, _, rfl, rfl, Ma.pairs_first (by omega) (by omega) (by omega) hkB.1 wW hgw hfe⟩
theorem sc_check_age : FnScope ["time", "age"] ["time", "age"] (defScope s_check_age) := ⟨rfl, rfl, rfl, by decide +kernel, rfl, by decide +kernel, by decide +kernel⟩
def sp_check_age (CS : Addr) : Sp := fun vs H Q _ => ∃ (t a : Int), (vs = [.int t, .int a]) ∧ (0 ≤ t ∧ 0 ≤ a ∧ a ≤ t) ∧ ∀ (H' : Hp), Same H H' → Q .non H'
theorem wc_check_age {CS : Addr} {g : Gr} {L : Led} {C : V → Led → Prop} {E : XK} {t a : Int} (hpre : 0 ≤ t ∧ 0 ≤ a ∧ a ≤ t) (c : C .non L) : Wp g L (fun H Q => sp_check_age CS [.int t, .int a] H Q E) C := fun H z Q q => ⟨t, a, rfl, hpre, fun H' s' => q _ _ _ (c) (z.same s')⟩
theorem ok_check_age (T : Top K mg CS) : Ok P w K mg base 3 "check_age" s_check_age ["time", "age"] (sp_check_age CS) := by
  refine Ok.of T.f_check_age sc_check_age (fun _ _ _ _ _ _ us hl => match us, hl with | [_, _], _ => rfl) (fun vs H Q E h => ?_) (fun f cdv A outer s H vs Q E hr h => ?_)
  · obtain ⟨t, a, rfl, _⟩ := h
    rfl
  · obtain ⟨t, a, rfl, hpre, kk⟩ := h
    refine ⟨_, (pss_cons (ps_expr (pe_own (ok_check_time T) (hr.mono (by decide)) rfl (pa_cons (pv 0) pa_nil)))
      (pss_one (ps_if (pt_not (pt_val (pe_own (ok_is_between T) (hr.mono (by decide)) rfl (pa_cons (pv 1) (pa_cons pe_int (pa_cons (pv 0) pa_nil)))))) (pss_one ps_never) pss_nil))), ?_⟩
    refine run_ws (σ := [some (.int t), some (.int a)]) (K := kV (fun v => v = .non)) (L := []) ?_ at_nil (eo_V fun v H' e s' => e ▸ kk H' s')
    refine ws_seq ?_
    refine ws_drop ?_
    refine wp_call ?_
    refine wa_cons ?_
    refine wp_var rfl ?_
    refine wa_nil ?_
    refine wc_check_time (by omega) ?_
    refine ws_if ?_
    refine wt_not ?_
    refine wt_B ?_
    refine wp_call ?_
    refine wa_cons ?_
    refine wp_var rfl ?_
    refine wa_cons ?_
    refine wp_c ?_
    refine wa_cons ?_
    refine wp_var rfl ?_
    refine wa_nil ?_
    refine wc_is_between ?_
    refine ⟨_, rfl, ?_⟩
    refine ifB (fun hc1 => ?_) (fun hc1 => ?_)
    · try simp only [decide_eq_true_eq, decide_eq_false_iff_not, Bool.and_eq_true, Bool.or_eq_true, Bool.not_eq_true', Bool.and_eq_false_iff, Bool.or_eq_false_iff, Bool.not_eq_false', Bool.not_true, Bool.not_false, Bool.false_or, Bool.true_and, Bool.true_or, Bool.false_and, Bool.and_true, Bool.or_false, reduceCtorEq, not_true_eq_false, not_false_eq_true, decide_true, decide_false] at hc1
      exact ws_never (by first | omega | (simp at *; done) | (exfalso; omega) | (simp at *; omega))
    · try simp only [decide_eq_true_eq, decide_eq_false_iff_not, Bool.and_eq_true, Bool.or_eq_true, Bool.not_eq_true', Bool.and_eq_false_iff, Bool.or_eq_false_iff, Bool.not_eq_false', Bool.not_true, Bool.not_false, Bool.false_or, Bool.true_and, Bool.true_or, Bool.false_and, Bool.and_true, Bool.or_false, reduceCtorEq, not_true_eq_false, not_false_eq_true, decide_true, decide_false] at hc1
      refine ws_next ?_
      exact rfl
theorem sc_newest_up_to : FnScope ["scheme", "state", "time", "found", "unit", "number"] ["scheme", "state", "time"] (defScope s_newest_up_to) := ⟨rfl, rfl, rfl, by decide +kernel, rfl, by decide +kernel, by decide +kernel⟩
def sp_newest_up_to (CS : Addr) : Sp := fun vs H Q _ => ∃ (s dx : Addr) (b f : Int) (n t : Int), (vs = [.ref s, .int n, .int t]) ∧ (H s = some (.ins CS dx (scF b f))) ∧ (SchOk b f ∧ 0 ≤ n ∧ n ≤ t ∧ t ≤ 10 ^ 60) ∧ ∀ (H' : Hp), Same H H' → Q (.int (Ma.newF b f n t)) H'
theorem wc_newest_up_to {CS : Addr} {g : Gr} {L : Led} {C : V → Led → Prop} {E : XK} {s dx : Addr} {b f : Int} {n t : Int} {bo0 : Bool} (i0 : Nat) (h0 : L[i0]? = some (s, .ob (.ins CS dx (scF b f)), bo0)) (hpre : SchOk b f ∧ 0 ≤ n ∧ n ≤ t ∧ t ≤ 10 ^ 60) (c : C (.int (Ma.newF b f n t)) L) : Wp g L (fun H Q => sp_newest_up_to CS [.ref s, .int n, .int t] H Q E) C := fun H z Q q => ⟨s, dx, b, f, n, t, rfl, z.get h0, hpre, fun H' s' => q _ _ _ (c) (z.same s')⟩
theorem ok_newest_up_to (T : Top K mg CS) : Ok P w K mg base 2 "newest_up_to" s_newest_up_to ["scheme", "state", "time"] (sp_newest_up_to CS) := by
  refine Ok.of T.f_newest_up_to sc_newest_up_to (fun _ _ _ _ _ _ us hl => match us, hl with | [_, _, _], _ => rfl) (fun vs H Q E h => ?_) (fun f cdv A outer s H vs Q E hr h => ?_)
  · obtain ⟨s, dx, b, f, n, t, rfl, _⟩ := h
    rfl
  · obtain ⟨s, dx, b, f, n, t, rfl, hh0, hpre, kk⟩ := h
    have hs := hpre.1
    unfold SchOk at hs
    refine ⟨_, (pss_cons (ps_set (i := 3) sc_newest_up_to.nd rfl (Or.inl rfl) pe_int)
      (pss_cons (ps_for PassesOwn.never rfl (pi_list (pe_own (ok_units T) (hr.mono (by decide)) rfl (pa_cons (pe_om0 T.cl_Scheme (ok_Scheme_base T) (hr.mono (by decide)) (pv 0)) (pa_cons (pv 1) pa_nil)))) (pg_name (i := 4) sc_newest_up_to.nd rfl (Or.inl rfl)) (pss_cons (ps_set (i := 5) sc_newest_up_to.nd rfl (Or.inl rfl) (pe_op op_mulW (pe_op op_fdivW (pv 1) (pv 4)) (pv 4)))
      (pss_one (ps_if (pt_cmpR op_le (pe_op op_sub (pv 2) (pv 5)) (pe_op op_mulW (pe_om0 T.cl_Scheme (ok_Scheme_factor T) (hr.mono (by decide)) (pv 0)) (pv 4)) (nomark _)) (pss_one (ps_set (i := 3) sc_newest_up_to.nd rfl (Or.inl rfl) (pe_callB (c_max2 rfl) (by rfl) T.b_max (by decide +kernel) (pa_cons (pv 3) (pa_cons (pv 5) pa_nil))))) pss_nil))))
      (pss_one (ps_ret (pv 3))))), ?_⟩
    refine run_ws (σ := [some (.ref s), some (.int n), some (.int t), none, none, none]) (K := kV (fun v => v = (.int (Ma.newF b f n t)))) (L := [(s, .ob (.ins CS dx (scF b f)), false)]) ?_ (at_one hh0) (eo_V fun v H' e s' => e ▸ kk H' s')
    refine ws_seq ?_
    refine ws_set ?_
    refine wp_c ?_
    refine ws_seq ?_
    refine ws_for ?_
    refine wi_list ?_
    refine wp_call ?_
    refine wa_cons ?_
    refine wp_meth 0 ?_
    refine wp_var rfl ?_
    refine ⟨_, _, _, _, rfl, rfl, scF_no _ _ (by decide +kernel) (by decide +kernel), ?_⟩
    refine wa_nil ?_
    refine wc_Scheme_base 0 rfl ?_
    refine wa_cons ?_
    refine wp_var rfl ?_
    refine wa_nil ?_
    refine wc_units (by omega) ?_
    intro ku hku
    intro p1
    refine ⟨_, _, rfl, (seen 1 rfl), ?_⟩
    refine wf_listS (seen 1 rfl) (fun i vs => ∃ r : Int, ∃ w4 : Option V, ∃ w5 : Option V, vs = [none, none, none, some (some (.int r)), some w4, some w5] ∧ (Ma.NewI b f n t i r)) ?_ ?_ ?_
    · exact ⟨[none, none, none, some _, some _, some _], rfl, _, _, _, rfl, Ma.NewI.zero (by omega) (by omega)⟩
    · rintro i x vs hx ⟨r, w4, w5, rfl, hI⟩
      have hi : i ≤ ku := by
        have := (List.getElem?_eq_some_iff.mp hx).1
        rw [pows_len] at this
        omega
      obtain rfl : V.int (b ^ i) = x := by
        rw [pows_get _ _ _ hi] at hx
        exact Option.some.inj hx
      have hu1 := Ma.pow_pos (b := b) (by omega) i
      have hu2 : b ^ i ≤ 10 ^ 61 := by
        have h1 := Ma.pow_mono (b := b) (by omega) hi
        rcases hku.1 with h | h
        · subst h
          rw [Int.pow_zero] at h1
          omega
        · omega
      refine wg_name ?_
      refine ws_seq ?_
      refine ws_set ?_
      refine wp_op ?_
      refine wp_op ?_
      refine wp_var rfl ?_
      refine wp_var rfl ?_
      refine wr1 (by exact divOk (by omega)) ?_
      refine wp_var rfl ?_
      have hq1 : n / b ^ i ≤ n := Int.ediv_le_self _ (by omega)
      have hq2 : 0 ≤ n / b ^ i := Int.ediv_nonneg (by omega) (by omega)
      refine wr1 (mulOk (by omega) (by omega)) ?_
      refine ws_if ?_
      refine wt_test ?_
      refine wp_op ?_
      refine wp_op ?_
      refine wp_var rfl ?_
      refine wp_var rfl ?_
      refine wr0 ?_
      refine wp_op ?_
      refine wp_meth 0 ?_
      refine wp_var rfl ?_
      refine ⟨_, _, _, _, rfl, rfl, scF_no _ _ (by decide +kernel) (by decide +kernel), ?_⟩
      refine wa_nil ?_
      refine wc_Scheme_factor 0 rfl ?_
      refine wp_var rfl ?_
      refine wr1 (by exact mulOk (by omega) (by omega)) ?_
      refine wr0 ?_
      refine ⟨_, rfl, ?_⟩
      refine ifB (fun hc2 => ?_) (fun hc2 => ?_)
      · try simp only [decide_eq_true_eq, decide_eq_false_iff_not, Bool.and_eq_true, Bool.or_eq_true, Bool.not_eq_true', Bool.and_eq_false_iff, Bool.or_eq_false_iff, Bool.not_eq_false', Bool.not_true, Bool.not_false, Bool.false_or, Bool.true_and, Bool.true_or, Bool.false_and, Bool.and_true, Bool.or_false, reduceCtorEq, not_true_eq_false, not_false_eq_true, decide_true, decide_false] at hc2
        refine ws_set ?_
        refine wp_cb ?_
        refine wa_cons ?_
        refine wp_var rfl ?_
        refine wa_cons ?_
        refine wp_var rfl ?_
        refine wa_nil ?_
        refine wc_max2 ?_
        exact ⟨[none, none, none, some _, some _, some _], ⟨rfl, _, _, _, rfl, by first | exact Ma.NewI.yes (by omega) (by omega) (by omega) (by omega) hI hc2 | exact Ma.NewI.no hI (show ¬ t - n / b ^ i * b ^ i ≤ f * b ^ i by omega)⟩, ⟨_, rfl⟩⟩
      · try simp only [decide_eq_true_eq, decide_eq_false_iff_not, Bool.and_eq_true, Bool.or_eq_true, Bool.not_eq_true', Bool.and_eq_false_iff, Bool.or_eq_false_iff, Bool.not_eq_false', Bool.not_true, Bool.not_false, Bool.false_or, Bool.true_and, Bool.true_or, Bool.false_and, Bool.and_true, Bool.or_false, reduceCtorEq, not_true_eq_false, not_false_eq_true, decide_true, decide_false] at hc2
        refine ws_next ?_
        exact ⟨[none, none, none, some _, some _, some _], ⟨rfl, _, _, _, rfl, by first | exact Ma.NewI.yes (by omega) (by omega) (by omega) (by omega) hI hc2 | exact Ma.NewI.no hI (show ¬ t - n / b ^ i * b ^ i ≤ f * b ^ i by omega)⟩, ⟨_, rfl⟩⟩
    rintro vs ⟨r, w4, w5, rfl, hI⟩
    rw [pows_len] at hI
    refine ws_ret ?_
    refine wp_var rfl ?_
    exact congrArg V.int (Ma.NewI.done (by omega) (by omega) (by omega) hku.2.1 hI)
theorem sc_restore_point : FnScope ["scheme", "time", "age"] ["scheme", "time", "age"] (defScope s_restore_point) := ⟨rfl, rfl, rfl, by decide +kernel, rfl, by decide +kernel, by decide +kernel⟩
def sp_restore_point (CS : Addr) : Sp := fun vs H Q _ => ∃ (s dx : Addr) (b f : Int) (t a : Int), (vs = [.ref s, .int t, .int a]) ∧ (H s = some (.ins CS dx (scF b f))) ∧ (SchOk b f ∧ 0 ≤ a ∧ a ≤ t ∧ t ≤ 10 ^ 60) ∧ ∀ (H' : Hp), Same H H' → Q (.int (Ma.newF b f (t - a) t)) H'
theorem wc_restore_point {CS : Addr} {g : Gr} {L : Led} {C : V → Led → Prop} {E : XK} {s dx : Addr} {b f : Int} {t a : Int} {bo0 : Bool} (i0 : Nat) (h0 : L[i0]? = some (s, .ob (.ins CS dx (scF b f)), bo0)) (hpre : SchOk b f ∧ 0 ≤ a ∧ a ≤ t ∧ t ≤ 10 ^ 60) (c : C (.int (Ma.newF b f (t - a) t)) L) : Wp g L (fun H Q => sp_restore_point CS [.ref s, .int t, .int a] H Q E) C := fun H z Q q => ⟨s, dx, b, f, t, a, rfl, z.get h0, hpre, fun H' s' => q _ _ _ (c) (z.same s')⟩
theorem ok_restore_point (T : Top K mg CS) : Ok P w K mg base 4 "restore_point" s_restore_point ["scheme", "time", "age"] (sp_restore_point CS) := by
  refine Ok.of T.f_restore_point sc_restore_point (fun _ _ _ _ _ _ us hl => match us, hl with | [_, _, _], _ => rfl) (fun vs H Q E h => ?_) (fun f cdv A outer s H vs Q E hr h => ?_)
  · obtain ⟨s, dx, b, f, t, a, rfl, _⟩ := h
    rfl
  · obtain ⟨s, dx, b, f, t, a, rfl, hh0, hpre, kk⟩ := h
    have hs := hpre.1
    unfold SchOk at hs
    refine ⟨_, (pss_cons (ps_expr (pe_own (ok_check_age T) (hr.mono (by decide)) rfl (pa_cons (pv 1) (pa_cons (pv 2) pa_nil))))
      (pss_one (ps_ret (pe_own (ok_newest_up_to T) (hr.mono (by decide)) rfl (pa_cons (pv 0) (pa_cons (pe_op op_sub (pv 1) (pv 2)) (pa_cons (pv 1) pa_nil))))))), ?_⟩
    refine run_ws (σ := [some (.ref s), some (.int t), some (.int a)]) (K := kV (fun v => v = (.int (Ma.newF b f (t - a) t)))) (L := [(s, .ob (.ins CS dx (scF b f)), false)]) ?_ (at_one hh0) (eo_V fun v H' e s' => e ▸ kk H' s')
    refine ws_seq ?_
    refine ws_drop ?_
    refine wp_call ?_
    refine wa_cons ?_
    refine wp_var rfl ?_
    refine wa_cons ?_
    refine wp_var rfl ?_
    refine wa_nil ?_
    refine wc_check_age (by omega) ?_
    refine ws_ret ?_
    refine wp_call ?_
    refine wa_cons ?_
    refine wp_var rfl ?_
    refine wa_cons ?_
    refine wp_op ?_
    refine wp_var rfl ?_
    refine wp_var rfl ?_
    refine wr0 ?_
    refine wa_cons ?_
    refine wp_var rfl ?_
    refine wa_nil ?_
    refine wc_newest_up_to 0 rfl ⟨by (unfold SchOk; omega), by omega⟩ ?_
    exact rfl
theorem sc_check_number : FnScope ["number"] ["number"] (defScope s_check_number) := ⟨rfl, rfl, rfl, by decide +kernel, rfl, by decide +kernel, by decide +kernel⟩
def sp_check_number (CS : Addr) : Sp := fun vs H Q _ => ∃ (n : Int), (vs = [.int n]) ∧ (0 ≤ n) ∧ ∀ (H' : Hp), Same H H' → Q .non H'
theorem wc_check_number {CS : Addr} {g : Gr} {L : Led} {C : V → Led → Prop} {E : XK} {n : Int} (hpre : 0 ≤ n) (c : C .non L) : Wp g L (fun H Q => sp_check_number CS [.int n] H Q E) C := fun H z Q q => ⟨n, rfl, hpre, fun H' s' => q _ _ _ (c) (z.same s')⟩
theorem ok_check_number (T : Top K mg CS) : Ok P w K mg base 2 "check_number" s_check_number ["number"] (sp_check_number CS) := by
  refine Ok.of T.f_check_number sc_check_number (fun _ _ _ _ _ _ us hl => match us, hl with | [_], _ => rfl) (fun vs H Q E h => ?_) (fun f cdv A outer s H vs Q E hr h => ?_)
  · obtain ⟨n, rfl, _⟩ := h
    rfl
  · obtain ⟨n, rfl, hpre, kk⟩ := h
    refine ⟨_, (pss_one (ps_if (PW.pt (pw_or (pt_not (pt_val (pe_own (ok_is_integer T) (hr.mono (by decide)) rfl (pa_cons (pv 0) pa_nil)))) (pw_or1 (pt_cmpR op_lt (pv 0) pe_int (nomark _))))) (pss_one ps_never) pss_nil)), ?_⟩
    refine run_ws (σ := [some (.int n)]) (K := kV (fun v => v = .non)) (L := []) ?_ at_nil (eo_V fun v H' e s' => e ▸ kk H' s')
    refine ws_if ?_
    refine wt_orP ?_
    refine wt_not ?_
    refine wt_B ?_
    refine wp_call ?_
    refine wa_cons ?_
    refine wp_var rfl ?_
    refine wa_nil ?_
    refine wc_is_integer ?_
    refine ⟨_, rfl, ?_⟩
    apply andK
    · intro hb1
      try simp only [decide_eq_true_eq, decide_eq_false_iff_not, Bool.and_eq_true, Bool.or_eq_true, Bool.not_eq_true', Bool.and_eq_false_iff, Bool.or_eq_false_iff, Bool.not_eq_false', Bool.not_true, Bool.not_false, Bool.false_or, Bool.true_and, Bool.true_or, Bool.false_and, Bool.and_true, Bool.or_false, reduceCtorEq, not_true_eq_false, not_false_eq_true, decide_true, decide_false] at hb1
      refine wt_test ?_
      refine wp_op ?_
      refine wp_var rfl ?_
      refine wp_c ?_
      refine wr0 ?_
      refine ⟨_, rfl, ?_⟩
      exact ⟨rfl, rfl⟩
    refine ifB (fun hc2 => ?_) (fun hc2 => ?_)
    · try simp only [decide_eq_true_eq, decide_eq_false_iff_not, Bool.and_eq_true, Bool.or_eq_true, Bool.not_eq_true', Bool.and_eq_false_iff, Bool.or_eq_false_iff, Bool.not_eq_false', Bool.not_true, Bool.not_false, Bool.false_or, Bool.true_and, Bool.true_or, Bool.false_and, Bool.and_true, Bool.or_false, reduceCtorEq, not_true_eq_false, not_false_eq_true, decide_true, decide_false] at hc2
      exact ws_never (by first | omega | (simp at *; done) | (exfalso; omega) | (simp at *; omega))
    · try simp only [decide_eq_true_eq, decide_eq_false_iff_not, Bool.and_eq_true, Bool.or_eq_true, Bool.not_eq_true', Bool.and_eq_false_iff, Bool.or_eq_false_iff, Bool.not_eq_false', Bool.not_true, Bool.not_false, Bool.false_or, Bool.true_and, Bool.true_or, Bool.false_and, Bool.and_true, Bool.or_false, reduceCtorEq, not_true_eq_false, not_false_eq_true, decide_true, decide_false] at hc2
      refine ws_next ?_
      exact rfl
theorem sc_Scheme_unit : FnScope ["self", "number", "unit"] ["self", "number"] (defScope s_Scheme_unit) := ⟨rfl, rfl, rfl, by decide +kernel, rfl, by decide +kernel, by decide +kernel⟩
def sp_Scheme_unit (CS : Addr) : Sp := fun vs H Q _ => ∃ (s dx : Addr) (b f : Int) (n : Int), (vs = [.ref s, .int n]) ∧ (H s = some (.ins CS dx (scF b f))) ∧ (SchOk b f ∧ 1 ≤ n ∧ n ≤ 10 ^ 60) ∧ ∀ (H' : Hp), Same H H' → Q (.int (Ma.unitF b n)) H'
theorem wc_Scheme_unit {CS : Addr} {g : Gr} {L : Led} {C : V → Led → Prop} {E : XK} {s dx : Addr} {b f : Int} {n : Int} {bo0 : Bool} (i0 : Nat) (h0 : L[i0]? = some (s, .ob (.ins CS dx (scF b f)), bo0)) (hpre : SchOk b f ∧ 1 ≤ n ∧ n ≤ 10 ^ 60) (c : C (.int (Ma.unitF b n)) L) : Wp g L (fun H Q => sp_Scheme_unit CS [.ref s, .int n] H Q E) C := fun H z Q q => ⟨s, dx, b, f, n, rfl, z.get h0, hpre, fun H' s' => q _ _ _ (c) (z.same s')⟩
theorem ok_Scheme_unit (T : Top K mg CS) : OkM P w K mg base CS 1 "unit" "Scheme.unit" s_Scheme_unit ["self", "number"] (sp_Scheme_unit CS) := by
  refine OkM.of T.f_Scheme_unit sc_Scheme_unit (fun _ _ _ _ _ _ us hl => match us, hl with | [_, _], _ => rfl) (fun vs H Q E h => ?_) (fun f cdv A outer s H vs Q E hr h => ?_)
  · obtain ⟨s, dx, b, f, n, rfl, _⟩ := h
    rfl
  · obtain ⟨s, dx, b, f, n, rfl, hh0, hpre, kk⟩ := h
    have hs := hpre.1
    unfold SchOk at hs
    refine ⟨_, (pss_cons (ps_set (i := 2) sc_Scheme_unit.nd rfl (Or.inl rfl) pe_int)
      (pss_cons (ps_while PassesOwn.never (pt_cmpR op_eq (pe_op op_mod (pv 1) (pe_op op_mulW (pv 2) (pe_fld (pv 0) rfl))) pe_int (nomark _)) (pss_one (ps_set (i := 2) sc_Scheme_unit.nd rfl (Or.inl rfl) (pe_op op_mulW (pv 2) (pe_fld (pv 0) rfl)))))
      (pss_one (ps_ret (pv 2))))), ?_⟩
    refine run_ws (σ := [some (.ref s), some (.int n), none]) (K := kV (fun v => v = (.int (Ma.unitF b n)))) (L := [(s, .ob (.ins CS dx (scF b f)), false)]) ?_ (at_one hh0) (eo_V fun v H' e s' => e ▸ kk H' s')
    refine ws_seq ?_
    refine ws_set ?_
    refine wp_c ?_
    refine ws_seq ?_
    refine ws_whileN (fun k σ L => ∃ u : Int, σ = [some (.ref s), some (.int n), some (.int u)] ∧ L = [(s, .ob (.ins CS dx (scF b f)), false)] ∧ Ma.IsPow b u ∧ u ∣ n ∧ k = (n - u).toNat) ?_ ?_
    · exact ⟨_, 1, rfl, rfl, Ma.IsPow.one b, Int.one_dvd n, rfl⟩
    rintro mm σ L ⟨u, rfl, rfl, hp, hd, hk⟩
    have hu1 := hp.pos (b := b) (by omega)
    have hu2 := Int.le_of_dvd (by omega) hd
    refine wt_test ?_
    refine wp_op ?_
    refine wp_op ?_
    refine wp_var rfl ?_
    refine wp_op ?_
    refine wp_var rfl ?_
    refine wp_fld 0 T.cl_Scheme T.n_Scheme_radix ?_
    refine wp_var rfl ?_
    refine ⟨_, _, _, _, _, rfl, rfl, scF_radix _ _, ?_⟩
    refine wr1 (by exact mulOk (by omega) (by omega)) ?_
    refine wr1 (Int.mul_pos (by omega) (by omega)) ?_
    refine wp_c ?_
    refine wr_eqI ?_
    refine ⟨_, rfl, ?_⟩
    refine ifB (fun hc => ?_) (fun hc => ?_)
    · try simp only [decide_eq_true_eq, decide_eq_false_iff_not, Bool.and_eq_true, Bool.or_eq_true, Bool.not_eq_true', Bool.and_eq_false_iff, Bool.or_eq_false_iff, Bool.not_eq_false', Bool.not_true, Bool.not_false, Bool.false_or, Bool.true_and, Bool.true_or, Bool.false_and, Bool.and_true, Bool.or_false, reduceCtorEq, not_true_eq_false, not_false_eq_true, decide_true, decide_false] at hc
      refine ws_set ?_
      refine wp_op ?_
      refine wp_var rfl ?_
      refine wp_fld 0 T.cl_Scheme T.n_Scheme_radix ?_
      refine wp_var rfl ?_
      refine ⟨_, _, _, _, _, rfl, rfl, scF_radix _ _, ?_⟩
      refine wr1 (by exact mulOk (by omega) (by omega)) ?_
      have h2 : u * 2 ≤ u * b := Int.mul_le_mul_of_nonneg_left (by omega) (by omega)
      have hd2 : u * b ∣ n := Int.dvd_of_emod_eq_zero hc
      have hu3 := Int.le_of_dvd (by omega) hd2
      exact ⟨_, _, by omega, ⟨u * b, rfl, rfl, hp.mul, hd2, rfl⟩, List.prefix_refl _⟩
    · try simp only [decide_eq_true_eq, decide_eq_false_iff_not, Bool.and_eq_true, Bool.or_eq_true, Bool.not_eq_true', Bool.and_eq_false_iff, Bool.or_eq_false_iff, Bool.not_eq_false', Bool.not_true, Bool.not_false, Bool.false_or, Bool.true_and, Bool.true_or, Bool.false_and, Bool.and_true, Bool.or_false, reduceCtorEq, not_true_eq_false, not_false_eq_true, decide_true, decide_false] at hc
      refine ws_ret ?_
      refine wp_var rfl ?_
      refine congrArg V.int (Ma.IsUnit.eq (by omega) (by omega) ⟨hp, hd, fun q => hc (Int.emod_eq_zero_of_dvd q)⟩)
theorem sc_Scheme_last_time : FnScope ["self", "number"] ["self", "number"] (defScope s_Scheme_last_time) := ⟨rfl, rfl, rfl, by decide +kernel, rfl, by decide +kernel, by decide +kernel⟩
def sp_Scheme_last_time (CS : Addr) : Sp := fun vs H Q _ => ∃ (s dx : Addr) (b f : Int) (n : Int), (vs = [.ref s, .int n]) ∧ (H s = some (.ins CS dx (scF b f))) ∧ (SchOk b f ∧ 0 ≤ n ∧ n ≤ 10 ^ 60) ∧ ∀ (H' : Hp), Same H H' → Q (if n = 0 then .non else (.int (n + f * Ma.unitF b n))) H'
theorem wc_Scheme_last_time {CS : Addr} {g : Gr} {L : Led} {C : V → Led → Prop} {E : XK} {s dx : Addr} {b f : Int} {n : Int} {bo0 : Bool} (i0 : Nat) (h0 : L[i0]? = some (s, .ob (.ins CS dx (scF b f)), bo0)) (hpre : SchOk b f ∧ 0 ≤ n ∧ n ≤ 10 ^ 60) (c : C (if n = 0 then .non else (.int (n + f * Ma.unitF b n))) L) : Wp g L (fun H Q => sp_Scheme_last_time CS [.ref s, .int n] H Q E) C := fun H z Q q => ⟨s, dx, b, f, n, rfl, z.get h0, hpre, fun H' s' => q _ _ _ (c) (z.same s')⟩
theorem wc_Scheme_last_time_pos {CS : Addr} {g : Gr} {L : Led} {C : V → Led → Prop} {E : XK} {s dx : Addr} {b f : Int} {n : Int} {bo0 : Bool} (i0 : Nat) (h0 : L[i0]? = some (s, .ob (.ins CS dx (scF b f)), bo0)) (hpre : SchOk b f ∧ 0 ≤ n ∧ n ≤ 10 ^ 60) (hz : ¬ (n = 0)) (c : C (.int (n + f * Ma.unitF b n)) L) : Wp g L (fun H Q => sp_Scheme_last_time CS [.ref s, .int n] H Q E) C := wc_Scheme_last_time i0 h0 hpre (by rw [if_neg hz]; exact c)
theorem wc_Scheme_last_time_zero {CS : Addr} {g : Gr} {L : Led} {C : V → Led → Prop} {E : XK} {s dx : Addr} {b f : Int} {n : Int} {bo0 : Bool} (i0 : Nat) (h0 : L[i0]? = some (s, .ob (.ins CS dx (scF b f)), bo0)) (hpre : SchOk b f ∧ 0 ≤ n ∧ n ≤ 10 ^ 60) (hz : n = 0) (c : C .non L) : Wp g L (fun H Q => sp_Scheme_last_time CS [.ref s, .int n] H Q E) C := wc_Scheme_last_time i0 h0 hpre (by rw [if_pos hz]; exact c)
theorem ok_Scheme_last_time (T : Top K mg CS) : OkM P w K mg base CS 3 "last_time" "Scheme.last_time" s_Scheme_last_time ["self", "number"] (sp_Scheme_last_time CS) := by
  refine OkM.of T.f_Scheme_last_time sc_Scheme_last_time (fun _ _ _ _ _ _ us hl => match us, hl with | [_, _], _ => rfl) (fun vs H Q E h => ?_) (fun f cdv A outer s H vs Q E hr h => ?_)
  · obtain ⟨s, dx, b, f, n, rfl, _⟩ := h
    rfl
  · obtain ⟨s, dx, b, f, n, rfl, hh0, hpre, kk⟩ := h
    have hs := hpre.1
    unfold SchOk at hs
    refine ⟨_, (pss_cons (ps_expr (pe_own (ok_check_number T) (hr.mono (by decide)) rfl (pa_cons (pv 1) pa_nil)))
      (pss_one (ps_ret (pe_ifExp (pt_cmpR op_eq (pv 1) pe_int (nomark _)) pe_non (pe_op op_add (pv 1) (pe_op op_mulW (pe_fld (pv 0) rfl) (pe_om T.cl_Scheme (ok_Scheme_unit T) (hr.mono (by decide)) (pv 0) (pa_cons (pv 1) pa_nil)))))))), ?_⟩
    refine run_ws (σ := [some (.ref s), some (.int n)]) (K := kV (fun v => v = (if n = 0 then .non else (.int (n + f * Ma.unitF b n))))) (L := [(s, .ob (.ins CS dx (scF b f)), false)]) ?_ (at_one hh0) (eo_V fun v H' e s' => e ▸ kk H' s')
    refine ws_seq ?_
    refine ws_drop ?_
    refine wp_call ?_
    refine wa_cons ?_
    refine wp_var rfl ?_
    refine wa_nil ?_
    refine wc_check_number (by omega) ?_
    refine ws_ret ?_
    refine wp_if ?_
    refine wt_test ?_
    refine wp_op ?_
    refine wp_var rfl ?_
    refine wp_c ?_
    refine wr_eqI ?_
    refine ⟨_, rfl, ?_⟩
    refine ifB (fun hc1 => ?_) (fun hc1 => ?_)
    · try simp only [decide_eq_true_eq, decide_eq_false_iff_not, Bool.and_eq_true, Bool.or_eq_true, Bool.not_eq_true', Bool.and_eq_false_iff, Bool.or_eq_false_iff, Bool.not_eq_false', Bool.not_true, Bool.not_false, Bool.false_or, Bool.true_and, Bool.true_or, Bool.false_and, Bool.and_true, Bool.or_false, reduceCtorEq, not_true_eq_false, not_false_eq_true, decide_true, decide_false] at hc1
      refine wp_c ?_
      exact (if_pos (by omega)).symm
    · try simp only [decide_eq_true_eq, decide_eq_false_iff_not, Bool.and_eq_true, Bool.or_eq_true, Bool.not_eq_true', Bool.and_eq_false_iff, Bool.or_eq_false_iff, Bool.not_eq_false', Bool.not_true, Bool.not_false, Bool.false_or, Bool.true_and, Bool.true_or, Bool.false_and, Bool.and_true, Bool.or_false, reduceCtorEq, not_true_eq_false, not_false_eq_true, decide_true, decide_false] at hc1
      refine wp_op ?_
      refine wp_var rfl ?_
      refine wp_op ?_
      refine wp_fld 0 T.cl_Scheme T.n_Scheme_multiple ?_
      refine wp_var rfl ?_
      refine ⟨_, _, _, _, _, rfl, rfl, scF_multiple _ _, ?_⟩
      refine wp_meth 0 ?_
      refine wp_var rfl ?_
      refine ⟨_, _, _, _, rfl, rfl, scF_no _ _ (by decide +kernel) (by decide +kernel), ?_⟩
      refine wa_cons ?_
      refine wp_var rfl ?_
      refine wa_nil ?_
      refine wc_Scheme_unit 0 rfl ⟨by (unfold SchOk; omega), by omega⟩ ?_
      have hu1 := Ma.unitF_pos (b := b) (n := n) (by omega)
      have hu2 := Ma.unitF_le (b := b) (n := n) (by omega)
      refine wr1 (mulOk (by omega) (by omega)) ?_
      refine wr0 ?_
      exact (if_neg (by omega)).symm
theorem sc_Scheme_is_kept : FnScope ["self", "number", "time"] ["self", "number", "time"] (defScope s_Scheme_is_kept) := ⟨rfl, rfl, rfl, by decide +kernel, rfl, by decide +kernel, by decide +kernel⟩
def sp_Scheme_is_kept (CS : Addr) : Sp := fun vs H Q _ => ∃ (s dx : Addr) (b f : Int) (n t : Int), (vs = [.ref s, .int n, .int t]) ∧ (H s = some (.ins CS dx (scF b f))) ∧ (SchOk b f ∧ 0 ≤ n ∧ n ≤ 10 ^ 60 ∧ 0 ≤ t) ∧ ∀ (H' : Hp), Same H H' → Q (.bl (Ma.keptB b f n t)) H'
theorem wc_Scheme_is_kept {CS : Addr} {g : Gr} {L : Led} {C : V → Led → Prop} {E : XK} {s dx : Addr} {b f : Int} {n t : Int} {bo0 : Bool} (i0 : Nat) (h0 : L[i0]? = some (s, .ob (.ins CS dx (scF b f)), bo0)) (hpre : SchOk b f ∧ 0 ≤ n ∧ n ≤ 10 ^ 60 ∧ 0 ≤ t) (c : C (.bl (Ma.keptB b f n t)) L) : Wp g L (fun H Q => sp_Scheme_is_kept CS [.ref s, .int n, .int t] H Q E) C := fun H z Q q => ⟨s, dx, b, f, n, t, rfl, z.get h0, hpre, fun H' s' => q _ _ _ (c) (z.same s')⟩
theorem ok_Scheme_is_kept (T : Top K mg CS) : OkM P w K mg base CS 4 "is_kept" "Scheme.is_kept" s_Scheme_is_kept ["self", "number", "time"] (sp_Scheme_is_kept CS) := by
  refine OkM.of T.f_Scheme_is_kept sc_Scheme_is_kept (fun _ _ _ _ _ _ us hl => match us, hl with | [_, _, _], _ => rfl) (fun vs H Q E h => ?_) (fun f cdv A outer s H vs Q E hr h => ?_)
  · obtain ⟨s, dx, b, f, n, t, rfl, _⟩ := h
    rfl
  · obtain ⟨s, dx, b, f, n, t, rfl, hh0, hpre, kk⟩ := h
    have hs := hpre.1
    unfold SchOk at hs
    refine ⟨_, (pss_cons (ps_expr (pe_own (ok_check_number T) (hr.mono (by decide)) rfl (pa_cons (pv 1) pa_nil)))
      (pss_cons (ps_expr (pe_own (ok_check_time T) (hr.mono (by decide)) rfl (pa_cons (pv 2) pa_nil)))
      (pss_one (ps_ret (pe_and (pe_cmpR op_le (pv 1) (pv 2) (nomark _)) (pe_one (pe_or (pe_cmpR op_eq (pv 1) pe_int (nomark _)) (pe_one (pe_cmpR op_le (pv 2) (pe_om T.cl_Scheme (ok_Scheme_last_time T) (hr.mono (by decide)) (pv 0) (pa_cons (pv 1) pa_nil)) (nomark _)))))))))), ?_⟩
    refine run_ws (σ := [some (.ref s), some (.int n), some (.int t)]) (K := kV (fun v => v = (.bl (Ma.keptB b f n t)))) (L := [(s, .ob (.ins CS dx (scF b f)), false)]) ?_ (at_one hh0) (eo_V fun v H' e s' => e ▸ kk H' s')
    refine ws_seq ?_
    refine ws_drop ?_
    refine wp_call ?_
    refine wa_cons ?_
    refine wp_var rfl ?_
    refine wa_nil ?_
    refine wc_check_number (by omega) ?_
    refine ws_seq ?_
    refine ws_drop ?_
    refine wp_call ?_
    refine wa_cons ?_
    refine wp_var rfl ?_
    refine wa_nil ?_
    refine wc_check_time (by omega) ?_
    refine ws_ret ?_
    refine wp_andVP ?_
    refine wp_op ?_
    refine wp_var rfl ?_
    refine wp_var rfl ?_
    refine wr0 ?_
    refine ⟨_, rfl, ?_⟩
    apply andK
    · intro hb1
      try simp only [decide_eq_true_eq, decide_eq_false_iff_not, Bool.and_eq_true, Bool.or_eq_true, Bool.not_eq_true', Bool.and_eq_false_iff, Bool.or_eq_false_iff, Bool.not_eq_false', Bool.not_true, Bool.not_false, Bool.false_or, Bool.true_and, Bool.true_or, Bool.false_and, Bool.and_true, Bool.or_false, reduceCtorEq, not_true_eq_false, not_false_eq_true, decide_true, decide_false] at hb1
      refine wp_orVP ?_
      refine wp_op ?_
      refine wp_var rfl ?_
      refine wp_c ?_
      refine wr_eqI ?_
      refine ⟨_, rfl, ?_⟩
      apply andK
      · intro hb2
        try simp only [decide_eq_true_eq, decide_eq_false_iff_not, Bool.and_eq_true, Bool.or_eq_true, Bool.not_eq_true', Bool.and_eq_false_iff, Bool.or_eq_false_iff, Bool.not_eq_false', Bool.not_true, Bool.not_false, Bool.false_or, Bool.true_and, Bool.true_or, Bool.false_and, Bool.and_true, Bool.or_false, reduceCtorEq, not_true_eq_false, not_false_eq_true, decide_true, decide_false] at hb2
        refine wp_op ?_
        refine wp_var rfl ?_
        refine wp_meth 0 ?_
        refine wp_var rfl ?_
        refine ⟨_, _, _, _, rfl, rfl, scF_no _ _ (by decide +kernel) (by decide +kernel), ?_⟩
        refine wa_cons ?_
        refine wp_var rfl ?_
        refine wa_nil ?_
        refine wc_Scheme_last_time_pos 0 rfl ⟨by (unfold SchOk; omega), by omega⟩ (by omega) ?_
        refine wr0 ?_
        exact ⟨rfl, rfl⟩
      exact ⟨rfl, rfl⟩
    exact rfl
theorem sc__law_powers : FnScope ["_law_base", "_law_most", "_law_found", "_law_power"] ["_law_base", "_law_most"] (defScope s__law_powers) := ⟨rfl, rfl, rfl, by decide +kernel, rfl, by decide +kernel, by decide +kernel⟩
def sp__law_powers (CS : Addr) : Sp := fun vs H Q _ => ∃ (b m : Int), (vs = [.int b, .int m]) ∧ (2 ≤ b ∧ b ≤ 1000 ∧ m ≤ 10 ^ 60) ∧ ∀ (k : Nat) (p : Addr) (H' : Hp), (Ma.IsPows b m k) → H p = none → Same H H' → H' p = some (.lst ((Ma.powJ b k).map V.int)) → Q (.ref p) H'
theorem wc__law_powers {CS : Addr} {g : Gr} {L : Led} {C : V → Led → Prop} {E : XK} {b m : Int} (hpre : 2 ≤ b ∧ b ≤ 1000 ∧ m ≤ 10 ^ 60) (c : ∀ (k : Nat), (Ma.IsPows b m k) → ∀ p : Addr, C (.ref p) (L ++ [(p, .ob (.lst ((Ma.powJ b k).map V.int)), true)])) : Wp g L (fun H Q => sp__law_powers CS [.int b, .int m] H Q E) C := fun H z Q q => ⟨b, m, rfl, hpre, fun k p H' hpost n s' hp => q _ _ _ (c k hpost p) (z.new s' n hp)⟩
theorem ok__law_powers (T : Top K mg CS) : Ok P w K mg base 1 "_law_powers" s__law_powers ["_law_base", "_law_most"] (sp__law_powers CS) := by
  refine Ok.of T.f__law_powers sc__law_powers (fun _ _ _ _ _ _ us hl => match us, hl with | [_, _], _ => rfl) (fun vs H Q E h => ?_) (fun f cdv A outer s H vs Q E hr h => ?_)
  · obtain ⟨b, m, rfl, _⟩ := h
    rfl
  · obtain ⟨b, m, rfl, hpre, kk⟩ := h
    refine ⟨_, (pss_cons (ps_par (i := 2) (j := 3) (by rfl) sc__law_powers.nd rfl rfl (by decide) rfl rfl (pa_cons (pe_lst pa_nil) (pa_cons pe_int pa_nil)) (by rfl))
      (pss_cons (ps_while PassesOwn.never (pt_cmpR op_le (pv 3) (pe_callB (c_max2 rfl) (by rfl) T.b_max (by decide +kernel) (pa_cons pe_int (pa_cons (pv 1) pa_nil))) (nomark _)) (pss_cons (ps_expr (pe_bm PySem.F.plainAttrs_list PySem.F.slot_list_append PySem.F.type_list_append mt_append (pv 2) (pa_cons (pv 3) pa_nil)))
      (pss_one (ps_set (i := 3) sc__law_powers.nd rfl (Or.inl rfl) (pe_op op_mulW (pv 3) (pv 0))))))
      (pss_one (ps_ret (pv 2))))), ?_⟩
    refine run_ws (σ := [some (.int b), some (.int m), none, none]) (K := kR (fun o => ∃ (k : Nat), o = (.lst ((Ma.powJ b k).map V.int)) ∧ (Ma.IsPows b m k))) (L := []) ?_ at_nil (eo_R fun p H' o ⟨k, e, hpost⟩ n s' hp => kk k p H' hpost n s' (by rw [hp, e]))
    refine ws_seq ?_
    refine ws_par ?_
    refine wa_cons ?_
    refine wp_lst ?_
    refine wa_nil ?_
    refine ⟨by simp, fun p1 => ?_⟩
    refine wa_cons ?_
    refine wp_c ?_
    refine wa_nil ?_
    refine ⟨_, _, rfl, ?_⟩
    refine ws_seq ?_
    refine ws_whileN (fun n σ L => ∃ (p : Addr) (k : Nat), σ = [some (.int b), some (.int m), some (.ref p), some (.int (b ^ k))] ∧ L = [(p, .ob (.lst ((Ma.powJ b k).map V.int)), true)] ∧ (k = 0 ∨ b ^ (k - 1) ≤ max 1 m) ∧ n = 300 - k) ?_ ?_
    · exact ⟨300, _, 0, by rw [Int.pow_zero]; rfl, rfl, .inl rfl, rfl⟩
    rintro mm σ L ⟨p, k, rfl, rfl, hk, hn⟩
    have hp1 := Ma.pow_pos (b := b) (by omega) k
    refine wt_test ?_
    refine wp_op ?_
    refine wp_var rfl ?_
    refine wp_cb ?_
    refine wa_cons ?_
    refine wp_c ?_
    refine wa_cons ?_
    refine wp_var rfl ?_
    refine wa_nil ?_
    refine wc_max2 ?_
    refine wr0 ?_
    refine ⟨_, rfl, ?_⟩
    refine ifB (fun hc => ?_) (fun hc => ?_)
    · try simp only [decide_eq_true_eq, decide_eq_false_iff_not, Bool.and_eq_true, Bool.or_eq_true, Bool.not_eq_true', Bool.and_eq_false_iff, Bool.or_eq_false_iff, Bool.not_eq_false', Bool.not_true, Bool.not_false, Bool.false_or, Bool.true_and, Bool.true_or, Bool.false_and, Bool.and_true, Bool.or_false, reduceCtorEq, not_true_eq_false, not_false_eq_true, decide_true, decide_false] at hc
      have hp2 := Ma.pow_small (b := b) (k := k) (by omega) (by omega)
      refine ws_seq ?_
      refine ws_drop ?_
      refine wp_bm ?_
      refine wp_var rfl ?_
      refine ⟨ty_list 0 rfl, ?_⟩
      refine wa_cons ?_
      refine wp_var rfl ?_
      refine wa_nil ?_
      refine wr_app (e := .src 0) 0 rfl (by (rw [List.length_map, Ma.powJ_len]; omega)) ?_
      refine ws_set ?_
      refine wp_op ?_
      refine wp_var rfl ?_
      refine wp_var rfl ?_
      refine wr1 (by exact mulOk (by omega) (by omega)) ?_
      have e := Int.pow_succ b k
      exact ⟨300 - (k + 1), _, by omega, ⟨p, k + 1, by rw [e]; rfl, by rw [← powJ_app]; rfl, .inr (by simp only [Nat.add_sub_cancel]; omega), rfl⟩, List.prefix_refl _⟩
    · try simp only [decide_eq_true_eq, decide_eq_false_iff_not, Bool.and_eq_true, Bool.or_eq_true, Bool.not_eq_true', Bool.and_eq_false_iff, Bool.or_eq_false_iff, Bool.not_eq_false', Bool.not_true, Bool.not_false, Bool.false_or, Bool.true_and, Bool.true_or, Bool.false_and, Bool.and_true, Bool.or_false, reduceCtorEq, not_true_eq_false, not_false_eq_true, decide_true, decide_false] at hc
      refine ws_ret ?_
      refine wp_var rfl ?_
      exact ⟨_, 0, _, rfl, rfl, k, rfl, Ma.IsPows.done (by omega) (by omega) hk (by omega)⟩
theorem sc__law_next : FnScope ["_law_plan", "_law_state", "_law_moment", "_law_found", "_law_power", "_law_first"] ["_law_plan", "_law_state", "_law_moment"] (defScope s__law_next) := ⟨rfl, rfl, rfl, by decide +kernel, rfl, by decide +kernel, by decide +kernel⟩
def sp__law_next (CS : Addr) : Sp := fun vs H Q _ => ∃ (t : Addr) (b f : Int) (n m : Int), (vs = [.ref t, .int n, .int m]) ∧ (H t = some (.tup [.int b, .int f])) ∧ (2 ≤ b ∧ b ≤ 1000 ∧ 1 ≤ f ∧ f ≤ 1000000 ∧ 0 ≤ n ∧ n < m ∧ m ≤ 10 ^ 50) ∧ ∀ (r : Int) (H' : Hp), (Ma.IsNext b f m (n + 1) r) → Same H H' → Q (.int r) H'
theorem wc__law_next {CS : Addr} {g : Gr} {L : Led} {C : V → Led → Prop} {E : XK} {t : Addr} {b f : Int} {n m : Int} {bo0 : Bool} (i0 : Nat) (h0 : L[i0]? = some (t, .ob (.tup [.int b, .int f]), bo0)) (hpre : 2 ≤ b ∧ b ≤ 1000 ∧ 1 ≤ f ∧ f ≤ 1000000 ∧ 0 ≤ n ∧ n < m ∧ m ≤ 10 ^ 50) (c : ∀ (r : Int), (Ma.IsNext b f m (n + 1) r) → C (.int r) L) : Wp g L (fun H Q => sp__law_next CS [.ref t, .int n, .int m] H Q E) C := fun H z Q q => ⟨t, b, f, n, m, rfl, z.get h0, hpre, fun r H' hpost s' => q _ _ _ (c r hpost) (z.same s')⟩
theorem ok__law_next (T : Top K mg CS) : Ok P w K mg base 2 "_law_next" s__law_next ["_law_plan", "_law_state", "_law_moment"] (sp__law_next CS) := by
  refine Ok.of T.f__law_next sc__law_next (fun _ _ _ _ _ _ us hl => match us, hl with | [_, _, _], _ => rfl) (fun vs H Q E h => ?_) (fun f cdv A outer s H vs Q E hr h => ?_)
  · obtain ⟨t, b, f, n, m, rfl, _⟩ := h
    rfl
  · obtain ⟨t, b, f, n, m, rfl, hh0, hpre, kk⟩ := h
    refine ⟨_, (pss_cons (ps_set (i := 3) sc__law_next.nd rfl (Or.inl rfl) (pe_lst (pa_cons (pv 2) pa_nil)))
      (pss_cons (ps_for PassesOwn.never rfl (pi_list (pe_own (ok__law_powers T) (hr.mono (by decide)) rfl (pa_cons (pe_ix ix_tup (pv 0) pe_int (fun _ _ => rfl)) (pa_cons (pv 2) pa_nil)))) (pg_name (i := 4) sc__law_next.nd rfl (Or.inl rfl)) (pss_cons (ps_set (i := 5) sc__law_next.nd rfl (Or.inl rfl) (pe_callB (c_max2 rfl) (by rfl) T.b_max (by decide +kernel) (pa_cons (pe_op op_add (pv 1) pe_int) (pa_cons (pe_op op_sub (pv 2) (pe_op op_mulW (pe_ix ix_tup (pv 0) pe_int (fun _ _ => rfl)) (pv 4))) pa_nil))))
      (pss_one (ps_expr (pe_bm PySem.F.plainAttrs_list PySem.F.slot_list_append PySem.F.type_list_append mt_append (pv 3) (pa_cons (pe_op op_mulW (pe_un un_neg (pe_op op_fdivW (pe_un un_neg (pv 5)) (pv 4))) (pv 4)) pa_nil))))))
      (pss_one (ps_ret (pe_callB (cr_min rfl) (by rfl) T.b_min (by decide +kernel) (pa_cons (pv 3) pa_nil)))))), ?_⟩
    refine run_ws (σ := [some (.ref t), some (.int n), some (.int m), none, none, none]) (K := kV (fun v => ∃ (r : Int), v = (.int r) ∧ (Ma.IsNext b f m (n + 1) r))) (L := [(t, .ob (.tup [.int b, .int f]), false)]) ?_ (at_one hh0) (eo_V fun v H' ⟨r, e, hpost⟩ s' => e ▸ kk r H' hpost s')
    refine ws_seq ?_
    refine ws_set ?_
    refine wp_lst ?_
    refine wa_cons ?_
    refine wp_var rfl ?_
    refine wa_nil ?_
    refine ⟨by simp, fun p1 => ?_⟩
    refine ws_seq ?_
    refine ws_for ?_
    refine wi_list ?_
    refine wp_call ?_
    refine wa_cons ?_
    refine wp_op ?_
    refine wp_var rfl ?_
    refine wp_c ?_
    refine wr_ixT (seenT 0 rfl) (rfl) ?_
    refine wa_cons ?_
    refine wp_var rfl ?_
    refine wa_nil ?_
    refine wc__law_powers (by omega) ?_
    intro kP hkP
    intro p2
    refine ⟨_, _, rfl, (seen 2 rfl), ?_⟩
    refine wf_A 1 rfl (fun _ => (iter_list V.int (seen 2 rfl))) (fun i vs e => ∃ w4 : Option V, ∃ w5 : Option V, vs = [none, none, none, none, some w4, some w5] ∧ e = .ob (.lst ((m :: Ma.nxL b f n m i).map V.int))) ?_ ?_ ?_
    · exact ⟨[none, none, none, none, some _, some _], rfl, _, _, rfl, rfl⟩
    · rintro i p vs e hx ⟨w4, w5, rfl, rfl⟩
      obtain ⟨hi, rfl, hp1, hp2⟩ := Ma.pows_item (by omega) hkP hx
      have hfp0 : 0 ≤ f * b ^ i := Int.mul_nonneg (by omega) (by omega)
      have hfp1 : f * b ^ i ≤ 1000000 * b ^ i := Int.mul_le_mul_of_nonneg_right (by omega) (by omega)
      refine ws_nf (σ' := [_, _, _, _, _, _]) (L' := [_, _, _]) rfl rfl ?_
      refine ws_seq ?_
      refine ws_set ?_
      refine wp_cb ?_
      refine wa_cons ?_
      refine wp_op ?_
      refine wp_var rfl ?_
      refine wp_c ?_
      refine wr0 ?_
      refine wa_cons ?_
      refine wp_op ?_
      refine wp_var rfl ?_
      refine wp_op ?_
      refine wp_op ?_
      refine wp_var rfl ?_
      refine wp_c ?_
      refine wr_ixT (seenT 0 rfl) (rfl) ?_
      refine wp_var rfl ?_
      refine wr1 (by exact mulOk (by omega) (by omega)) ?_
      refine wr0 ?_
      refine wa_nil ?_
      refine wc_max2 ?_
      refine ws_drop ?_
      refine wp_bm ?_
      refine wp_var rfl ?_
      refine ⟨ty_list 1 rfl, ?_⟩
      refine wa_cons ?_
      refine wp_op ?_
      refine wp_un ?_
      refine wp_op ?_
      refine wp_un ?_
      refine wp_var rfl ?_
      refine wu0 ?_
      refine wp_var rfl ?_
      refine wr1 (by exact divOk (by omega)) ?_
      refine wu0 ?_
      refine wp_var rfl ?_
      refine wr1 (by have hc1 := Ma.ceil_bd (m := max (n + 1) (m - f * b ^ i)) (by omega) hp1; exact mulOk (by omega) (by omega)) ?_
      refine wa_nil ?_
      refine wr_app (e := .src 0) 1 rfl (by (rw [List.length_map]; simp [Ma.nxL]; have := hkP.2.2.2; omega)) ?_
      rw [Ma.nxL_app]
      exact ⟨[none, none, none, none, some _, some _], _, ⟨rfl, _, _, rfl, rfl⟩, ⟨_, rfl⟩⟩
    rintro vs e ⟨w4, w5, rfl, rfl⟩
    refine ws_ret ?_
    refine wp_cb ?_
    refine wa_cons ?_
    refine wp_var rfl ?_
    refine wa_nil ?_
    refine wc_minL (seen 1 rfl) (by simp) ?_
    intro mD hmD hMD
    rw [Ma.powJ_len] at hmD hMD
    exact ⟨_, rfl, Ma.nx_min (by omega) (by omega) (by omega) (by omega) hkP.2.2.1 hmD hMD⟩
theorem sc__law_newest : FnScope ["_law_plan", "_law_state", "_law_clock", "_law_found", "_law_power"] ["_law_plan", "_law_state", "_law_clock"] (defScope s__law_newest) := ⟨rfl, rfl, rfl, by decide +kernel, rfl, by decide +kernel, by decide +kernel⟩
def sp__law_newest (CS : Addr) : Sp := fun vs H Q _ => ∃ (t : Addr) (b f : Int) (n m : Int), (vs = [.ref t, .int n, .int m]) ∧ (H t = some (.tup [.int b, .int f])) ∧ (2 ≤ b ∧ b ≤ 1000 ∧ 1 ≤ f ∧ f ≤ 1000000 ∧ 0 ≤ n ∧ n ≤ m ∧ m ≤ 10 ^ 50) ∧ ∀ (H' : Hp), Same H H' → Q (.int (Ma.newF b f n m)) H'
theorem wc__law_newest {CS : Addr} {g : Gr} {L : Led} {C : V → Led → Prop} {E : XK} {t : Addr} {b f : Int} {n m : Int} {bo0 : Bool} (i0 : Nat) (h0 : L[i0]? = some (t, .ob (.tup [.int b, .int f]), bo0)) (hpre : 2 ≤ b ∧ b ≤ 1000 ∧ 1 ≤ f ∧ f ≤ 1000000 ∧ 0 ≤ n ∧ n ≤ m ∧ m ≤ 10 ^ 50) (c : C (.int (Ma.newF b f n m)) L) : Wp g L (fun H Q => sp__law_newest CS [.ref t, .int n, .int m] H Q E) C := fun H z Q q => ⟨t, b, f, n, m, rfl, z.get h0, hpre, fun H' s' => q _ _ _ (c) (z.same s')⟩
theorem ok__law_newest (T : Top K mg CS) : Ok P w K mg base 2 "_law_newest" s__law_newest ["_law_plan", "_law_state", "_law_clock"] (sp__law_newest CS) := by
  refine Ok.of T.f__law_newest sc__law_newest (fun _ _ _ _ _ _ us hl => match us, hl with | [_, _, _], _ => rfl) (fun vs H Q E h => ?_) (fun f cdv A outer s H vs Q E hr h => ?_)
  · obtain ⟨t, b, f, n, m, rfl, _⟩ := h
    rfl
  · obtain ⟨t, b, f, n, m, rfl, hh0, hpre, kk⟩ := h
    refine ⟨_, (pss_cons (ps_set (i := 3) sc__law_newest.nd rfl (Or.inl rfl) (pe_lst (pa_cons pe_int pa_nil)))
      (pss_cons (ps_for PassesOwn.never rfl (pi_list (pe_own (ok__law_powers T) (hr.mono (by decide)) rfl (pa_cons (pe_ix ix_tup (pv 0) pe_int (fun _ _ => rfl)) (pa_cons (pv 1) pa_nil)))) (pg_name (i := 4) sc__law_newest.nd rfl (Or.inl rfl)) (pss_one (ps_if (pt_cmpR op_le (pe_op op_sub (pv 2) (pe_op op_mulW (pe_op op_fdivW (pv 1) (pv 4)) (pv 4))) (pe_op op_mulW (pe_ix ix_tup (pv 0) pe_int (fun _ _ => rfl)) (pv 4)) (nomark _)) (pss_one (ps_expr (pe_bm PySem.F.plainAttrs_list PySem.F.slot_list_append PySem.F.type_list_append mt_append (pv 3) (pa_cons (pe_op op_mulW (pe_op op_fdivW (pv 1) (pv 4)) (pv 4)) pa_nil)))) pss_nil)))
      (pss_one (ps_ret (pe_callB (cr_max rfl) (by rfl) T.b_max (by decide +kernel) (pa_cons (pv 3) pa_nil)))))), ?_⟩
    refine run_ws (σ := [some (.ref t), some (.int n), some (.int m), none, none]) (K := kV (fun v => v = (.int (Ma.newF b f n m)))) (L := [(t, .ob (.tup [.int b, .int f]), false)]) ?_ (at_one hh0) (eo_V fun v H' e s' => e ▸ kk H' s')
    refine ws_seq ?_
    refine ws_set ?_
    refine wp_lst ?_
    refine wa_cons ?_
    refine wp_c ?_
    refine wa_nil ?_
    refine ⟨by simp, fun p1 => ?_⟩
    refine ws_seq ?_
    refine ws_for ?_
    refine wi_list ?_
    refine wp_call ?_
    refine wa_cons ?_
    refine wp_op ?_
    refine wp_var rfl ?_
    refine wp_c ?_
    refine wr_ixT (seenT 0 rfl) (rfl) ?_
    refine wa_cons ?_
    refine wp_var rfl ?_
    refine wa_nil ?_
    refine wc__law_powers (by omega) ?_
    intro kP hkP
    intro p2
    refine ⟨_, _, rfl, (seen 2 rfl), ?_⟩
    refine wf_A 1 rfl (fun _ => (iter_list V.int (seen 2 rfl))) (fun i vs e => ∃ w4 : Option V, vs = [none, none, none, none, some w4] ∧ e = .ob (.lst ((Ma.newestL b f n m i).map V.int))) ?_ ?_ ?_
    · exact ⟨[none, none, none, none, some _], rfl, _, rfl, rfl⟩
    · rintro i p vs e hx ⟨w4, rfl, rfl⟩
      obtain ⟨hi, rfl, hp1, hp2⟩ := Ma.pows_item (by omega) hkP hx
      have hq1 : n / b ^ i ≤ n := Int.ediv_le_self _ (by omega)
      have hq2 : 0 ≤ n / b ^ i := Int.ediv_nonneg (by omega) (by omega)
      refine ws_nf (σ' := [_, _, _, _, _]) (L' := [_, _, _]) rfl rfl ?_
      refine ws_if ?_
      refine wt_test ?_
      refine wp_op ?_
      refine wp_op ?_
      refine wp_var rfl ?_
      refine wp_op ?_
      refine wp_op ?_
      refine wp_var rfl ?_
      refine wp_var rfl ?_
      refine wr1 (by exact divOk (by omega)) ?_
      refine wp_var rfl ?_
      refine wr1 (by exact mulOk (by omega) (by omega)) ?_
      refine wr0 ?_
      refine wp_op ?_
      refine wp_op ?_
      refine wp_var rfl ?_
      refine wp_c ?_
      refine wr_ixT (seenT 0 rfl) (rfl) ?_
      refine wp_var rfl ?_
      refine wr1 (by exact mulOk (by omega) (by omega)) ?_
      refine wr0 ?_
      refine ⟨_, rfl, ?_⟩
      refine ifB (fun hc3 => ?_) (fun hc3 => ?_)
      · try simp only [decide_eq_true_eq, decide_eq_false_iff_not, Bool.and_eq_true, Bool.or_eq_true, Bool.not_eq_true', Bool.and_eq_false_iff, Bool.or_eq_false_iff, Bool.not_eq_false', Bool.not_true, Bool.not_false, Bool.false_or, Bool.true_and, Bool.true_or, Bool.false_and, Bool.and_true, Bool.or_false, reduceCtorEq, not_true_eq_false, not_false_eq_true, decide_true, decide_false] at hc3
        refine ws_drop ?_
        refine wp_bm ?_
        refine wp_var rfl ?_
        refine ⟨ty_list 1 rfl, ?_⟩
        refine wa_cons ?_
        refine wp_op ?_
        refine wp_op ?_
        refine wp_var rfl ?_
        refine wp_var rfl ?_
        refine wr1 (by exact divOk (by omega)) ?_
        refine wp_var rfl ?_
        refine wr1 (by exact mulOk (by omega) (by omega)) ?_
        refine wa_nil ?_
        refine wr_app (e := .src 0) 1 rfl (by (rw [List.length_map]; have := Ma.newest_len (b := b) (f := f) (n := n) (t := m) i; have := hkP.2.2.2; omega)) ?_
        first | rw [Ma.newest_yes (i := i) (by assumption)] | rw [Ma.newest_no (i := i) (by assumption)]
        exact ⟨[none, none, none, none, some _], _, ⟨rfl, _, rfl, rfl⟩, ⟨_, rfl⟩⟩
      · try simp only [decide_eq_true_eq, decide_eq_false_iff_not, Bool.and_eq_true, Bool.or_eq_true, Bool.not_eq_true', Bool.and_eq_false_iff, Bool.or_eq_false_iff, Bool.not_eq_false', Bool.not_true, Bool.not_false, Bool.false_or, Bool.true_and, Bool.true_or, Bool.false_and, Bool.and_true, Bool.or_false, reduceCtorEq, not_true_eq_false, not_false_eq_true, decide_true, decide_false] at hc3
        refine ws_next ?_
        first | rw [Ma.newest_yes (i := i) (by assumption)] | rw [Ma.newest_no (i := i) (by assumption)]
        exact ⟨[none, none, none, none, some _], _, ⟨rfl, _, rfl, rfl⟩, ⟨_, rfl⟩⟩
    rintro vs e ⟨w4, rfl, rfl⟩
    refine ws_ret ?_
    refine wp_cb ?_
    refine wa_cons ?_
    refine wp_var rfl ?_
    refine wa_nil ?_
    refine wc_maxL (seen 1 rfl) (by exact List.length_pos_of_mem (Ma.newest_mem (b := b) (f := f) (n := n) (t := m) (by omega) (by omega) (by omega) (by omega) _).2.1) ?_
    intro mD hmD hMD
    rw [Ma.powJ_len] at hmD hMD
    exact congrArg V.int (Ma.newest_max (by omega) (by omega) (by omega) (by omega) hkP.2.2.1 hmD hMD)
theorem sc__law_pile : FnScope ["_law_base", "_law_count", "_law_total", "_law_k"] ["_law_base", "_law_count"] (defScope s__law_pile) := ⟨rfl, rfl, rfl, by decide +kernel, rfl, by decide +kernel, by decide +kernel⟩
def sp__law_pile (CS : Addr) : Sp := fun vs H Q _ => ∃ (b e : Int), (vs = [.int b, .int e]) ∧ (2 ≤ b ∧ b ≤ 1000 ∧ 0 ≤ e ∧ e ≤ 30) ∧ ∀ (H' : Hp), Same H H' → Q (.int (b ^ e.toNat)) H'
theorem wc__law_pile {CS : Addr} {g : Gr} {L : Led} {C : V → Led → Prop} {E : XK} {b e : Int} (hpre : 2 ≤ b ∧ b ≤ 1000 ∧ 0 ≤ e ∧ e ≤ 30) (c : C (.int (b ^ e.toNat)) L) : Wp g L (fun H Q => sp__law_pile CS [.int b, .int e] H Q E) C := fun H z Q q => ⟨b, e, rfl, hpre, fun H' s' => q _ _ _ (c) (z.same s')⟩
theorem ok__law_pile (T : Top K mg CS) : Ok P w K mg base 1 "_law_pile" s__law_pile ["_law_base", "_law_count"] (sp__law_pile CS) := by
  refine Ok.of T.f__law_pile sc__law_pile (fun _ _ _ _ _ _ us hl => match us, hl with | [_, _], _ => rfl) (fun vs H Q E h => ?_) (fun f cdv A outer s H vs Q E hr h => ?_)
  · obtain ⟨b, e, rfl, _⟩ := h
    rfl
  · obtain ⟨b, e, rfl, hpre, kk⟩ := h
    refine ⟨_, (pss_cons (ps_set (i := 2) sc__law_pile.nd rfl (Or.inl rfl) pe_int)
      (pss_cons (ps_for PassesOwn.never rfl (pi_rangeW1 rfl T.b_range (pa_cons (pv 1) pa_nil)) (pg_name (i := 3) sc__law_pile.nd rfl (Or.inl rfl)) (pss_one (ps_set (i := 2) sc__law_pile.nd rfl (Or.inl rfl) (pe_op op_mulW (pv 2) (pv 0)))))
      (pss_one (ps_ret (pv 2))))), ?_⟩
    refine run_ws (σ := [some (.int b), some (.int e), none, none]) (K := kV (fun v => v = (.int (b ^ e.toNat)))) (L := []) ?_ at_nil (eo_V fun v H' e s' => e ▸ kk H' s')
    refine ws_seq ?_
    refine ws_set ?_
    refine wp_c ?_
    refine ws_seq ?_
    refine ws_for ?_
    refine wi_rngW1 ?_
    refine wa_cons ?_
    refine wp_var rfl ?_
    refine wa_nil ?_
    refine ⟨_, rfl, ?_⟩
    refine wf_rngS (fun i vs => ∃ t : Int, ∃ w3 : Option V, vs = [none, none, some (some (.int t)), some w3] ∧ (t = b ^ i)) ?_ ?_ ?_
    · exact ⟨[none, none, some _, some _], rfl, _, _, rfl, by simp⟩
    · rintro i z vs hi hx ⟨t, w3, rfl, hI⟩
      refine wg_name ?_
      have hp1 := Ma.pow_pos (b := b) (by omega) i
      have hp2 := Ma.pow_le_big (b := b) (k := i) (by omega) (by omega) (by omega)
      refine ws_set ?_
      refine wp_op ?_
      refine wp_var rfl ?_
      refine wp_var rfl ?_
      refine wr1 (mulOk (by omega) (by omega)) ?_
      exact ⟨[none, none, some _, some _], ⟨rfl, _, _, rfl, by rw [Int.pow_succ, hI]⟩, ⟨_, rfl⟩⟩
    rintro vs ⟨t, w3, rfl, hI⟩
    refine ws_ret ?_
    refine wp_var rfl ?_
    exact congrArg V.int (by rw [hI])
theorem sc__law_big : FnScope ["_law_well_here", "_law_found", "_law_k"] ["_law_well_here"] (defScope s__law_big) := ⟨rfl, rfl, rfl, by decide +kernel, rfl, by decide +kernel, by decide +kernel⟩
def sp__law_big (CS : Addr) : Sp := fun vs H Q _ => ∃ (a : Addr) (m : Nat), vs = [.ref a] ∧ EntAt (.well m) H a ∧ m ≤ 200000 ∧ ∀ (r : Int) (H' : Hp), (0 ≤ r ∧ r < 10 ^ 28) → EntAt (.well (m + 5)) H' a → Exc a H H' → Q (.int r) H'
theorem wc__law_big {CS : Addr} {g : Gr} {L : Led} {C : V → Led → Prop} {E : XK} {a : Addr} {m : Nat} (i : Nat) (h : L[i]? = some (a, .well m, true)) (hm : m ≤ 200000) (c : ∀ (r : Int), (0 ≤ r ∧ r < 10 ^ 28) → C (.int r) (L.set i (a, .well (m + 5), true))) : Wp g L (fun H Q => sp__law_big CS [.ref a] H Q E) C := fun H z Q q => ⟨a, m, rfl, z.look h, hm, fun r H' hpost he hx => q _ _ _ (c r hpost) (z.draw h hx he)⟩
theorem ok__law_big (T : Top K mg CS) : Ok P w K mg base 3 "_law_big" s__law_big ["_law_well_here"] (sp__law_big CS) := by
  refine Ok.of T.f__law_big sc__law_big (fun _ _ _ _ _ _ us hl => match us, hl with | [_], _ => rfl) (fun vs H Q E h => ?_) (fun f cdv A outer s H vs Q E hr h => ?_)
  · obtain ⟨a, m, rfl, _⟩ := h
    rfl
  · obtain ⟨a, m, rfl, ⟨o_, ha, he⟩, hm, kk⟩ := h
    refine ⟨_, (pss_cons (ps_set (i := 1) sc__law_big.nd rfl (Or.inl rfl) (pe_own (ok__law_draw T) (hr.mono (by decide)) rfl (pa_cons (pv 0) (pa_cons pe_int pa_nil))))
      (pss_cons (ps_for PassesOwn.never rfl (pi_rangeW1 rfl T.b_range (pa_cons pe_int pa_nil)) (pg_name (i := 2) sc__law_big.nd rfl (Or.inl rfl)) (pss_one (ps_set (i := 1) sc__law_big.nd rfl (Or.inl rfl) (pe_op op_add (pe_op op_mulW (pv 1) (pe_op op_pow pe_int pe_int)) (pe_own (ok__law_draw T) (hr.mono (by decide)) rfl (pa_cons (pv 0) (pa_cons (pe_op op_pow pe_int pe_int) pa_nil)))))))
      (pss_one (ps_ret (pe_op op_fdivW (pv 1) (pe_own (ok__law_pile T) (hr.mono (by decide)) rfl (pa_cons pe_int (pa_cons (pe_own (ok__law_draw T) (hr.mono (by decide)) rfl (pa_cons (pv 0) (pa_cons pe_int pa_nil))) pa_nil)))))))), ?_⟩
    refine run_ws (σ := [some (.ref a), none, none]) (g := ⟨H, fun c => c = a⟩) (K := kD Ent.well a m 5 (fun v => ∃ (r : Int), v = (.int r) ∧ (0 ≤ r ∧ r < 10 ^ 28))) (L := [(a, .well m, true)]) ?_ (at_cons at_nil ha he (by simp) (fun _ => .inr rfl)) (eo_D (fun hk x => well_mono hk x) fun v H' ⟨r, e, hpost⟩ he hx => e ▸ kk r H' hpost he hx)
    refine ws_seq ?_
    refine ws_set ?_
    refine wp_call ?_
    refine wa_cons ?_
    refine wp_var rfl ?_
    refine wa_cons ?_
    refine wp_c ?_
    refine wa_nil ?_
    refine wc__law_draw 0 rfl (by omega) (by omega) ?_
    intro n1 hn1
    refine ws_seq ?_
    refine ws_for ?_
    refine wi_rngW1 ?_
    refine wa_cons ?_
    refine wp_c ?_
    refine wa_nil ?_
    refine ⟨_, rfl, ?_⟩
    refine wf_rngD Ent.well well_le 0 1 (fun i vs => ∃ r : Int, ∃ w2 : Option V, vs = [none, some (some (.int r)), some w2] ∧ (0 ≤ r ∧ i ≤ 3 ∧ (i = 0 → r < 10) ∧ (i = 1 → r < 10 ^ 10) ∧ (i = 2 → r < 10 ^ 19) ∧ (i = 3 → r < 10 ^ 28))) rfl ?_ ?_ ?_
    · exact ⟨[none, some _, some _], rfl, _, _, rfl, by omega⟩
    · rintro i z vs hi hx ⟨r, w2, rfl, hI⟩
      refine wg_name ?_
      refine ws_set ?_
      refine wp_op ?_
      refine wp_op ?_
      refine wp_var rfl ?_
      refine wp_op ?_
      refine wp_c ?_
      refine wp_c ?_
      refine wr_powc (r := 1000000000) (powOk (by decide)) (by decide) ?_
      refine wr1 (by exact mulOk (by omega) (by omega)) ?_
      refine wp_call ?_
      refine wa_cons ?_
      refine wp_var rfl ?_
      refine wa_cons ?_
      refine wp_op ?_
      refine wp_c ?_
      refine wp_c ?_
      refine wr_powc (r := 1000000000) (powOk (by decide)) (by decide) ?_
      refine wa_nil ?_
      refine wc__law_draw 0 rfl (by omega) (by omega) ?_
      intro n2 hn2
      refine wr0 ?_
      exact ⟨[none, some _, some _], ⟨rfl, _, _, rfl, by omega⟩, 1, by decide, ⟨_, rfl⟩⟩
    rintro vs ⟨r, w2, rfl, hI⟩
    refine ws_ret ?_
    refine wp_op ?_
    refine wp_var rfl ?_
    refine wp_call ?_
    refine wa_cons ?_
    refine wp_c ?_
    refine wa_cons ?_
    refine wp_call ?_
    refine wa_cons ?_
    refine wp_var rfl ?_
    refine wa_cons ?_
    refine wp_c ?_
    refine wa_nil ?_
    refine wc__law_draw 0 rfl (by omega) (by omega) ?_
    intro nD hnD
    refine wa_nil ?_
    refine wc__law_pile (by omega) ?_
    have hq1 := Ma.pow_pos (b := 10) (by decide) nD.toNat
    have hq2 := Ma.pow_le_big (b := 10) (k := nD.toNat) (by decide) (by decide) (by omega)
    have hq3 := Int.ediv_nonneg (a := r) (b := 10 ^ nD.toNat) (by omega) (by omega)
    have hq4 : r / 10 ^ nD.toNat ≤ r := Int.ediv_le_self _ (by omega)
    refine wr1 (divOk (by omega)) ?_
    exact ⟨⟨_, rfl, by omega⟩, 5, by decide, rfl⟩
theorem sc__law_far_right : FnScope ["_law_well_here", "_law_plan", "_law_here", "_law_moment", "_law_k", "_law_before", "_law_after", "_law_state", "_law_gap"] ["_law_well_here", "_law_plan", "_law_here", "_law_moment"] (defScope s__law_far_right) := ⟨rfl, rfl, rfl, by decide +kernel, rfl, by decide +kernel, by decide +kernel⟩
def sp__law_far_right (CS : Addr) : Sp := fun vs H Q _ => ∃ (a : Addr) (m : Nat) (t : Addr) (s dx : Addr) (b f cl : Int), vs = [.ref a, .ref t, .ref s, .int cl] ∧ EntAt (.well m) H a ∧ m ≤ 100000 ∧ H t = some (.tup [.int b, .int f]) ∧ t ≠ a ∧ H s = some (.ins CS dx (scF b f)) ∧ s ≠ a ∧ (SchOk b f ∧ 1 ≤ cl ∧ cl ≤ 10 ^ 40) ∧ ∀  (H' : Hp), (True) → EntAt (.well (m + 84)) H' a → Exc a H H' → Q (.bl true) H'
theorem wc__law_far_right {CS : Addr} {g : Gr} {L : Led} {C : V → Led → Prop} {E : XK} {a : Addr} {m : Nat} {t : Addr} {s dx : Addr} {b f cl : Int} {bo0 : Bool} {bo1 : Bool} (i : Nat) (h : L[i]? = some (a, .well m, true)) (hm : m ≤ 100000) (i0 : Nat) (h0 : L[i0]? = some (t, .ob (.tup [.int b, .int f]), bo0)) (hne0 : i0 ≠ i) (i1 : Nat) (h1 : L[i1]? = some (s, .ob (.ins CS dx (scF b f)), bo1)) (hne1 : i1 ≠ i) (hpre : SchOk b f ∧ 1 ≤ cl ∧ cl ≤ 10 ^ 40) (c : (True) → C (.bl true) (L.set i (a, .well (m + 84), true))) : Wp g L (fun H Q => sp__law_far_right CS [.ref a, .ref t, .ref s, .int cl] H Q E) C := fun H z Q q => ⟨a, m, t, s, dx, b, f, cl, rfl, z.look h, hm, z.get h0, z.ne h0 h hne0, z.get h1, z.ne h1 h hne1, hpre, fun  H' hpost he hx => q _ _ _ (c  hpost) (z.draw h hx he)⟩
theorem ok__law_far_right (T : Top K mg CS) : Ok P w K mg base 5 "_law_far_right" s__law_far_right ["_law_well_here", "_law_plan", "_law_here", "_law_moment"] (sp__law_far_right CS) := by
  refine Ok.of T.f__law_far_right sc__law_far_right (fun _ _ _ _ _ _ us hl => match us, hl with | [_, _, _, _], _ => rfl) (fun vs H Q E h => ?_) (fun f cdv A outer s H vs Q E hr h => ?_)
  · obtain ⟨a, m, t, s, dx, b, f, cl, rfl, _⟩ := h
    rfl
  · obtain ⟨a, m, t, s, dx, b, f, cl, rfl, ⟨o_, ha, he⟩, hm, hh0, hne0, hh1, hne1, hpre, kk⟩ := h
    have hs := hpre.1
    unfold SchOk at hs
    refine ⟨_, (pss_cons (ps_asg (pe_own (ok_widest_gap T) (hr.mono (by decide)) rfl (pa_cons (pv 2) (pa_cons (pv 3) pa_nil))) (pg_tup rfl (pgs_cons (pg_name (i := 5) sc__law_far_right.nd rfl (Or.inl rfl)) (pgs_cons (pg_name (i := 6) sc__law_far_right.nd rfl (Or.inl rfl)) pgs_nil))))
      (pss_cons (ps_if (PW.pt (pw_or (pt_not (pt_val (pe_om T.cl_Scheme (ok_Scheme_is_kept T) (hr.mono (by decide)) (pv 2) (pa_cons (pv 5) (pa_cons (pv 3) pa_nil))))) (pw_or (pt_not (pt_val (pe_om T.cl_Scheme (ok_Scheme_is_kept T) (hr.mono (by decide)) (pv 2) (pa_cons (pv 6) (pa_cons (pv 3) pa_nil))))) (pw_or1 (pt_cmpR op_ge (pv 5) (pv 6) (nomark _)))))) (pss_one (ps_ret pe_bl)) pss_nil)
      (pss_cons (ps_if (pt_cmpR op_ne (pe_own (ok_restore_point T) (hr.mono (by decide)) rfl (pa_cons (pv 2) (pa_cons (pv 3) (pa_cons (pe_op op_add (pe_op op_sub (pv 3) (pv 6)) pe_int) pa_nil)))) (pv 5) (nomark _)) (pss_one (ps_ret pe_bl)) pss_nil)
      (pss_cons (ps_for PassesOwn.never rfl (pi_rangeW1 rfl T.b_range (pa_cons pe_int pa_nil)) (pg_name (i := 4) sc__law_far_right.nd rfl (Or.inl rfl)) (pss_cons (ps_set (i := 7) sc__law_far_right.nd rfl (Or.inl rfl) (pe_own (ok__law_one T) (hr.mono (by decide)) rfl (pa_cons (pv 0) (pa_cons (pe_lst (pa_cons (pe_own (ok__law_draw T) (hr.mono (by decide)) rfl (pa_cons (pv 0) (pa_cons (pv 3) pa_nil))) (pa_cons (pe_op op_mod (pe_own (ok__law_big T) (hr.mono (by decide)) rfl (pa_cons (pv 0) pa_nil)) (pv 3)) pa_nil))) pa_nil))))
      (pss_cons (ps_set (i := 8) sc__law_far_right.nd rfl (Or.inl rfl) (pe_op op_sub (pe_own (ok__law_next T) (hr.mono (by decide)) rfl (pa_cons (pv 1) (pa_cons (pv 7) (pa_cons (pv 3) pa_nil)))) (pe_own (ok__law_newest T) (hr.mono (by decide)) rfl (pa_cons (pv 1) (pa_cons (pv 7) (pa_cons (pv 3) pa_nil))))))
      (pss_one (ps_if (pt_cmpR op_gt (pv 8) (pe_op op_sub (pv 6) (pv 5)) (nomark _)) (pss_one (ps_ret pe_bl)) pss_nil)))))
      (pss_one (ps_ret pe_bl)))))), ?_⟩
    refine run_ws (σ := [some (.ref a), some (.ref t), some (.ref s), some (.int cl), none, none, none, none, none]) (g := ⟨H, fun c => c = a⟩) (K := kD Ent.well a m 84 (fun v => v = (.bl true) ∧ (True))) (L := [(a, .well m, true), (t, .ob (.tup [.int b, .int f]), false), (s, .ob (.ins CS dx (scF b f)), false)]) ?_ (at_cons (at_consF (at_consF at_nil hh1 rfl (by simp)) hh0 rfl (by simp)) ha he (by simp; exact ⟨fun q => hne0 q.symm, fun q => hne1 q.symm⟩) (fun _ => .inr rfl)) (eo_D (fun hk x => well_mono hk x) fun v H' ⟨e, hpost⟩ he hx => e ▸ kk  H' hpost he hx)
    refine ws_seq ?_
    refine ws_asg ?_
    refine wp_call ?_
    refine wa_cons ?_
    refine wp_var rfl ?_
    refine wa_cons ?_
    refine wp_var rfl ?_
    refine wa_nil ?_
    refine wc_widest_gap 2 rfl ⟨by (unfold SchOk; omega), by omega⟩ ?_ ?_
    · intro hNG
      exfalso
      omega
    · intro xG yG hVG pG
      have hg := hVG.1
      have hg1 := hg.1
      have hg2 := hg.2.1
      have hg3 := Ma.kept_le hg.2.2.2.1
      have hg4 := Ma.wg_new hg
      have hge : cl - (cl - yG + 1) = yG - 1 := by omega
      refine wg_tup (seenT 3 rfl) rfl ?_
      refine wgs_cons (wg_name ?_)
      refine wgs_cons (wg_name ?_)
      refine wgs_nil ?_
      refine ws_nf (σ' := [_, _, _, _, _, _, _, _, _]) (L' := [_, _, _, _]) rfl rfl ?_
      refine ws_seq ?_
      refine ws_if ?_
      refine wt_orP ?_
      refine wt_not ?_
      refine wt_B ?_
      refine wp_meth 2 ?_
      refine wp_var rfl ?_
      refine ⟨_, _, _, _, rfl, rfl, scF_no _ _ (by decide +kernel) (by decide +kernel), ?_⟩
      refine wa_cons ?_
      refine wp_var rfl ?_
      refine wa_cons ?_
      refine wp_var rfl ?_
      refine wa_nil ?_
      refine wc_Scheme_is_kept 2 rfl ⟨by (unfold SchOk; omega), by omega⟩ ?_
      refine ⟨_, rfl, ?_⟩
      apply andK
      · intro hb1
        try simp only [decide_eq_true_eq, decide_eq_false_iff_not, Bool.and_eq_true, Bool.or_eq_true, Bool.not_eq_true', Bool.and_eq_false_iff, Bool.or_eq_false_iff, Bool.not_eq_false', Bool.not_true, Bool.not_false, Bool.false_or, Bool.true_and, Bool.true_or, Bool.false_and, Bool.and_true, Bool.or_false, reduceCtorEq, not_true_eq_false, not_false_eq_true, decide_true, decide_false] at hb1
        refine wt_orP ?_
        refine wt_not ?_
        refine wt_B ?_
        refine wp_meth 2 ?_
        refine wp_var rfl ?_
        refine ⟨_, _, _, _, rfl, rfl, scF_no _ _ (by decide +kernel) (by decide +kernel), ?_⟩
        refine wa_cons ?_
        refine wp_var rfl ?_
        refine wa_cons ?_
        refine wp_var rfl ?_
        refine wa_nil ?_
        refine wc_Scheme_is_kept 2 rfl ⟨by (unfold SchOk; omega), by omega⟩ ?_
        refine ⟨_, rfl, ?_⟩
        apply andK
        · intro hb2
          try simp only [decide_eq_true_eq, decide_eq_false_iff_not, Bool.and_eq_true, Bool.or_eq_true, Bool.not_eq_true', Bool.and_eq_false_iff, Bool.or_eq_false_iff, Bool.not_eq_false', Bool.not_true, Bool.not_false, Bool.false_or, Bool.true_and, Bool.true_or, Bool.false_and, Bool.and_true, Bool.or_false, reduceCtorEq, not_true_eq_false, not_false_eq_true, decide_true, decide_false] at hb2
          refine wt_test ?_
          refine wp_op ?_
          refine wp_var rfl ?_
          refine wp_var rfl ?_
          refine wr0 ?_
          refine ⟨_, rfl, ?_⟩
          exact ⟨rfl, rfl⟩
        exact ⟨rfl, rfl⟩
      refine ifB (fun hc3 => ?_) (fun hc3 => ?_)
      · try simp only [decide_eq_true_eq, decide_eq_false_iff_not, Bool.and_eq_true, Bool.or_eq_true, Bool.not_eq_true', Bool.and_eq_false_iff, Bool.or_eq_false_iff, Bool.not_eq_false', Bool.not_true, Bool.not_false, Bool.false_or, Bool.true_and, Bool.true_or, Bool.false_and, Bool.and_true, Bool.or_false, reduceCtorEq, not_true_eq_false, not_false_eq_true, decide_true, decide_false] at hc3
        all_goals
          exfalso
          rw [hg.2.2.1, hg.2.2.2.1] at hc3
          simp at hc3
          omega
      · try simp only [decide_eq_true_eq, decide_eq_false_iff_not, Bool.and_eq_true, Bool.or_eq_true, Bool.not_eq_true', Bool.and_eq_false_iff, Bool.or_eq_false_iff, Bool.not_eq_false', Bool.not_true, Bool.not_false, Bool.false_or, Bool.true_and, Bool.true_or, Bool.false_and, Bool.and_true, Bool.or_false, reduceCtorEq, not_true_eq_false, not_false_eq_true, decide_true, decide_false] at hc3
        refine ws_next ?_
        refine ws_seq ?_
        refine ws_if ?_
        refine wt_test ?_
        refine wp_op ?_
        refine wp_call ?_
        refine wa_cons ?_
        refine wp_var rfl ?_
        refine wa_cons ?_
        refine wp_var rfl ?_
        refine wa_cons ?_
        refine wp_op ?_
        refine wp_op ?_
        refine wp_var rfl ?_
        refine wp_var rfl ?_
        refine wr0 ?_
        refine wp_c ?_
        refine wr0 ?_
        refine wa_nil ?_
        refine wc_restore_point 2 rfl ⟨by (unfold SchOk; omega), by omega⟩ ?_
        refine wp_var rfl ?_
        refine wr_neI ?_
        refine ⟨_, rfl, ?_⟩
        refine ifB (fun hc4 => ?_) (fun hc4 => ?_)
        · try simp only [decide_eq_true_eq, decide_eq_false_iff_not, Bool.and_eq_true, Bool.or_eq_true, Bool.not_eq_true', Bool.and_eq_false_iff, Bool.or_eq_false_iff, Bool.not_eq_false', Bool.not_true, Bool.not_false, Bool.false_or, Bool.true_and, Bool.true_or, Bool.false_and, Bool.and_true, Bool.or_false, reduceCtorEq, not_true_eq_false, not_false_eq_true, decide_true, decide_false] at hc4
          all_goals
            exfalso
            rw [hge, hg4] at hc4
            exact hc4 rfl
        · try simp only [decide_eq_true_eq, decide_eq_false_iff_not, Bool.and_eq_true, Bool.or_eq_true, Bool.not_eq_true', Bool.and_eq_false_iff, Bool.or_eq_false_iff, Bool.not_eq_false', Bool.not_true, Bool.not_false, Bool.false_or, Bool.true_and, Bool.true_or, Bool.false_and, Bool.and_true, Bool.or_false, reduceCtorEq, not_true_eq_false, not_false_eq_true, decide_true, decide_false] at hc4
          refine ws_next ?_
          refine ws_seq ?_
          refine ws_for ?_
          refine wi_rngW1 ?_
          refine wa_cons ?_
          refine wp_c ?_
          refine wa_nil ?_
          refine ⟨_, rfl, ?_⟩
          refine wf_rngD Ent.well well_le 0 7 (fun i vs => ∃ w4 : Option V, ∃ w7 : Option V, ∃ w8 : Option V, vs = [none, none, none, none, some w4, none, none, some w7, some w8]) rfl ?_ ?_ ?_
          · exact ⟨[none, none, none, none, some _, none, none, some _, some _], rfl, _, _, _, rfl⟩
          · rintro i x vs hi hx ⟨w4, w7, w8, rfl⟩
            refine wg_name ?_
            refine ws_eq (σ' := [_, _, _, _, _, _, _, _, _]) rfl ?_
            refine ws_seq ?_
            refine ws_set ?_
            refine wp_call ?_
            refine wa_cons ?_
            refine wp_var rfl ?_
            refine wa_cons ?_
            refine wp_lst ?_
            refine wa_cons ?_
            refine wp_call ?_
            refine wa_cons ?_
            refine wp_var rfl ?_
            refine wa_cons ?_
            refine wp_var rfl ?_
            refine wa_nil ?_
            refine wc__law_draw 0 rfl (by omega) (by omega) ?_
            intro n5 hn5
            refine wa_cons ?_
            refine wp_op ?_
            refine wp_call ?_
            refine wa_cons ?_
            refine wp_var rfl ?_
            refine wa_nil ?_
            refine wc__law_big 0 rfl (by omega) ?_
            intro r6 hr6
            refine wp_var rfl ?_
            refine wr_modA (by omega) ?_
            intro a1 ha1 ha2
            refine wa_nil ?_
            refine ⟨by simp, fun p7 => ?_⟩
            refine wa_nil ?_
            refine wc__law_one (P := fun n => 0 ≤ n ∧ n < cl) 0 4 rfl rfl (by decide) (by omega) (by simp) (by (intro v hv; simp only [List.mem_cons, List.not_mem_nil, or_false] at hv; repeat' (rcases hv with hv | hv)) <;> exact ⟨_, rfl, by first | omega | decide⟩) ?_
            intro nS hnS
            refine ws_nf (σ' := [_, _, _, _, _, _, _, _, _]) (L' := [_, _, _, _, _]) rfl rfl ?_
            refine ws_seq ?_
            refine ws_set ?_
            refine wp_op ?_
            refine wp_call ?_
            refine wa_cons ?_
            refine wp_var rfl ?_
            refine wa_cons ?_
            refine wp_var rfl ?_
            refine wa_cons ?_
            refine wp_var rfl ?_
            refine wa_nil ?_
            refine wc__law_next 1 rfl (by omega) ?_
            intro rN hrN
            refine wp_call ?_
            refine wa_cons ?_
            refine wp_var rfl ?_
            refine wa_cons ?_
            refine wp_var rfl ?_
            refine wa_cons ?_
            refine wp_var rfl ?_
            refine wa_nil ?_
            refine wc__law_newest 1 rfl (by omega) ?_
            refine wr0 ?_
            refine ws_nf (σ' := [_, _, _, _, _, _, _, _, _]) (L' := [_, _, _, _, _]) rfl rfl ?_
            refine ws_if ?_
            refine wt_test ?_
            refine wp_op ?_
            refine wp_var rfl ?_
            refine wp_op ?_
            refine wp_var rfl ?_
            refine wp_var rfl ?_
            refine wr0 ?_
            refine wr0 ?_
            refine ⟨_, rfl, ?_⟩
            refine ifB (fun hc8 => ?_) (fun hc8 => ?_)
            · try simp only [decide_eq_true_eq, decide_eq_false_iff_not, Bool.and_eq_true, Bool.or_eq_true, Bool.not_eq_true', Bool.and_eq_false_iff, Bool.or_eq_false_iff, Bool.not_eq_false', Bool.not_true, Bool.not_false, Bool.false_or, Bool.true_and, Bool.true_or, Bool.false_and, Bool.and_true, Bool.or_false, reduceCtorEq, not_true_eq_false, not_false_eq_true, decide_true, decide_false] at hc8
              all_goals
                exfalso
                have := Ma.wg_state hVG (s := nS) (by omega) (by omega) hrN
                omega
            · try simp only [decide_eq_true_eq, decide_eq_false_iff_not, Bool.and_eq_true, Bool.or_eq_true, Bool.not_eq_true', Bool.and_eq_false_iff, Bool.or_eq_false_iff, Bool.not_eq_false', Bool.not_true, Bool.not_false, Bool.false_or, Bool.true_and, Bool.true_or, Bool.false_and, Bool.and_true, Bool.or_false, reduceCtorEq, not_true_eq_false, not_false_eq_true, decide_true, decide_false] at hc8
              refine ws_next ?_
              exact ⟨[none, none, none, none, some _, none, none, some _, some _], ⟨rfl, _, _, _, rfl⟩, 7, by decide, ⟨_, rfl⟩⟩
          rintro vs ⟨w4, w7, w8, rfl⟩
          refine ws_nf (σ' := [_, _, _, _, _, _, _, _, _]) (L' := [_, _, _, _]) rfl rfl ?_
          refine ws_ret ?_
          refine wp_c ?_
          exact ⟨⟨rfl, trivial⟩, 84, by decide, rfl⟩
theorem sc__law_stock : FnScope ["_law_plan", "_law_clock", "_law_found", "_law_power", "_law_first", "_law_k"] ["_law_plan", "_law_clock"] (defScope s__law_stock) := ⟨rfl, rfl, rfl, by decide +kernel, rfl, by decide +kernel, by decide +kernel⟩
def sp__law_stock (CS : Addr) : Sp := fun vs H Q _ => ∃ (t : Addr) (b f : Int) (m : Int), (vs = [.ref t, .int m]) ∧ (H t = some (.tup [.int b, .int f])) ∧ (2 ≤ b ∧ b ≤ 1000 ∧ 1 ≤ f ∧ f ≤ 50 ∧ 0 ≤ m ∧ m ≤ 10 ^ 50) ∧ ∀ (k : Nat) (p : Addr) (H' : Hp), (Ma.IsPows b m k) → H p = none → Same H H' → H' p = some (.lst ((Ma.keptL b f m).map V.int)) → Q (.ref p) H'
theorem wc__law_stock {CS : Addr} {g : Gr} {L : Led} {C : V → Led → Prop} {E : XK} {t : Addr} {b f : Int} {m : Int} {bo0 : Bool} (i0 : Nat) (h0 : L[i0]? = some (t, .ob (.tup [.int b, .int f]), bo0)) (hpre : 2 ≤ b ∧ b ≤ 1000 ∧ 1 ≤ f ∧ f ≤ 50 ∧ 0 ≤ m ∧ m ≤ 10 ^ 50) (c : ∀ (k : Nat), (Ma.IsPows b m k) → ∀ p : Addr, C (.ref p) (L ++ [(p, .ob (.lst ((Ma.keptL b f m).map V.int)), true)])) : Wp g L (fun H Q => sp__law_stock CS [.ref t, .int m] H Q E) C := fun H z Q q => ⟨t, b, f, m, rfl, z.get h0, hpre, fun k p H' hpost n s' hp => q _ _ _ (c k hpost p) (z.new s' n hp)⟩
theorem ok__law_stock (T : Top K mg CS) : Ok P w K mg base 2 "_law_stock" s__law_stock ["_law_plan", "_law_clock"] (sp__law_stock CS) := by
  refine Ok.of T.f__law_stock sc__law_stock (fun _ _ _ _ _ _ us hl => match us, hl with | [_, _], _ => rfl) (fun vs H Q E h => ?_) (fun f cdv A outer s H vs Q E hr h => ?_)
  · obtain ⟨t, b, f, m, rfl, _⟩ := h
    rfl
  · obtain ⟨t, b, f, m, rfl, hh0, hpre, kk⟩ := h
    refine ⟨_, (pss_cons (ps_set (i := 2) sc__law_stock.nd rfl (Or.inl rfl) (pe_lst (pa_cons pe_int pa_nil)))
      (pss_cons (ps_for PassesOwn.never rfl (pi_list (pe_own (ok__law_powers T) (hr.mono (by decide)) rfl (pa_cons (pe_ix ix_tup (pv 0) pe_int (fun _ _ => rfl)) (pa_cons (pv 1) pa_nil)))) (pg_name (i := 3) sc__law_stock.nd rfl (Or.inr rfl)) (pss_cons (ps_set (i := 4) sc__law_stock.nd rfl (Or.inl rfl) (pe_un un_neg (pe_op op_fdivW (pe_un un_neg (pe_callB (c_max2 rfl) (by rfl) T.b_max (by decide +kernel) (pa_cons pe_int (pa_cons (pe_op op_sub (pv 1) (pe_op op_mulW (pe_ix ix_tup (pv 0) pe_int (fun _ _ => rfl)) (pv 3))) pa_nil)))) (pv 3))))
      (pss_one (ps_expr (pe_bm PySem.F.plainAttrs_list PySem.F.slot_list_extend PySem.F.type_list_extend mt_extend (pv 2) (pa_cons (pe_lc (own := [("_law_k", 5)]) rfl sc__law_stock.nd (pi_rangeW rfl T.b_range (pa_cons (pv 4) (pa_cons (pe_op op_add (pe_op op_fdivW (pv 1) (pv 3)) pe_int) pa_nil))) (blkOk_by (N := ["_law_plan", "_law_clock", "_law_found", "_law_power", "_law_first", "_law_k"]) (sc := defScope s__law_stock) (by decide +kernel)) (fun _ _ _ _ _ => (pg_name (i := 5) sc__law_stock.nd rfl (Or.inl rfl))) (fun _ _ _ _ _ => (pts_one (pt_cmpR op_ne (pe_op op_mod (pv 5) (pe_ix (ix_tupK (Kf := K) rfl) (pv 0) pe_int (fun _ _ => rfl))) pe_int (nomark _)))) (fun _ _ _ _ _ => (pe_op op_mulW (pv 5) (pv 3)))) pa_nil))))))
      (pss_one (ps_ret (pe_callB cr_sortedI (by rfl) T.b_sorted (by decide +kernel) (pa_cons (pv 2) pa_nil)))))), ?_⟩
    refine run_ws (σ := [some (.ref t), some (.int m), none, none, none, none]) (K := kR (fun o => ∃ (k : Nat), o = (.lst ((Ma.keptL b f m).map V.int)) ∧ (Ma.IsPows b m k))) (L := [(t, .ob (.tup [.int b, .int f]), false)]) ?_ (at_one hh0) (eo_R fun p H' o ⟨k, e, hpost⟩ n s' hp => kk k p H' hpost n s' (by rw [hp, e]))
    refine ws_seq ?_
    refine ws_set ?_
    refine wp_lst ?_
    refine wa_cons ?_
    refine wp_c ?_
    refine wa_nil ?_
    refine ⟨by simp, fun p1 => ?_⟩
    refine ws_seq ?_
    refine ws_for ?_
    refine wi_list ?_
    refine wp_call ?_
    refine wa_cons ?_
    refine wp_op ?_
    refine wp_var rfl ?_
    refine wp_c ?_
    refine wr_ixT (seenT 0 rfl) (rfl) ?_
    refine wa_cons ?_
    refine wp_var rfl ?_
    refine wa_nil ?_
    refine wc__law_powers (by omega) ?_
    intro kP hkP
    intro p2
    refine ⟨_, _, rfl, (seen 2 rfl), ?_⟩
    refine wf_A 1 rfl (fun _ => (iter_list V.int (seen 2 rfl))) (fun i vs e => ∃ w3 : Option V, ∃ w4 : Option V, vs = [none, none, none, some w3, some w4, none] ∧ e = .ob (.lst ((Ma.stockL b f m i).map V.int))) ?_ ?_ ?_
    · exact ⟨[none, none, none, some _, some _, none], rfl, _, _, rfl, rfl⟩
    · rintro i p vs e hx ⟨w3, w4, rfl, rfl⟩
      obtain ⟨hi, rfl, hp1, hp2⟩ := Ma.pows_item (by omega) hkP hx
      have hfp0 : 0 ≤ f * b ^ i := Int.mul_nonneg (by omega) (by omega)
      have hfp1 : f * b ^ i ≤ 50 * b ^ i := Int.mul_le_mul_of_nonneg_right (by omega) (by omega)
      refine ws_nf (σ' := [_, _, _, _, _, _]) (L' := [_, _, _]) rfl rfl ?_
      refine ws_seq ?_
      refine ws_set ?_
      refine wp_un ?_
      refine wp_op ?_
      refine wp_un ?_
      refine wp_cb ?_
      refine wa_cons ?_
      refine wp_c ?_
      refine wa_cons ?_
      refine wp_op ?_
      refine wp_var rfl ?_
      refine wp_op ?_
      refine wp_op ?_
      refine wp_var rfl ?_
      refine wp_c ?_
      refine wr_ixT (seenT 0 rfl) (rfl) ?_
      refine wp_var rfl ?_
      refine wr1 (by exact mulOk (by omega) (by omega)) ?_
      refine wr0 ?_
      refine wa_nil ?_
      refine wc_max2 ?_
      refine wu0 ?_
      refine wp_var rfl ?_
      refine wr1 (by exact divOk (by omega)) ?_
      refine wu0 ?_
      have hF : Ma.lvlF f m (b ^ i) = -((-(max 1 (m - f * b ^ i))) / b ^ i) := rfl
      refine ws_drop ?_
      refine wp_bm ?_
      refine wp_var rfl ?_
      refine ⟨ty_list 1 rfl, ?_⟩
      refine wa_cons ?_
      refine wp_lc ?_
      refine wi_rngW2 ?_
      refine wa_cons ?_
      refine wp_var rfl ?_
      refine wa_cons ?_
      refine wp_op ?_
      refine wp_op ?_
      refine wp_var rfl ?_
      refine wp_var rfl ?_
      refine wr1 (by exact divOk (by omega)) ?_
      refine wp_c ?_
      refine wr0 ?_
      refine wa_nil ?_
      refine ⟨_, _, rfl, ?_⟩
      refine lc_Rt V.int (fun k => !decide (k % b = 0)) (fun k => k * b ^ i) (by (have h2 := Ma.lvl_rng (f := f) (t := m) (p := b ^ i) (by omega) (by omega); rw [hF] at h2; omega)) ?_ ?_
      · intro k hx0 hx1 D acc
        have hd1 : m / b ^ i ≤ m := Int.ediv_le_self _ (by omega)
        have hd2 : -((-(max 1 (m - f * b ^ i))) / b ^ i) ≤ k := hx0
        have hd3 := (Ma.lvlF_pos (f := f) (t := m) (p := b ^ i) (by omega))
        rw [hF] at hd3
        refine wt_test ?_
        refine wp_op ?_
        refine wp_op ?_
        refine wp_var rfl ?_
        refine wp_op ?_
        refine wp_var rfl ?_
        refine wp_c ?_
        refine wr_ixT (seenT 0 rfl) (rfl) ?_
        refine wr1 (by (show (0 : Int) < _; omega)) ?_
        refine wp_c ?_
        refine wr_neI ?_
        refine ⟨_, rfl, ?_⟩
        refine ⟨rfl, ?_⟩
        refine ifB (fun hc => ?_) (fun hc => ?_)
        · try simp only [decide_eq_true_eq, decide_eq_false_iff_not, Bool.and_eq_true, Bool.or_eq_true, Bool.not_eq_true', Bool.and_eq_false_iff, Bool.or_eq_false_iff, Bool.not_eq_false', Bool.not_true, Bool.not_false, Bool.false_or, Bool.true_and, Bool.true_or, Bool.false_and, Bool.and_true, Bool.or_false, reduceCtorEq, not_true_eq_false, not_false_eq_true, decide_true, decide_false] at hc
          refine wp_op ?_
          refine wp_var rfl ?_
          refine wp_var rfl ?_
          refine wr1 (by exact mulOk (by omega) (by omega)) ?_
          exact ⟨rfl, by first | exact List.prefix_refl _ | exact ⟨_, rfl⟩⟩
        · first | exact List.prefix_refl _ | exact ⟨_, rfl⟩
      intro p3
      refine wa_nil ?_
      refine wr_ext 1 3 rfl rfl (by (rw [List.length_map, List.length_map]; have h1 := Ma.stock_len (b := b) (f := f) (t := m) (by omega) (by omega) i; have h2 := Ma.lvl_len (b := b) (f := f) (t := m) (p := b ^ i) (by omega) (by omega); unfold Ma.lvlL at h2; have h3 := hkP.2.2.2; have h4 : (i : Int) * (f + 1) ≤ 210 * (f + 1) := Int.mul_le_mul_of_nonneg_right (by omega) (by omega); rw [hF] at h2; omega)) ?_
      rw [← List.map_append]
      exact ⟨[none, none, none, some _, some _, none], _, ⟨rfl, _, _, rfl, rfl⟩, ⟨_, rfl⟩⟩
    rintro vs e ⟨w3, w4, rfl, rfl⟩
    refine ws_ret ?_
    refine wp_cb ?_
    refine wa_cons ?_
    refine wp_var rfl ?_
    refine wa_nil ?_
    refine wc_sorted (seen 1 rfl) ?_
    intro nsD pD hpermD hsortD
    have e := Ma.stock_eq (b := b) (f := f) (t := m) (k := kP) (by omega) (by omega) hkP.2.2.1 (by rw [Ma.powJ_len] at hpermD; exact hpermD) hsortD
    exact ⟨_, 3, _, rfl, rfl, kP, by rw [e], hkP⟩
theorem sc__law_listed : FnScope ["_law_plan", "_law_moment", "_law_stock_here", "_law_gaps", "_law_before", "_law_after"] ["_law_plan", "_law_moment"] (defScope s__law_listed) := ⟨rfl, rfl, rfl, by decide +kernel, rfl, by decide +kernel, by decide +kernel⟩
def sp__law_listed (CS : Addr) : Sp := fun vs H Q _ => ∃ (t : Addr) (b f : Int) (m : Int), (vs = [.ref t, .int m]) ∧ (H t = some (.tup [.int b, .int f])) ∧ (2 ≤ b ∧ b ≤ 1000 ∧ 1 ≤ f ∧ f ≤ 50 ∧ 0 ≤ m ∧ m ≤ 10 ^ 50) ∧ ((m = 0) → ∀ H' : Hp, Same H H' → Q .non H') ∧ ∀ (xP yP : Int) (p : Addr) (H' : Hp), (Ma.IsWG b f m xP yP) → H p = none → Same H H' → H' p = some (.tup [.int xP, .int yP]) → Q (.ref p) H'
theorem wc__law_listed {CS : Addr} {g : Gr} {L : Led} {C : V → Led → Prop} {E : XK} {t : Addr} {b f : Int} {m : Int} {bo0 : Bool} (i0 : Nat) (h0 : L[i0]? = some (t, .ob (.tup [.int b, .int f]), bo0)) (hpre : 2 ≤ b ∧ b ≤ 1000 ∧ 1 ≤ f ∧ f ≤ 50 ∧ 0 ≤ m ∧ m ≤ 10 ^ 50) (c1 : (m = 0) → C .non L) (c2 : ∀ xP yP : Int, (Ma.IsWG b f m xP yP) → ∀ p : Addr, C (.ref p) (L ++ [(p, .ob (.tup [.int xP, .int yP]), true)])) : Wp g L (fun H Q => sp__law_listed CS [.ref t, .int m] H Q E) C := fun H z Q q => ⟨t, b, f, m, rfl, z.get h0, hpre, fun hn H' s' => q _ _ _ (c1 hn) (z.same s'), fun x y p H' hn np s' hp => q _ _ _ (c2 x y hn p) (z.new s' np hp)⟩
theorem ok__law_listed (T : Top K mg CS) : Ok P w K mg base 3 "_law_listed" s__law_listed ["_law_plan", "_law_moment"] (sp__law_listed CS) := by
  refine Ok.of T.f__law_listed sc__law_listed (fun _ _ _ _ _ _ us hl => match us, hl with | [_, _], _ => rfl) (fun vs H Q E h => ?_) (fun f cdv A outer s H vs Q E hr h => ?_)
  · obtain ⟨t, b, f, m, rfl, _⟩ := h
    rfl
  · obtain ⟨t, b, f, m, rfl, hh0, hpre, kk1, kk2⟩ := h
    refine ⟨_, (pss_cons (ps_set (i := 2) sc__law_listed.nd rfl (Or.inl rfl) (pe_own (ok__law_stock T) (hr.mono (by decide)) rfl (pa_cons (pv 0) (pa_cons (pv 1) pa_nil))))
      (pss_cons (ps_setLc (i := 3) (own := [("_law_before", 4), ("_law_after", 5)]) rfl sc__law_listed.nd rfl rfl (sw_true rfl rfl rfl (by decide +kernel)) (pi_zip rfl T.b_zip (pa_cons (pv 2) (pa_cons (pe_slice sl_list (pv 2) (po_some pe_int) po_none) pa_nil))) (blkOk_by (N := ["_law_plan", "_law_moment", "_law_stock_here", "_law_gaps", "_law_before", "_law_after"]) (sc := defScope s__law_listed) (by decide +kernel)) (fun _ _ _ _ _ => (pg_tupK (Kf := K) (n := 2) rfl rfl (pgs_cons (pg_name (i := 4) sc__law_listed.nd rfl (Or.inl rfl)) (pgs_cons (pg_name (i := 5) sc__law_listed.nd rfl (Or.inl rfl)) pgs_nil)) rfl)) (fun _ _ _ _ _ => pts_nil) (fun _ _ _ _ _ => (pe_tup (pa_cons (pe_op op_sub (pv 4) (pv 5)) (pa_cons (pv 4) (pa_cons (pv 5) pa_nil))))))
      (pss_one (ps_ret (pe_ifExp (pt_cmpR (op_neD hr.units) (pv 3) (pe_lst pa_nil) (nomark _)) (pe_slice sl_tup (pe_callB (cr_minDt rfl hr.units) (by rfl) T.b_min (by decide +kernel) (pa_cons (pv 3) pa_nil)) (po_some pe_int) po_none) pe_non))))), ?_⟩
    refine run_ws (σ := [some (.ref t), some (.int m), none, none, none, none]) (K := kP (m = 0) (fun xP yP => Ma.IsWG b f m xP yP)) (L := [(t, .ob (.tup [.int b, .int f]), false)]) ?_ (at_one hh0) (eo_P kk1 kk2)
    refine ws_seq ?_
    refine ws_set ?_
    refine wp_call ?_
    refine wa_cons ?_
    refine wp_var rfl ?_
    refine wa_cons ?_
    refine wp_var rfl ?_
    refine wa_nil ?_
    refine wc__law_stock 0 rfl (by omega) ?_
    intro kS hkS
    intro p1
    refine ws_seq ?_
    refine ws_set ?_
    refine wp_lc ?_
    refine wi_zip ?_
    refine wa_cons ?_
    refine wp_var rfl ?_
    refine wa_cons ?_
    refine wp_sl ?_
    refine wp_var rfl ?_
    refine wo_some ?_
    refine wp_c ?_
    refine ⟨_, rfl, ?_⟩
    refine wo_none ?_
    refine wr_slLL (seen 1 rfl) (Ma.cut_tail _) ?_
    intro p2
    refine wa_nil ?_
    refine ⟨_, _, _, _, rfl, (seen 1 rfl), (seen 2 rfl), ?_⟩
    refine lc_T row3 (fun _ => true) (fun p => (p.1 - p.2, p.1, p.2)) (iter_zip 4 5 V.int V.int (seen 1 rfl) (seen 2 rfl)) (fun _ => rfl) (by (rw [List.length_zip]; have h1 := Ma.keptL_small (b := b) (f := f) (t := m) (k := kS) (by omega) (by omega) (by omega) hkS.2.2.1; have h3 := hkS.2.2.2; have h4 : (kS : Int) * (f + 1) ≤ 210 * (f + 1) := Int.mul_le_mul_of_nonneg_right (by omega) (by omega); omega)) ?_ ?_
    · rintro p hx D acc
      refine wt_yes ?_
      refine ⟨rfl, ?_⟩
      refine ifT rfl ?_
      refine wp_tup ?_
      refine wa_cons ?_
      refine wp_op ?_
      refine wp_var rfl ?_
      refine wp_var rfl ?_
      refine wr0 ?_
      refine wa_cons ?_
      refine wp_var rfl ?_
      refine wa_cons ?_
      refine wp_var rfl ?_
      refine wa_nil ?_
      refine ⟨by simp, fun p3 => ?_⟩
      exact ⟨⟨_, 4, _, rfl, rfl⟩, by first | exact List.prefix_refl _ | exact ⟨_, rfl⟩⟩
    intro p4
    rw [Ma.gapsW_eq]
    refine ws_ret ?_
    refine wp_if ?_
    refine wt_test ?_
    refine wp_op ?_
    refine wp_var rfl ?_
    refine wp_lst ?_
    refine wa_nil ?_
    refine ⟨by simp, fun p5 => ?_⟩
    refine wr_neRL 3 rfl (pl_row3 _) (seen 4 rfl) ?_
    refine ⟨_, rfl, ?_⟩
    refine ifB (fun hc6 => ?_) (fun hc6 => ?_)
    · try simp only [decide_eq_true_eq, decide_eq_false_iff_not, Bool.and_eq_true, Bool.or_eq_true, Bool.not_eq_true', Bool.and_eq_false_iff, Bool.or_eq_false_iff, Bool.not_eq_false', Bool.not_true, Bool.not_false, Bool.false_or, Bool.true_and, Bool.true_or, Bool.false_and, Bool.and_true, Bool.or_false, reduceCtorEq, not_true_eq_false, not_false_eq_true, decide_true, decide_false] at hc6
      refine wp_sl ?_
      refine wp_cb ?_
      refine wa_cons ?_
      refine wp_var rfl ?_
      refine wa_nil ?_
      refine wc_minT 3 rfl (by first | assumption | (intro e; simp [e] at *)) ?_
      intro xM hxM hMM pM
      refine wo_some ?_
      refine wp_c ?_
      refine ⟨_, rfl, ?_⟩
      refine wo_none ?_
      refine wr_slT (n := 3) (zs := [_, _]) (seenT 5 rfl) rfl (by decide) rfl ?_
      intro p7
      exact .inr ⟨_, _, _, 6, rfl, rfl, Ma.gaps_min hxM hMM⟩
    · try simp only [decide_eq_true_eq, decide_eq_false_iff_not, Bool.and_eq_true, Bool.or_eq_true, Bool.not_eq_true', Bool.and_eq_false_iff, Bool.or_eq_false_iff, Bool.not_eq_false', Bool.not_true, Bool.not_false, Bool.false_or, Bool.true_and, Bool.true_or, Bool.false_and, Bool.and_true, Bool.or_false, reduceCtorEq, not_true_eq_false, not_false_eq_true, decide_true, decide_false] at hc6
      refine wp_c ?_
      exact .inl ⟨rfl, Ma.gaps_nil (b := b) (f := f) (by omega) (by omega) (by omega) (by first | assumption | (simp at *; assumption))⟩
theorem sc__law_near : FnScope ["_law_well_here", "_law_base"] ["_law_well_here"] (defScope s__law_near) := ⟨rfl, rfl, rfl, by decide +kernel, rfl, by decide +kernel, by decide +kernel⟩
def sp__law_near (CS : Addr) : Sp := fun vs H Q _ => ∃ (a : Addr) (m : Nat), vs = [.ref a] ∧ EntAt (.well m) H a ∧ m ≤ 200000 ∧ ∀ (b f : Int) (p : Addr) (H' : Hp), (2 ≤ b ∧ b ≤ 15 ∧ 1 ≤ f ∧ f ≤ 9) → H p = none → H' p = some (.tup [.int b, .int f]) → EntAt (.well (m + 4)) H' a → Exc a H H' → Q (.ref p) H'
theorem wc__law_near {CS : Addr} {g : Gr} {L : Led} {C : V → Led → Prop} {E : XK} {a : Addr} {m : Nat} (i : Nat) (h : L[i]? = some (a, .well m, true)) (hm : m ≤ 200000) (c : ∀ (b f : Int), (2 ≤ b ∧ b ≤ 15 ∧ 1 ≤ f ∧ f ≤ 9) → ∀ p : Addr, C (.ref p) ((L.set i (a, .well (m + 4), true)) ++ [(p, .ob (.tup [.int b, .int f]), true)])) : Wp g L (fun H Q => sp__law_near CS [.ref a] H Q E) C := fun H z Q q => ⟨a, m, rfl, z.look h, hm, fun b f p H' hpost hn hp he hx => q _ _ _ (c b f hpost p) (z.draw_new h hx he hn hp)⟩
theorem ok__law_near (T : Top K mg CS) : Ok P w K mg base 4 "_law_near" s__law_near ["_law_well_here"] (sp__law_near CS) := by
  refine Ok.of T.f__law_near sc__law_near (fun _ _ _ _ _ _ us hl => match us, hl with | [_], _ => rfl) (fun vs H Q E h => ?_) (fun f cdv A outer s H vs Q E hr h => ?_)
  · obtain ⟨a, m, rfl, _⟩ := h
    rfl
  · obtain ⟨a, m, rfl, ⟨o_, ha, he⟩, hm, kk⟩ := h
    refine ⟨_, (pss_cons (ps_set (i := 1) sc__law_near.nd rfl (Or.inl rfl) (pe_own (ok__law_one T) (hr.mono (by decide)) rfl (pa_cons (pv 0) (pa_cons (pe_lst (pa_cons pe_int (pa_cons pe_int (pa_cons pe_int (pa_cons pe_int (pa_cons pe_int (pa_cons (pe_op op_add pe_int (pe_own (ok__law_draw T) (hr.mono (by decide)) rfl (pa_cons (pv 0) (pa_cons pe_int pa_nil)))) pa_nil))))))) pa_nil))))
      (pss_one (ps_ret (pe_tup (pa_cons (pv 1) (pa_cons (pe_own (ok__law_one T) (hr.mono (by decide)) rfl (pa_cons (pv 0) (pa_cons (pe_lst (pa_cons pe_int (pa_cons pe_int (pa_cons pe_int (pa_cons pe_int (pa_cons (pe_op op_add pe_int (pe_own (ok__law_draw T) (hr.mono (by decide)) rfl (pa_cons (pv 0) (pa_cons pe_int pa_nil)))) pa_nil)))))) pa_nil))) pa_nil)))))), ?_⟩
    refine run_ws (σ := [some (.ref a), none]) (g := ⟨H, fun c => c = a⟩) (K := kDN Ent.well a m 4 (fun o => ∃ (b f : Int), o = (.tup [.int b, .int f]) ∧ (2 ≤ b ∧ b ≤ 15 ∧ 1 ≤ f ∧ f ≤ 9))) (L := [(a, .well m, true)]) ?_ (at_cons at_nil ha he (by simp) (fun _ => .inr rfl)) (eo_DN (fun hk x => well_mono hk x) fun p H' o ⟨b, f, e, hpost⟩ hn hp he hx => kk b f p H' hpost hn (by rw [hp, e]) he hx)
    refine ws_seq ?_
    refine ws_set ?_
    refine wp_call ?_
    refine wa_cons ?_
    refine wp_var rfl ?_
    refine wa_cons ?_
    refine wp_lst ?_
    refine wa_cons ?_
    refine wp_c ?_
    refine wa_cons ?_
    refine wp_c ?_
    refine wa_cons ?_
    refine wp_c ?_
    refine wa_cons ?_
    refine wp_c ?_
    refine wa_cons ?_
    refine wp_c ?_
    refine wa_cons ?_
    refine wp_op ?_
    refine wp_c ?_
    refine wp_call ?_
    refine wa_cons ?_
    refine wp_var rfl ?_
    refine wa_cons ?_
    refine wp_c ?_
    refine wa_nil ?_
    refine wc__law_draw 0 rfl (by omega) (by omega) ?_
    intro n1 hn1
    refine wr0 ?_
    refine wa_nil ?_
    refine ⟨by simp, fun p2 => ?_⟩
    refine wa_nil ?_
    refine wc__law_one (P := fun n => 2 ≤ n ∧ n ≤ 15) 0 1 rfl rfl (by decide) (by omega) (by simp) (by (intro v hv; simp only [List.mem_cons, List.not_mem_nil, or_false] at hv; repeat' (rcases hv with hv | hv)) <;> exact ⟨_, rfl, by first | omega | decide⟩) ?_
    intro n3 hn3
    refine ws_ret ?_
    refine wp_tup ?_
    refine wa_cons ?_
    refine wp_var rfl ?_
    refine wa_cons ?_
    refine wp_call ?_
    refine wa_cons ?_
    refine wp_var rfl ?_
    refine wa_cons ?_
    refine wp_lst ?_
    refine wa_cons ?_
    refine wp_c ?_
    refine wa_cons ?_
    refine wp_c ?_
    refine wa_cons ?_
    refine wp_c ?_
    refine wa_cons ?_
    refine wp_c ?_
    refine wa_cons ?_
    refine wp_op ?_
    refine wp_c ?_
    refine wp_call ?_
    refine wa_cons ?_
    refine wp_var rfl ?_
    refine wa_cons ?_
    refine wp_c ?_
    refine wa_nil ?_
    refine wc__law_draw 0 rfl (by omega) (by omega) ?_
    intro n4 hn4
    refine wr0 ?_
    refine wa_nil ?_
    refine ⟨by simp, fun p5 => ?_⟩
    refine wa_nil ?_
    refine wc__law_one (P := fun n => 1 ≤ n ∧ n ≤ 9) 0 2 rfl rfl (by decide) (by omega) (by simp) (by (intro v hv; simp only [List.mem_cons, List.not_mem_nil, or_false] at hv; repeat' (rcases hv with hv | hv)) <;> exact ⟨_, rfl, by first | omega | decide⟩) ?_
    intro n6 hn6
    refine wa_nil ?_
    refine ⟨by simp, fun p7 => ?_⟩
    exact ⟨_, 2, _, rfl, rfl, ⟨_, _, rfl, by omega⟩, 4, by decide, rfl⟩
theorem sc__law_right : FnScope ["_law_well_here", "_law_plan", "_law_moment", "_law_few", "_law_k", "_law_here", "_law_small", "_law_early"] ["_law_well_here"] (defScope s__law_right) := ⟨rfl, rfl, rfl, by decide +kernel, rfl, by decide +kernel, by decide +kernel⟩
def sp__law_right (CS : Addr) : Sp := fun vs H Q _ => ∃ (a : Addr) (m : Nat), vs = [.ref a] ∧ EntAt (.well m) H a ∧ m ≤ 1000 ∧ ∀  (H' : Hp), (True) → EntAt (.well (m + 125)) H' a → Exc a H H' → Q (.bl true) H'
theorem wc__law_right {CS : Addr} {g : Gr} {L : Led} {C : V → Led → Prop} {E : XK} {a : Addr} {m : Nat} (i : Nat) (h : L[i]? = some (a, .well m, true)) (hm : m ≤ 1000) (c : (True) → C (.bl true) (L.set i (a, .well (m + 125), true))) : Wp g L (fun H Q => sp__law_right CS [.ref a] H Q E) C := fun H z Q q => ⟨a, m, rfl, z.look h, hm, fun  H' hpost he hx => q _ _ _ (c  hpost) (z.draw h hx he)⟩
theorem ok__law_right (T : Top K mg CS) : Ok P w K mg base 6 "_law_right" s__law_right ["_law_well_here"] (sp__law_right CS) := by
  refine Ok.of T.f__law_right sc__law_right (fun _ _ _ _ _ _ us hl => match us, hl with | [_], _ => rfl) (fun vs H Q E h => ?_) (fun f cdv A outer s H vs Q E hr h => ?_)
  · obtain ⟨a, m, rfl, _⟩ := h
    rfl
  · obtain ⟨a, m, rfl, ⟨o_, ha, he⟩, hm, kk⟩ := h
    refine ⟨_, (pss_cons (ps_set (i := 1) sc__law_right.nd rfl (Or.inl rfl) (pe_own (ok__law_wide T) (hr.mono (by decide)) rfl (pa_cons (pv 0) pa_nil)))
      (pss_cons (ps_set (i := 2) sc__law_right.nd rfl (Or.inl rfl) (pe_op op_add pe_int (pe_own (ok__law_big T) (hr.mono (by decide)) rfl (pa_cons (pv 0) pa_nil))))
      (pss_cons (ps_set (i := 3) sc__law_right.nd rfl (Or.inl rfl) (pe_tup (pa_cons (pe_ix ix_tup (pv 1) pe_int (fun _ _ => rfl)) (pa_cons (pe_op op_add pe_int (pe_own (ok__law_draw T) (hr.mono (by decide)) rfl (pa_cons (pv 0) (pa_cons pe_int pa_nil)))) pa_nil))))
      (pss_cons (ps_if (pt_cmpR (op_neD hr.units) (pe_own (ok_widest_gap T) (hr.mono (by decide)) rfl (pa_cons (pe_oc (ok_Scheme_init T) (hr.mono (by decide)) rfl (pa_cons (pe_ix ix_tup (pv 3) pe_int (fun _ _ => rfl)) (pa_cons (pe_ix ix_tup (pv 3) pe_int (fun _ _ => rfl)) pa_nil))) (pa_cons (pv 2) pa_nil))) (pe_own (ok__law_listed T) (hr.mono (by decide)) rfl (pa_cons (pv 3) (pa_cons (pv 2) pa_nil))) (nomark _)) (pss_one (ps_ret pe_bl)) pss_nil)
      (pss_cons (ps_for PassesOwn.never rfl (pi_rangeW1 rfl T.b_range (pa_cons pe_int pa_nil)) (pg_name (i := 4) sc__law_right.nd rfl (Or.inl rfl)) (pss_cons (ps_par (i := 6) (j := 7) (by rfl) sc__law_right.nd rfl rfl (by decide) rfl rfl (pa_cons (pe_own (ok__law_near T) (hr.mono (by decide)) rfl (pa_cons (pv 0) pa_nil)) (pa_cons (pe_own (ok__law_draw T) (hr.mono (by decide)) rfl (pa_cons (pv 0) (pa_cons pe_int pa_nil))) pa_nil)) (by rfl))
      (pss_one (ps_if (pt_cmpR (op_neD hr.units) (pe_own (ok_widest_gap T) (hr.mono (by decide)) rfl (pa_cons (pe_oc (ok_Scheme_init T) (hr.mono (by decide)) rfl (pa_cons (pe_ix ix_tup (pv 6) pe_int (fun _ _ => rfl)) (pa_cons (pe_ix ix_tup (pv 6) pe_int (fun _ _ => rfl)) pa_nil))) (pa_cons (pv 7) pa_nil))) (pe_own (ok__law_listed T) (hr.mono (by decide)) rfl (pa_cons (pv 6) (pa_cons (pv 7) pa_nil))) (nomark _)) (pss_one (ps_ret pe_bl)) pss_nil))))
      (pss_cons (ps_set (i := 5) sc__law_right.nd rfl (Or.inl rfl) (pe_oc (ok_Scheme_init T) (hr.mono (by decide)) rfl (pa_cons (pe_ix ix_tup (pv 1) pe_int (fun _ _ => rfl)) (pa_cons (pe_ix ix_tup (pv 1) pe_int (fun _ _ => rfl)) pa_nil))))
      (pss_cons (ps_if (PW.pt (pw_or (pt_cmpR (op_neD hr.units) (pe_kw (ks := ["time", "scheme"]) [1, 0] (ok_widest_gap T) (hr.mono (by decide)) rfl (pk_cons (pv 2) (pk_cons (pv 5) pk_nil)) (fun _ _ _ _ _ _ ws hl => match ws, hl with | [_, _], _ => rfl)) (pe_own (ok_widest_gap T) (hr.mono (by decide)) rfl (pa_cons (pv 5) (pa_cons (pv 2) pa_nil))) (nomark _)) (pw_or1 (pt_cmpR op_notN' (pe_own (ok_widest_gap T) (hr.mono (by decide)) rfl (pa_cons (pv 5) (pa_cons pe_int pa_nil))) pe_non (nomark _))))) (pss_one (ps_ret pe_bl)) pss_nil)
      (pss_one (ps_ret (pe_own (ok__law_far_right T) (hr.mono (by decide)) rfl (pa_cons (pv 0) (pa_cons (pv 1) (pa_cons (pv 5) (pa_cons (pv 2) pa_nil)))))))))))))), ?_⟩
    refine run_ws (σ := [some (.ref a), none, none, none, none, none, none, none]) (g := ⟨H, fun c => c = a⟩) (K := kD Ent.well a m 125 (fun v => v = (.bl true) ∧ (True))) (L := [(a, .well m, true)]) ?_ (at_cons at_nil ha he (by simp) (fun _ => .inr rfl)) (eo_D (fun hk x => well_mono hk x) fun v H' ⟨e, hpost⟩ he hx => e ▸ kk  H' hpost he hx)
    refine ws_seq ?_
    refine ws_set ?_
    refine wp_call ?_
    refine wa_cons ?_
    refine wp_var rfl ?_
    refine wa_nil ?_
    refine wc__law_wide 0 rfl (by omega) ?_
    intro bP fP hbfP
    intro p1
    refine ws_nf (σ' := [_, _, _, _, _, _, _, _]) (L' := [_, _]) rfl rfl ?_
    refine ws_seq ?_
    refine ws_set ?_
    refine wp_op ?_
    refine wp_c ?_
    refine wp_call ?_
    refine wa_cons ?_
    refine wp_var rfl ?_
    refine wa_nil ?_
    refine wc__law_big 0 rfl (by omega) ?_
    intro rM hrM
    refine wr0 ?_
    refine ws_nf (σ' := [_, _, _, _, _, _, _, _]) (L' := [_, _]) rfl rfl ?_
    refine ws_seq ?_
    refine ws_set ?_
    refine wp_tup ?_
    refine wa_cons ?_
    refine wp_op ?_
    refine wp_var rfl ?_
    refine wp_c ?_
    refine wr_ixT (seenT 1 rfl) (rfl) ?_
    refine wa_cons ?_
    refine wp_op ?_
    refine wp_c ?_
    refine wp_call ?_
    refine wa_cons ?_
    refine wp_var rfl ?_
    refine wa_cons ?_
    refine wp_c ?_
    refine wa_nil ?_
    refine wc__law_draw 0 rfl (by omega) (by omega) ?_
    intro nF hnF
    refine wr0 ?_
    refine wa_nil ?_
    refine ⟨by simp, fun p2 => ?_⟩
    refine ws_nf (σ' := [_, _, _, _, _, _, _, _]) (L' := [_, _, _]) rfl rfl ?_
    refine ws_seq ?_
    refine ws_if ?_
    refine wt_test ?_
    refine wp_op ?_
    refine wp_call ?_
    refine wa_cons ?_
    refine wm_Scheme ?_
    refine wa_cons ?_
    refine wp_op ?_
    refine wp_var rfl ?_
    refine wp_c ?_
    refine wr_ixT (seenT 2 rfl) (rfl) ?_
    refine wa_cons ?_
    refine wp_op ?_
    refine wp_var rfl ?_
    refine wp_c ?_
    refine wr_ixT (seenT 2 rfl) (rfl) ?_
    refine wa_nil ?_
    refine ⟨_, _, rfl, by (unfold SchOk; omega), fun p3 dp3 => ?_⟩
    refine wa_cons ?_
    refine wp_var rfl ?_
    refine wa_nil ?_
    refine wc_widest_gap 3 rfl ⟨by (unfold SchOk; omega), by omega⟩ ?_ ?_
    · intro hNA
      refine wp_call ?_
      refine wa_cons ?_
      refine wp_var rfl ?_
      refine wa_cons ?_
      refine wp_var rfl ?_
      refine wa_nil ?_
      refine wc__law_listed 2 rfl (by omega) ?_ ?_
      · intro hNB
        refine wr_neD dp_non dp_non rfl rfl ?_
        refine ⟨_, rfl, ?_⟩
        refine ifF (by first | rfl | (simp; done) | (simp [*]; done)) ?_
        refine ws_next ?_
        refine ws_seq ?_
        refine ws_for ?_
        refine wi_rngW1 ?_
        refine wa_cons ?_
        refine wp_c ?_
        refine wa_nil ?_
        refine ⟨_, rfl, ?_⟩
        refine wf_rngD Ent.well well_le 0 5 (fun i vs => ∃ w4 : Option V, ∃ w6 : Option V, ∃ w7 : Option V, vs = [none, none, none, none, some w4, none, some w6, some w7]) rfl ?_ ?_ ?_
        · exact ⟨[none, none, none, none, some _, none, some _, some _], rfl, _, _, _, rfl⟩
        · rintro i x vs hi hx ⟨w4, w6, w7, rfl⟩
          refine wg_name ?_
          refine ws_eq (σ' := [_, _, _, _, _, _, _, _]) rfl ?_
          refine ws_seq ?_
          refine ws_par ?_
          refine wa_cons ?_
          refine wp_call ?_
          refine wa_cons ?_
          refine wp_var rfl ?_
          refine wa_nil ?_
          refine wc__law_near 0 rfl (by omega) ?_
          intro bS fS hbfS
          intro p4
          refine wa_cons ?_
          refine wp_call ?_
          refine wa_cons ?_
          refine wp_var rfl ?_
          refine wa_cons ?_
          refine wp_c ?_
          refine wa_nil ?_
          refine wc__law_draw 0 rfl (by omega) (by omega) ?_
          intro nE hnE
          refine wa_nil ?_
          refine ⟨_, _, rfl, ?_⟩
          refine ws_nf (σ' := [_, _, _, _, _, _, _, _]) (L' := [_, _, _, _, _]) rfl rfl ?_
          refine ws_if ?_
          refine wt_test ?_
          refine wp_op ?_
          refine wp_call ?_
          refine wa_cons ?_
          refine wm_Scheme ?_
          refine wa_cons ?_
          refine wp_op ?_
          refine wp_var rfl ?_
          refine wp_c ?_
          refine wr_ixT (seenT 4 rfl) (rfl) ?_
          refine wa_cons ?_
          refine wp_op ?_
          refine wp_var rfl ?_
          refine wp_c ?_
          refine wr_ixT (seenT 4 rfl) (rfl) ?_
          refine wa_nil ?_
          refine ⟨_, _, rfl, by (unfold SchOk; omega), fun p5 dp5 => ?_⟩
          refine wa_cons ?_
          refine wp_var rfl ?_
          refine wa_nil ?_
          refine wc_widest_gap 5 rfl ⟨by (unfold SchOk; omega), by omega⟩ ?_ ?_
          · intro hNC
            refine wp_call ?_
            refine wa_cons ?_
            refine wp_var rfl ?_
            refine wa_cons ?_
            refine wp_var rfl ?_
            refine wa_nil ?_
            refine wc__law_listed 4 rfl (by omega) ?_ ?_
            · intro hND
              refine wr_neD dp_non dp_non rfl rfl ?_
              refine ⟨_, rfl, ?_⟩
              refine ifF (by first | rfl | (simp; done) | (simp [*]; done)) ?_
              refine ws_next ?_
              exact ⟨[none, none, none, none, some _, none, some _, some _], ⟨rfl, _, _, _, rfl⟩, 5, by decide, ⟨_, rfl⟩⟩
            · intro xD yD hVD pD
              refine wr_neD dp_non (dp_tup (seenT 6 rfl) (dps_cons dp_int (dps_cons dp_int dps_nil))) rfl rfl ?_
              refine ⟨_, rfl, ?_⟩
              all_goals
                exfalso
                first
                  | omega
                  | (have hp := Ma.wg_pos hVC; omega)
                  | (have hp := Ma.wg_pos hVD; omega)
                  | (simp [PyData.eqv] at hkn; done)
                  | (obtain ⟨rfl, rfl⟩ := hVC.uniq hVD
                     simp [PyData.eqv, PyData.eqvAll] at hkn; done)
          · intro xC yC hVC pC
            refine wp_call ?_
            refine wa_cons ?_
            refine wp_var rfl ?_
            refine wa_cons ?_
            refine wp_var rfl ?_
            refine wa_nil ?_
            refine wc__law_listed 4 rfl (by omega) ?_ ?_
            · intro hND
              refine wr_neD (dp_tup (seenT 6 rfl) (dps_cons dp_int (dps_cons dp_int dps_nil))) dp_non rfl rfl ?_
              refine ⟨_, rfl, ?_⟩
              all_goals
                exfalso
                first
                  | omega
                  | (have hp := Ma.wg_pos hVC; omega)
                  | (have hp := Ma.wg_pos hVD; omega)
                  | (simp [PyData.eqv] at hkn; done)
                  | (obtain ⟨rfl, rfl⟩ := hVC.uniq hVD
                     simp [PyData.eqv, PyData.eqvAll] at hkn; done)
            · intro xD yD hVD pD
              refine wr_neD (dp_tup (seenT 6 rfl) (dps_cons dp_int (dps_cons dp_int dps_nil))) (dp_tup (seenT 7 rfl) (dps_cons dp_int (dps_cons dp_int dps_nil))) rfl rfl ?_
              refine ⟨_, rfl, ?_⟩
              refine ifB (fun hc6 => ?_) (fun hc6 => ?_)
              · try simp only [decide_eq_true_eq, decide_eq_false_iff_not, Bool.and_eq_true, Bool.or_eq_true, Bool.not_eq_true', Bool.and_eq_false_iff, Bool.or_eq_false_iff, Bool.not_eq_false', Bool.not_true, Bool.not_false, Bool.false_or, Bool.true_and, Bool.true_or, Bool.false_and, Bool.and_true, Bool.or_false, reduceCtorEq, not_true_eq_false, not_false_eq_true, decide_true, decide_false] at hc6
                all_goals
                  exfalso
                  first
                    | omega
                    | (have hp := Ma.wg_pos hVC; omega)
                    | (have hp := Ma.wg_pos hVD; omega)
                    | (simp [PyData.eqv] at hc6; done)
                    | (obtain ⟨rfl, rfl⟩ := hVC.uniq hVD
                       simp [PyData.eqv, PyData.eqvAll] at hc6; done)
              · try simp only [decide_eq_true_eq, decide_eq_false_iff_not, Bool.and_eq_true, Bool.or_eq_true, Bool.not_eq_true', Bool.and_eq_false_iff, Bool.or_eq_false_iff, Bool.not_eq_false', Bool.not_true, Bool.not_false, Bool.false_or, Bool.true_and, Bool.true_or, Bool.false_and, Bool.and_true, Bool.or_false, reduceCtorEq, not_true_eq_false, not_false_eq_true, decide_true, decide_false] at hc6
                refine ws_next ?_
                exact ⟨[none, none, none, none, some _, none, some _, some _], ⟨rfl, _, _, _, rfl⟩, 5, by decide, ⟨_, rfl⟩⟩
        rintro vs ⟨w4, w6, w7, rfl⟩
        refine ws_nf (σ' := [_, _, _, _, _, _, _, _]) (L' := [_, _, _, _]) rfl rfl ?_
        refine ws_seq ?_
        refine ws_set ?_
        refine wm_Scheme ?_
        refine wa_cons ?_
        refine wp_op ?_
        refine wp_var rfl ?_
        refine wp_c ?_
        refine wr_ixT (seenT 1 rfl) (rfl) ?_
        refine wa_cons ?_
        refine wp_op ?_
        refine wp_var rfl ?_
        refine wp_c ?_
        refine wr_ixT (seenT 1 rfl) (rfl) ?_
        refine wa_nil ?_
        refine ⟨_, _, rfl, by (unfold SchOk; omega), fun p7 dp7 => ?_⟩
        refine ws_nf (σ' := [_, _, _, _, _, _, _, _]) (L' := [_, _, _, _, _]) rfl rfl ?_
        refine ws_seq ?_
        refine ws_if ?_
        refine wt_or ?_
        refine wt_test ?_
        refine wp_op ?_
        refine wp_kw ?_
        refine wa_cons ?_
        refine wp_var rfl ?_
        refine wa_cons ?_
        refine wp_var rfl ?_
        refine wa_nil ?_
        refine ⟨rfl, ?_⟩
        refine wc_widest_gap 4 rfl ⟨by (unfold SchOk; omega), by omega⟩ ?_ ?_
        · intro hNI
          refine wp_call ?_
          refine wa_cons ?_
          refine wp_var rfl ?_
          refine wa_cons ?_
          refine wp_var rfl ?_
          refine wa_nil ?_
          refine wc_widest_gap 4 rfl ⟨by (unfold SchOk; omega), by omega⟩ ?_ ?_
          · intro hNJ
            refine wr_neD dp_non dp_non rfl rfl ?_
            refine ⟨_, rfl, ?_⟩
            refine ifF (by first | rfl | (simp; done) | (simp [*]; done)) ?_
            refine wt_test ?_
            refine wp_op ?_
            refine wp_call ?_
            refine wa_cons ?_
            refine wp_var rfl ?_
            refine wa_cons ?_
            refine wp_c ?_
            refine wa_nil ?_
            refine wc_widest_gap 4 rfl ⟨by (unfold SchOk; omega), by omega⟩ ?_ ?_
            · intro hNZ
              refine wp_c ?_
              refine wr_notN ?_
              refine ⟨_, rfl, ?_⟩
              refine ifF (by first | rfl | (simp; done) | (simp [*]; done)) ?_
              refine ws_next ?_
              refine ws_ret ?_
              refine wp_call ?_
              refine wa_cons ?_
              refine wp_var rfl ?_
              refine wa_cons ?_
              refine wp_var rfl ?_
              refine wa_cons ?_
              refine wp_var rfl ?_
              refine wa_cons ?_
              refine wp_var rfl ?_
              refine wa_nil ?_
              refine wc__law_far_right 0 rfl (by omega) 1 rfl (by decide) 4 rfl (by decide) ⟨by (unfold SchOk; omega), by omega⟩ ?_
              intro _
              exact ⟨⟨rfl, trivial⟩, 125, by decide, rfl⟩
            · intro xZ yZ hVZ pZ
              exfalso
              have h1 := hVZ.1.1
              have h2 := hVZ.1.2.1
              have h3 := Ma.kept_le hVZ.1.2.2.2.1
              omega
          · intro xJ yJ hVJ pJ
            refine wr_neD dp_non (dp_tup (seenT 5 rfl) (dps_cons dp_int (dps_cons dp_int dps_nil))) rfl rfl ?_
            refine ⟨_, rfl, ?_⟩
            refine ifT (by first | rfl | (simp; done) | (simp [*]; done)) ?_
            all_goals
              exfalso
              first
                | omega
                | (have hp := Ma.wg_pos hVI; omega)
                | (have hp := Ma.wg_pos hVJ; omega)
                | (simp [PyData.eqv] at hkn; done)
                | (obtain ⟨rfl, rfl⟩ := hVI.uniq hVJ
                   simp [PyData.eqv, PyData.eqvAll] at hkn; done)
        · intro xI yI hVI pI
          refine wp_call ?_
          refine wa_cons ?_
          refine wp_var rfl ?_
          refine wa_cons ?_
          refine wp_var rfl ?_
          refine wa_nil ?_
          refine wc_widest_gap 4 rfl ⟨by (unfold SchOk; omega), by omega⟩ ?_ ?_
          · intro hNJ
            refine wr_neD (dp_tup (seenT 5 rfl) (dps_cons dp_int (dps_cons dp_int dps_nil))) dp_non rfl rfl ?_
            refine ⟨_, rfl, ?_⟩
            refine ifT (by first | rfl | (simp; done) | (simp [*]; done)) ?_
            all_goals
              exfalso
              first
                | omega
                | (have hp := Ma.wg_pos hVI; omega)
                | (have hp := Ma.wg_pos hVJ; omega)
                | (simp [PyData.eqv] at hkn; done)
                | (obtain ⟨rfl, rfl⟩ := hVI.uniq hVJ
                   simp [PyData.eqv, PyData.eqvAll] at hkn; done)
          · intro xJ yJ hVJ pJ
            refine wr_neD (dp_tup (seenT 5 rfl) (dps_cons dp_int (dps_cons dp_int dps_nil))) (dp_tup (seenT 6 rfl) (dps_cons dp_int (dps_cons dp_int dps_nil))) rfl rfl ?_
            refine ⟨_, rfl, ?_⟩
            refine ifB (fun hb9 => ?_) (fun hb9 => ?_)
            · try simp only [decide_eq_true_eq, decide_eq_false_iff_not, Bool.and_eq_true, Bool.or_eq_true, Bool.not_eq_true', Bool.and_eq_false_iff, Bool.or_eq_false_iff, Bool.not_eq_false', Bool.not_true, Bool.not_false, Bool.false_or, Bool.true_and, Bool.true_or, Bool.false_and, Bool.and_true, Bool.or_false, reduceCtorEq, not_true_eq_false, not_false_eq_true, decide_true, decide_false] at hb9
              all_goals
                exfalso
                first
                  | omega
                  | (have hp := Ma.wg_pos hVI; omega)
                  | (have hp := Ma.wg_pos hVJ; omega)
                  | (simp [PyData.eqv] at hb9; done)
                  | (obtain ⟨rfl, rfl⟩ := hVI.uniq hVJ
                     simp [PyData.eqv, PyData.eqvAll] at hb9; done)
            · try simp only [decide_eq_true_eq, decide_eq_false_iff_not, Bool.and_eq_true, Bool.or_eq_true, Bool.not_eq_true', Bool.and_eq_false_iff, Bool.or_eq_false_iff, Bool.not_eq_false', Bool.not_true, Bool.not_false, Bool.false_or, Bool.true_and, Bool.true_or, Bool.false_and, Bool.and_true, Bool.or_false, reduceCtorEq, not_true_eq_false, not_false_eq_true, decide_true, decide_false] at hb9
              refine wt_test ?_
              refine wp_op ?_
              refine wp_call ?_
              refine wa_cons ?_
              refine wp_var rfl ?_
              refine wa_cons ?_
              refine wp_c ?_
              refine wa_nil ?_
              refine wc_widest_gap 4 rfl ⟨by (unfold SchOk; omega), by omega⟩ ?_ ?_
              · intro hNZ
                refine wp_c ?_
                refine wr_notN ?_
                refine ⟨_, rfl, ?_⟩
                refine ifF (by first | rfl | (simp; done) | (simp [*]; done)) ?_
                refine ws_next ?_
                refine ws_ret ?_
                refine wp_call ?_
                refine wa_cons ?_
                refine wp_var rfl ?_
                refine wa_cons ?_
                refine wp_var rfl ?_
                refine wa_cons ?_
                refine wp_var rfl ?_
                refine wa_cons ?_
                refine wp_var rfl ?_
                refine wa_nil ?_
                refine wc__law_far_right 0 rfl (by omega) 1 rfl (by decide) 4 rfl (by decide) ⟨by (unfold SchOk; omega), by omega⟩ ?_
                intro _
                exact ⟨⟨rfl, trivial⟩, 125, by decide, rfl⟩
              · intro xZ yZ hVZ pZ
                exfalso
                have h1 := hVZ.1.1
                have h2 := hVZ.1.2.1
                have h3 := Ma.kept_le hVZ.1.2.2.2.1
                omega
      · intro xB yB hVB pB
        refine wr_neD dp_non (dp_tup (seenT 4 rfl) (dps_cons dp_int (dps_cons dp_int dps_nil))) rfl rfl ?_
        refine ⟨_, rfl, ?_⟩
        all_goals
          exfalso
          first
            | omega
            | (have hp := Ma.wg_pos hVA; omega)
            | (have hp := Ma.wg_pos hVB; omega)
            | (simp [PyData.eqv] at hb9; done)
            | (obtain ⟨rfl, rfl⟩ := hVA.uniq hVB
               simp [PyData.eqv, PyData.eqvAll] at hb9; done)
    · intro xA yA hVA pA
      refine wp_call ?_
      refine wa_cons ?_
      refine wp_var rfl ?_
      refine wa_cons ?_
      refine wp_var rfl ?_
      refine wa_nil ?_
      refine wc__law_listed 2 rfl (by omega) ?_ ?_
      · intro hNB
        refine wr_neD (dp_tup (seenT 4 rfl) (dps_cons dp_int (dps_cons dp_int dps_nil))) dp_non rfl rfl ?_
        refine ⟨_, rfl, ?_⟩
        all_goals
          exfalso
          first
            | omega
            | (have hp := Ma.wg_pos hVA; omega)
            | (have hp := Ma.wg_pos hVB; omega)
            | (simp [PyData.eqv] at hb9; done)
            | (obtain ⟨rfl, rfl⟩ := hVA.uniq hVB
               simp [PyData.eqv, PyData.eqvAll] at hb9; done)
      · intro xB yB hVB pB
        refine wr_neD (dp_tup (seenT 4 rfl) (dps_cons dp_int (dps_cons dp_int dps_nil))) (dp_tup (seenT 5 rfl) (dps_cons dp_int (dps_cons dp_int dps_nil))) rfl rfl ?_
        refine ⟨_, rfl, ?_⟩
        refine ifB (fun hc11 => ?_) (fun hc11 => ?_)
        · try simp only [decide_eq_true_eq, decide_eq_false_iff_not, Bool.and_eq_true, Bool.or_eq_true, Bool.not_eq_true', Bool.and_eq_false_iff, Bool.or_eq_false_iff, Bool.not_eq_false', Bool.not_true, Bool.not_false, Bool.false_or, Bool.true_and, Bool.true_or, Bool.false_and, Bool.and_true, Bool.or_false, reduceCtorEq, not_true_eq_false, not_false_eq_true, decide_true, decide_false] at hc11
          all_goals
            exfalso
            first
              | omega
              | (have hp := Ma.wg_pos hVA; omega)
              | (have hp := Ma.wg_pos hVB; omega)
              | (simp [PyData.eqv] at hc11; done)
              | (obtain ⟨rfl, rfl⟩ := hVA.uniq hVB
                 simp [PyData.eqv, PyData.eqvAll] at hc11; done)
        · try simp only [decide_eq_true_eq, decide_eq_false_iff_not, Bool.and_eq_true, Bool.or_eq_true, Bool.not_eq_true', Bool.and_eq_false_iff, Bool.or_eq_false_iff, Bool.not_eq_false', Bool.not_true, Bool.not_false, Bool.false_or, Bool.true_and, Bool.true_or, Bool.false_and, Bool.and_true, Bool.or_false, reduceCtorEq, not_true_eq_false, not_false_eq_true, decide_true, decide_false] at hc11
          refine ws_next ?_
          refine ws_seq ?_
          refine ws_for ?_
          refine wi_rngW1 ?_
          refine wa_cons ?_
          refine wp_c ?_
          refine wa_nil ?_
          refine ⟨_, rfl, ?_⟩
          refine wf_rngD Ent.well well_le 0 5 (fun i vs => ∃ w4 : Option V, ∃ w6 : Option V, ∃ w7 : Option V, vs = [none, none, none, none, some w4, none, some w6, some w7]) rfl ?_ ?_ ?_
          · exact ⟨[none, none, none, none, some _, none, some _, some _], rfl, _, _, _, rfl⟩
          · rintro i x vs hi hx ⟨w4, w6, w7, rfl⟩
            refine wg_name ?_
            refine ws_eq (σ' := [_, _, _, _, _, _, _, _]) rfl ?_
            refine ws_seq ?_
            refine ws_par ?_
            refine wa_cons ?_
            refine wp_call ?_
            refine wa_cons ?_
            refine wp_var rfl ?_
            refine wa_nil ?_
            refine wc__law_near 0 rfl (by omega) ?_
            intro bS fS hbfS
            intro p12
            refine wa_cons ?_
            refine wp_call ?_
            refine wa_cons ?_
            refine wp_var rfl ?_
            refine wa_cons ?_
            refine wp_c ?_
            refine wa_nil ?_
            refine wc__law_draw 0 rfl (by omega) (by omega) ?_
            intro nE hnE
            refine wa_nil ?_
            refine ⟨_, _, rfl, ?_⟩
            refine ws_nf (σ' := [_, _, _, _, _, _, _, _]) (L' := [_, _, _, _, _, _, _]) rfl rfl ?_
            refine ws_if ?_
            refine wt_test ?_
            refine wp_op ?_
            refine wp_call ?_
            refine wa_cons ?_
            refine wm_Scheme ?_
            refine wa_cons ?_
            refine wp_op ?_
            refine wp_var rfl ?_
            refine wp_c ?_
            refine wr_ixT (seenT 6 rfl) (rfl) ?_
            refine wa_cons ?_
            refine wp_op ?_
            refine wp_var rfl ?_
            refine wp_c ?_
            refine wr_ixT (seenT 6 rfl) (rfl) ?_
            refine wa_nil ?_
            refine ⟨_, _, rfl, by (unfold SchOk; omega), fun p13 dp13 => ?_⟩
            refine wa_cons ?_
            refine wp_var rfl ?_
            refine wa_nil ?_
            refine wc_widest_gap 7 rfl ⟨by (unfold SchOk; omega), by omega⟩ ?_ ?_
            · intro hNC
              refine wp_call ?_
              refine wa_cons ?_
              refine wp_var rfl ?_
              refine wa_cons ?_
              refine wp_var rfl ?_
              refine wa_nil ?_
              refine wc__law_listed 6 rfl (by omega) ?_ ?_
              · intro hND
                refine wr_neD dp_non dp_non rfl rfl ?_
                refine ⟨_, rfl, ?_⟩
                refine ifF (by first | rfl | (simp; done) | (simp [*]; done)) ?_
                refine ws_next ?_
                exact ⟨[none, none, none, none, some _, none, some _, some _], ⟨rfl, _, _, _, rfl⟩, 5, by decide, ⟨_, rfl⟩⟩
              · intro xD yD hVD pD
                refine wr_neD dp_non (dp_tup (seenT 8 rfl) (dps_cons dp_int (dps_cons dp_int dps_nil))) rfl rfl ?_
                refine ⟨_, rfl, ?_⟩
                all_goals
                  exfalso
                  first
                    | omega
                    | (have hp := Ma.wg_pos hVC; omega)
                    | (have hp := Ma.wg_pos hVD; omega)
                    | (simp [PyData.eqv] at hb9; done)
                    | (obtain ⟨rfl, rfl⟩ := hVC.uniq hVD
                       simp [PyData.eqv, PyData.eqvAll] at hb9; done)
            · intro xC yC hVC pC
              refine wp_call ?_
              refine wa_cons ?_
              refine wp_var rfl ?_
              refine wa_cons ?_
              refine wp_var rfl ?_
              refine wa_nil ?_
              refine wc__law_listed 6 rfl (by omega) ?_ ?_
              · intro hND
                refine wr_neD (dp_tup (seenT 8 rfl) (dps_cons dp_int (dps_cons dp_int dps_nil))) dp_non rfl rfl ?_
                refine ⟨_, rfl, ?_⟩
                all_goals
                  exfalso
                  first
                    | omega
                    | (have hp := Ma.wg_pos hVC; omega)
                    | (have hp := Ma.wg_pos hVD; omega)
                    | (simp [PyData.eqv] at hb9; done)
                    | (obtain ⟨rfl, rfl⟩ := hVC.uniq hVD
                       simp [PyData.eqv, PyData.eqvAll] at hb9; done)
              · intro xD yD hVD pD
                refine wr_neD (dp_tup (seenT 8 rfl) (dps_cons dp_int (dps_cons dp_int dps_nil))) (dp_tup (seenT 9 rfl) (dps_cons dp_int (dps_cons dp_int dps_nil))) rfl rfl ?_
                refine ⟨_, rfl, ?_⟩
                refine ifB (fun hc14 => ?_) (fun hc14 => ?_)
                · try simp only [decide_eq_true_eq, decide_eq_false_iff_not, Bool.and_eq_true, Bool.or_eq_true, Bool.not_eq_true', Bool.and_eq_false_iff, Bool.or_eq_false_iff, Bool.not_eq_false', Bool.not_true, Bool.not_false, Bool.false_or, Bool.true_and, Bool.true_or, Bool.false_and, Bool.and_true, Bool.or_false, reduceCtorEq, not_true_eq_false, not_false_eq_true, decide_true, decide_false] at hc14
                  all_goals
                    exfalso
                    first
                      | omega
                      | (have hp := Ma.wg_pos hVC; omega)
                      | (have hp := Ma.wg_pos hVD; omega)
                      | (simp [PyData.eqv] at hc14; done)
                      | (obtain ⟨rfl, rfl⟩ := hVC.uniq hVD
                         simp [PyData.eqv, PyData.eqvAll] at hc14; done)
                · try simp only [decide_eq_true_eq, decide_eq_false_iff_not, Bool.and_eq_true, Bool.or_eq_true, Bool.not_eq_true', Bool.and_eq_false_iff, Bool.or_eq_false_iff, Bool.not_eq_false', Bool.not_true, Bool.not_false, Bool.false_or, Bool.true_and, Bool.true_or, Bool.false_and, Bool.and_true, Bool.or_false, reduceCtorEq, not_true_eq_false, not_false_eq_true, decide_true, decide_false] at hc14
                  refine ws_next ?_
                  exact ⟨[none, none, none, none, some _, none, some _, some _], ⟨rfl, _, _, _, rfl⟩, 5, by decide, ⟨_, rfl⟩⟩
          rintro vs ⟨w4, w6, w7, rfl⟩
          refine ws_nf (σ' := [_, _, _, _, _, _, _, _]) (L' := [_, _, _, _, _, _]) rfl rfl ?_
          refine ws_seq ?_
          refine ws_set ?_
          refine wm_Scheme ?_
          refine wa_cons ?_
          refine wp_op ?_
          refine wp_var rfl ?_
          refine wp_c ?_
          refine wr_ixT (seenT 1 rfl) (rfl) ?_
          refine wa_cons ?_
          refine wp_op ?_
          refine wp_var rfl ?_
          refine wp_c ?_
          refine wr_ixT (seenT 1 rfl) (rfl) ?_
          refine wa_nil ?_
          refine ⟨_, _, rfl, by (unfold SchOk; omega), fun p15 dp15 => ?_⟩
          refine ws_nf (σ' := [_, _, _, _, _, _, _, _]) (L' := [_, _, _, _, _, _, _]) rfl rfl ?_
          refine ws_seq ?_
          refine ws_if ?_
          refine wt_or ?_
          refine wt_test ?_
          refine wp_op ?_
          refine wp_kw ?_
          refine wa_cons ?_
          refine wp_var rfl ?_
          refine wa_cons ?_
          refine wp_var rfl ?_
          refine wa_nil ?_
          refine ⟨rfl, ?_⟩
          refine wc_widest_gap 6 rfl ⟨by (unfold SchOk; omega), by omega⟩ ?_ ?_
          · intro hNI
            refine wp_call ?_
            refine wa_cons ?_
            refine wp_var rfl ?_
            refine wa_cons ?_
            refine wp_var rfl ?_
            refine wa_nil ?_
            refine wc_widest_gap 6 rfl ⟨by (unfold SchOk; omega), by omega⟩ ?_ ?_
            · intro hNJ
              refine wr_neD dp_non dp_non rfl rfl ?_
              refine ⟨_, rfl, ?_⟩
              refine ifF (by first | rfl | (simp; done) | (simp [*]; done)) ?_
              refine wt_test ?_
              refine wp_op ?_
              refine wp_call ?_
              refine wa_cons ?_
              refine wp_var rfl ?_
              refine wa_cons ?_
              refine wp_c ?_
              refine wa_nil ?_
              refine wc_widest_gap 6 rfl ⟨by (unfold SchOk; omega), by omega⟩ ?_ ?_
              · intro hNZ
                refine wp_c ?_
                refine wr_notN ?_
                refine ⟨_, rfl, ?_⟩
                refine ifF (by first | rfl | (simp; done) | (simp [*]; done)) ?_
                refine ws_next ?_
                refine ws_ret ?_
                refine wp_call ?_
                refine wa_cons ?_
                refine wp_var rfl ?_
                refine wa_cons ?_
                refine wp_var rfl ?_
                refine wa_cons ?_
                refine wp_var rfl ?_
                refine wa_cons ?_
                refine wp_var rfl ?_
                refine wa_nil ?_
                refine wc__law_far_right 0 rfl (by omega) 1 rfl (by decide) 6 rfl (by decide) ⟨by (unfold SchOk; omega), by omega⟩ ?_
                intro _
                exact ⟨⟨rfl, trivial⟩, 125, by decide, rfl⟩
              · intro xZ yZ hVZ pZ
                exfalso
                have h1 := hVZ.1.1
                have h2 := hVZ.1.2.1
                have h3 := Ma.kept_le hVZ.1.2.2.2.1
                omega
            · intro xJ yJ hVJ pJ
              refine wr_neD dp_non (dp_tup (seenT 7 rfl) (dps_cons dp_int (dps_cons dp_int dps_nil))) rfl rfl ?_
              refine ⟨_, rfl, ?_⟩
              refine ifT (by first | rfl | (simp; done) | (simp [*]; done)) ?_
              all_goals
                exfalso
                first
                  | omega
                  | (have hp := Ma.wg_pos hVI; omega)
                  | (have hp := Ma.wg_pos hVJ; omega)
                  | (simp [PyData.eqv] at hb9; done)
                  | (obtain ⟨rfl, rfl⟩ := hVI.uniq hVJ
                     simp [PyData.eqv, PyData.eqvAll] at hb9; done)
          · intro xI yI hVI pI
            refine wp_call ?_
            refine wa_cons ?_
            refine wp_var rfl ?_
            refine wa_cons ?_
            refine wp_var rfl ?_
            refine wa_nil ?_
            refine wc_widest_gap 6 rfl ⟨by (unfold SchOk; omega), by omega⟩ ?_ ?_
            · intro hNJ
              refine wr_neD (dp_tup (seenT 7 rfl) (dps_cons dp_int (dps_cons dp_int dps_nil))) dp_non rfl rfl ?_
              refine ⟨_, rfl, ?_⟩
              refine ifT (by first | rfl | (simp; done) | (simp [*]; done)) ?_
              all_goals
                exfalso
                first
                  | omega
                  | (have hp := Ma.wg_pos hVI; omega)
                  | (have hp := Ma.wg_pos hVJ; omega)
                  | (simp [PyData.eqv] at hb9; done)
                  | (obtain ⟨rfl, rfl⟩ := hVI.uniq hVJ
                     simp [PyData.eqv, PyData.eqvAll] at hb9; done)
            · intro xJ yJ hVJ pJ
              refine wr_neD (dp_tup (seenT 7 rfl) (dps_cons dp_int (dps_cons dp_int dps_nil))) (dp_tup (seenT 8 rfl) (dps_cons dp_int (dps_cons dp_int dps_nil))) rfl rfl ?_
              refine ⟨_, rfl, ?_⟩
              refine ifB (fun hb17 => ?_) (fun hb17 => ?_)
              · try simp only [decide_eq_true_eq, decide_eq_false_iff_not, Bool.and_eq_true, Bool.or_eq_true, Bool.not_eq_true', Bool.and_eq_false_iff, Bool.or_eq_false_iff, Bool.not_eq_false', Bool.not_true, Bool.not_false, Bool.false_or, Bool.true_and, Bool.true_or, Bool.false_and, Bool.and_true, Bool.or_false, reduceCtorEq, not_true_eq_false, not_false_eq_true, decide_true, decide_false] at hb17
                all_goals
                  exfalso
                  first
                    | omega
                    | (have hp := Ma.wg_pos hVI; omega)
                    | (have hp := Ma.wg_pos hVJ; omega)
                    | (simp [PyData.eqv] at hb17; done)
                    | (obtain ⟨rfl, rfl⟩ := hVI.uniq hVJ
                       simp [PyData.eqv, PyData.eqvAll] at hb17; done)
              · try simp only [decide_eq_true_eq, decide_eq_false_iff_not, Bool.and_eq_true, Bool.or_eq_true, Bool.not_eq_true', Bool.and_eq_false_iff, Bool.or_eq_false_iff, Bool.not_eq_false', Bool.not_true, Bool.not_false, Bool.false_or, Bool.true_and, Bool.true_or, Bool.false_and, Bool.and_true, Bool.or_false, reduceCtorEq, not_true_eq_false, not_false_eq_true, decide_true, decide_false] at hb17
                refine wt_test ?_
                refine wp_op ?_
                refine wp_call ?_
                refine wa_cons ?_
                refine wp_var rfl ?_
                refine wa_cons ?_
                refine wp_c ?_
                refine wa_nil ?_
                refine wc_widest_gap 6 rfl ⟨by (unfold SchOk; omega), by omega⟩ ?_ ?_
                · intro hNZ
                  refine wp_c ?_
                  refine wr_notN ?_
                  refine ⟨_, rfl, ?_⟩
                  refine ifF (by first | rfl | (simp; done) | (simp [*]; done)) ?_
                  refine ws_next ?_
                  refine ws_ret ?_
                  refine wp_call ?_
                  refine wa_cons ?_
                  refine wp_var rfl ?_
                  refine wa_cons ?_
                  refine wp_var rfl ?_
                  refine wa_cons ?_
                  refine wp_var rfl ?_
                  refine wa_cons ?_
                  refine wp_var rfl ?_
                  refine wa_nil ?_
                  refine wc__law_far_right 0 rfl (by omega) 1 rfl (by decide) 6 rfl (by decide) ⟨by (unfold SchOk; omega), by omega⟩ ?_
                  intro _
                  exact ⟨⟨rfl, trivial⟩, 125, by decide, rfl⟩
                · intro xZ yZ hVZ pZ
                  exfalso
                  have h1 := hVZ.1.1
                  have h2 := hVZ.1.2.1
                  have h3 := Ma.kept_le hVZ.1.2.2.2.1
                  omega
theorem sc__law_well : FnScope ["_law_cell"] ["_law_cell"] (defScope s__law_well) := ⟨rfl, rfl, rfl, by decide +kernel, rfl, by decide +kernel, by decide +kernel⟩
def sp__law_well (CS : Addr) : Sp := fun vs H Q _ => ∃ n : Int, vs = [.int n] ∧ ∀ (p : Addr) (H' : Hp), H p = none → Same H H' → EntAt (.well 0) H' p → Q (.ref p) H'
theorem wc__law_well {CS : Addr} {g : Gr} {L : Led} {C : V → Led → Prop} {E : XK} {n : Int} (c : ∀ p : Addr, C (.ref p) (L ++ [(p, .well 0, true)])) : Wp g L (fun H Q => sp__law_well CS [.int n] H Q E) C :=
  fun H z Q q => ⟨n, rfl, fun p H' hn s ⟨o, h1, h2⟩ => q _ _ _ (c p) (z.newE s hn h1 h2)⟩

theorem ok__law_well (T : Top K mg CS) : Ok P w K mg base 1 "_law_well" s__law_well ["_law_cell"] (sp__law_well CS) := by
  refine Ok.of T.f__law_well sc__law_well (fun _ _ _ _ _ _ us hl => match us, hl with | [_], _ => rfl) (fun vs H Q E h => ?_) (fun f cdv A outer s H vs Q E hr h => ?_)
  · obtain ⟨n, rfl, _⟩ := h
    rfl
  · obtain ⟨n, rfl, kk⟩ := h
    refine ⟨_, (pss_one (ps_ret (pe_lst (pa_cons (pe_op op_mul (pv 0) (pe_callTy c_int1 (by rfl) T.b_int (by decide +kernel) (pa_cons (pe_cmpR op_ge (pv 0) (pe_op op_pow pe_int pe_int) (nomark _)) pa_nil))) (pa_cons (pv 0) (pa_cons pe_int pa_nil)))))), ?_⟩
    refine run_ws (σ := [some (.int n)]) (K := kR (fun o => (Ent.well 0).Is o)) (L := []) ?_ at_nil (eo_R fun p H' o r n s' hp => kk p H' n s' ⟨o, hp, r⟩)
    refine ws_ret ?_
    refine wp_lst ?_
    refine wa_cons ?_
    refine wp_op ?_
    refine wp_var rfl ?_
    refine wp_cb ?_
    refine wa_cons ?_
    refine wp_op ?_
    refine wp_var rfl ?_
    refine wp_op ?_
    refine wp_c ?_
    refine wp_c ?_
    refine wr_powc (r := 1000000000000000000) (powOk (by decide)) (by decide) ?_
    refine wr0 ?_
    refine wa_nil ?_
    refine wc_intB ?_
    refine wr1 (Or.inr ⟨by split <;> decide, by split <;> decide⟩) ?_
    refine wa_cons ?_
    refine wp_var rfl ?_
    refine wa_cons ?_
    refine wp_c ?_
    refine wa_nil ?_
    refine ⟨by simp, fun p1 => ?_⟩
    exact ⟨_, 0, _, rfl, rfl, _, _, _, rfl, by decide, by decide⟩
theorem sc_law : FnScope ["_law_script", "_law_cell"] ["_law_script"] (defScope s_law) := ⟨rfl, rfl, rfl, by decide +kernel, rfl, by decide +kernel, by decide +kernel⟩
def sp_law (K : PySem.W.Frag) : Sp := fun vs H Q _ => ∃ (a : Addr) (ns : List Int), vs = [.ref a] ∧ SqL K H a (ns.map V.int) ∧ ns.length ≤ 63 ∧ ∀ H', Q (.bl true) H'

theorem ok_law {f : Addr} {fd : FuncData} (F : Fun K "law" "law" s_law f fd) (T : Top K mg CS) : FnOk P w K mg base CX0 7 f fd ["_law_script"] (sp_law K) := by
  refine F.ok sc_law (fun vs H Q E h => ?_) (fun cdv A outer s H vs Q E hr h => ?_)
  · obtain ⟨a, ns, rfl, _⟩ := h
    rfl
  · obtain ⟨a, ns, rfl, hS0', hlen, kk⟩ := h
    have hS : ∀ {L : Led}, Seen K ⟨H, fun _ => False⟩ L a (ns.map V.int) := seen0 hS0' (fun z => z)
    refine ⟨_, (pss_cons (ps_for PassesOwn.never rfl (pi_list (pe_op op_cat (pe_slice sl_list (pv 0) po_none (po_some pe_int)) (pe_lst (pa_cons pe_int pa_nil)))) (pg_name (i := 1) sc_law.nd rfl (Or.inl rfl)) (pss_one (ps_if (pt_not (pt_val (pe_own (ok__law_right T) (hr.mono (by decide)) rfl (pa_cons (pe_own (ok__law_well T) (hr.mono (by decide)) rfl (pa_cons (pv 1) pa_nil)) pa_nil)))) (pss_one (ps_ret pe_bl)) pss_nil)))
      (pss_one (ps_ret pe_bl))), ?_⟩
    refine run_ws (σ := [some (.ref a), none]) (K := kV (fun v => v = .bl true)) (L := []) ?_ at_nil (eo_V fun v H' e s' => e ▸ kk H')
    refine ws_seq ?_
    refine ws_for ?_
    refine wi_list ?_
    refine wp_op ?_
    refine wp_sl ?_
    refine wp_var rfl ?_
    refine wo_none ?_
    refine wo_some ?_
    refine wp_c ?_
    refine ⟨_, rfl, ?_⟩
    refine wr_slL hS ?_
    intro p1
    refine wp_lst ?_
    refine wa_cons ?_
    refine wp_c ?_
    refine wa_nil ?_
    refine ⟨by simp, fun p2 => ?_⟩
    refine wr_cat 0 1 rfl rfl (by (first | (simp; done) | (simp; have := cutV_length (ns.map V.int) none (some 3); simp at this; omega))) ?_
    intro p3
    refine ⟨_, _, rfl, (seen 2 rfl), ?_⟩
    refine wf_listS (seen 2 rfl) (fun i vs => ∃ w1 : Option V, vs = [none, some w1]) ?_ ?_ ?_
    · exact ⟨[none, some _], rfl, _, rfl⟩
    · rintro i x vs hx ⟨w1, rfl⟩
      obtain ⟨c, rfl⟩ : ∃ c : Int, x = .int c := by
        rcases List.mem_append.mp (List.mem_of_getElem? hx) with h | h
        · exact ints_all x (cut_mem h)
        · exact ⟨0, by simpa using h⟩
      refine wg_name ?_
      refine ws_if ?_
      refine wt_not ?_
      refine wt_B ?_
      refine wp_call ?_
      refine wa_cons ?_
      refine wp_call ?_
      refine wa_cons ?_
      refine wp_var rfl ?_
      refine wa_nil ?_
      refine wc__law_well ?_
      intro p4
      refine wa_nil ?_
      refine wc__law_right 3 rfl (by decide) ?_
      intro _
      refine ⟨_, rfl, ?_⟩
      refine ifF (by first | rfl | (simp; done) | (simp [*]; done)) ?_
      refine ws_next ?_
      exact ⟨[none, some _], ⟨rfl, _, rfl⟩, ⟨_, rfl⟩⟩
    rintro vs ⟨w1, rfl⟩
    refine ws_ret ?_
    refine wp_c ?_
    exact rfl
end
theorem top_mk {K : PySem.W.Frag} {h : Heap} {mg : Str → Option Value} {c_sc : Addr} (X : K.In h) (G : h.Ns mainGlobals mg)
    (aScheme : PySem.W.nsIn K mainGlobals "Scheme" = some (some (.ref c_sc)))
    (b_bool : PySem.W.nsIn K mainGlobals "bool" = some none)
    (b_int : PySem.W.nsIn K mainGlobals "int" = some none)
    (b_isinstance : PySem.W.nsIn K mainGlobals "isinstance" = some none)
    (b_len : PySem.W.nsIn K mainGlobals "len" = some none)
    (b_max : PySem.W.nsIn K mainGlobals "max" = some none)
    (b_min : PySem.W.nsIn K mainGlobals "min" = some none)
    (b_range : PySem.W.nsIn K mainGlobals "range" = some none)
    (b_reversed : PySem.W.nsIn K mainGlobals "reversed" = some none)
    (b_sorted : PySem.W.nsIn K mainGlobals "sorted" = some none)
    (b_zip : PySem.W.nsIn K mainGlobals "zip" = some none)
    (c_MOST_BASE : ∃ t, PySem.W.nsIn K mainGlobals "MOST_BASE" = some (some (.int 1000 t)))
    (c_MOST_FACTOR : ∃ t, PySem.W.nsIn K mainGlobals "MOST_FACTOR" = some (some (.int 1000000 t)))
    (pgScheme : PySem.W.plainGet K c_sc Str.empty = true) (hdScheme : PySem.W.hasDictIn K c_sc = true) (poScheme : PySem.W.plainOver K c_sc = true) (saScheme : PySem.W.findIn K (.ref c_sc) "__setattr__" = some (some (.builtin "object.__setattr__")))
    (n_Scheme_radix : PySem.W.findIn K (.ref c_sc) "radix" = some none)
    (n_Scheme_multiple : PySem.W.findIn K (.ref c_sc) "multiple" = some none)
    (f__law_mixed : TopFn K mg "_law_mixed" s__law_mixed)
    (f__law_draw : TopFn K mg "_law_draw" s__law_draw)
    (f__law_one : TopFn K mg "_law_one" s__law_one)
    (f__law_wide : TopFn K mg "_law_wide" s__law_wide)
    (f_is_integer : TopFn K mg "is_integer" s_is_integer)
    (f_is_between : TopFn K mg "is_between" s_is_between)
    (f_Scheme_init : mg "Scheme" = some (.ref c_sc) → InitFn K mg "Scheme" c_sc "Scheme.__init__" s_Scheme_init)
    (f_check_time : TopFn K mg "check_time" s_check_time)
    (f_units : TopFn K mg "units" s_units)
    (f_Scheme_base : MethFn K c_sc "base" "Scheme.base" s_Scheme_base)
    (f_Scheme_factor : MethFn K c_sc "factor" "Scheme.factor" s_Scheme_factor)
    (f_bands : TopFn K mg "bands" s_bands)
    (f_widest_gap : TopFn K mg "widest_gap" s_widest_gap)
    (f_check_age : TopFn K mg "check_age" s_check_age)
    (f_newest_up_to : TopFn K mg "newest_up_to" s_newest_up_to)
    (f_restore_point : TopFn K mg "restore_point" s_restore_point)
    (f_check_number : TopFn K mg "check_number" s_check_number)
    (f_Scheme_unit : MethFn K c_sc "unit" "Scheme.unit" s_Scheme_unit)
    (f_Scheme_last_time : MethFn K c_sc "last_time" "Scheme.last_time" s_Scheme_last_time)
    (f_Scheme_is_kept : MethFn K c_sc "is_kept" "Scheme.is_kept" s_Scheme_is_kept)
    (f__law_powers : TopFn K mg "_law_powers" s__law_powers)
    (f__law_next : TopFn K mg "_law_next" s__law_next)
    (f__law_newest : TopFn K mg "_law_newest" s__law_newest)
    (f__law_pile : TopFn K mg "_law_pile" s__law_pile)
    (f__law_big : TopFn K mg "_law_big" s__law_big)
    (f__law_far_right : TopFn K mg "_law_far_right" s__law_far_right)
    (f__law_stock : TopFn K mg "_law_stock" s__law_stock)
    (f__law_listed : TopFn K mg "_law_listed" s__law_listed)
    (f__law_near : TopFn K mg "_law_near" s__law_near)
    (f__law_right : TopFn K mg "_law_right" s__law_right)
    (f__law_well : TopFn K mg "_law_well" s__law_well)
    (f_law : TopFn K mg "law" s_law) : Top K mg c_sc :=
  ⟨PySem.W.mg_none_of X G b_bool, PySem.W.mg_none_of X G b_int, PySem.W.mg_none_of X G b_isinstance, PySem.W.mg_none_of X G b_len, PySem.W.mg_none_of X G b_max, PySem.W.mg_none_of X G b_min, PySem.W.mg_none_of X G b_range, PySem.W.mg_none_of X G b_reversed, PySem.W.mg_none_of X G b_sorted, PySem.W.mg_none_of X G b_zip, (by obtain ⟨t, h⟩ := c_MOST_BASE; exact ⟨t, PySem.W.mg_of X G h⟩), (by obtain ⟨t, h⟩ := c_MOST_FACTOR; exact ⟨t, PySem.W.mg_of X G h⟩), ⟨pgScheme, hdScheme, poScheme, saScheme⟩, n_Scheme_radix, n_Scheme_multiple, f__law_mixed, f__law_draw, f__law_one, f__law_wide, f_is_integer, f_is_between, (f_Scheme_init (PySem.W.mg_of X G aScheme)), f_check_time, f_units, f_Scheme_base, f_Scheme_factor, f_bands, f_widest_gap, f_check_age, f_newest_up_to, f_restore_point, f_check_number, f_Scheme_unit, f_Scheme_last_time, f_Scheme_is_kept, f__law_powers, f__law_next, f__law_newest, f__law_pile, f__law_big, f__law_far_right, f__law_stock, f__law_listed, f__law_near, f__law_right, f__law_well, f_law⟩
theorem all_mk {l : PySem.W.OpenLaw} {w : World} {K : PySem.W.Frag} {mg : Str → Option Value} {fa CS : Addr} (hfa : mg "law" = some (.ref fa)) (T : Top K mg CS) :
    ∃ fd : FuncData, (∀ (s : Shared) (v : Value), BindsTo s fd ⟨[v], []⟩ [("_law_script", v)]) ∧ ∀ base : Heap, K.In base → base.Ns mainGlobals mg → FnOk l.prog w K mg base CX0 7 fa fd ["_law_script"] (sp_law K) := by
  obtain ⟨f, fd, h1, F⟩ := T.f_law.ex
  have e := hfa.symm.trans h1
  cases e
  have ok := fun base => ok_law (P := l.prog) (w := w) (base := base) F T
  obtain ⟨oc, od, kV, doc, pm, an, cdv, ct, osl, rfl, lk, hcd⟩ := F.ex
  exact ⟨_, fun s v => .of_eq rfl, fun base _ _ => ok base⟩
theorem walk {l : PySem.W.OpenLaw} {q : Program} {loose : List Str} {XP : (Str → Option Value) → Heap → Prop} {YP : World → Heap → Prop} {d : DefRec} {K : Params → PySem.W.Frag} (hn : l.most = some 63) (hdf : d.params.defaults = [])
    (hY : ∀ (w : World) (h : Heap), YP w h → (K w.params).In h)
    (F : ∀ (w : World) (mg : Str → Option Value) (fa : Addr) (h : Heap), (K w.params).In h → h.Ns mainGlobals mg → mg d.name = some (.ref fa) →
      ∃ fd : FuncData, (∀ (s : Shared) (u : Value), BindsTo s fd ⟨[u], []⟩ [("_law_script", u)]) ∧ ∀ base : Heap, (K w.params).In base → base.Ns mainGlobals mg → FnOk l.prog w (K w.params) mg base CX0 7 fa fd ["_law_script"] (sp_law (K w.params))) :
    PySem.W.WalkO q loose XP YP l.row.toRowW d [] (fun f vs => PySem.call f vs) :=
  L2.walk_of (n := 63) (k := 7) (x := "_law_script") (CX := fun _ => CX0) (sp := fun w => sp_law (K w.params)) hn (by decide) hdf ⟨rfl, by decide, by decide⟩ hY F (fun _ _ a ns hl _ hS => ⟨a, ns, rfl, hS, hl, fun _ => rfl⟩) fun _ _ _ _ _ z => z
end Sn
open PySem PySem.W PyProof.Rows
set_option maxRecDepth 100000 in
set_option maxHeartbeats 0 in
theorem PySem.Challenge.cw_snapdigits_k23_widest_gaps_holds : PySem.Challenge.rw_snapdigits_k23_widest_gaps.Holds := by
  w_on; o_law; k_head; (case hw => w_witness2)
  k_fill
  refine Sn.walk (l := PySem.Challenge.rw_snapdigits_k23_widest_gaps) rfl rfl (fun w h Y => PySem.W.kIn_of Y) ?F
  case F =>
    intro w mg fa h KX G hmg
    refine' Sn.all_mk hmg (Sn.top_mk KX G ?aScheme ?b_bool ?b_int ?b_isinstance ?b_len ?b_max ?b_min ?b_range ?b_reversed ?b_sorted ?b_zip ?c_MOST_BASE ?c_MOST_FACTOR ?pgScheme ?hdScheme ?poScheme ?saScheme ?n_Scheme_radix ?n_Scheme_multiple ?f__law_mixed ?f__law_draw ?f__law_one ?f__law_wide ?f_is_integer ?f_is_between ?f_Scheme_init ?f_check_time ?f_units ?f_Scheme_base ?f_Scheme_factor ?f_bands ?f_widest_gap ?f_check_age ?f_newest_up_to ?f_restore_point ?f_check_number ?f_Scheme_unit ?f_Scheme_last_time ?f_Scheme_is_kept ?f__law_powers ?f__law_next ?f__law_newest ?f__law_pile ?f__law_big ?f__law_far_right ?f__law_stock ?f__law_listed ?f__law_near ?f__law_right ?f__law_well ?f_law)
    (case aScheme => (k_is))
    (case b_bool => (k_is))
    (case b_int => (k_is))
    (case b_isinstance => (k_is))
    (case b_len => (k_is))
    (case b_max => (k_is))
    (case b_min => (k_is))
    (case b_range => (k_is))
    (case b_reversed => (k_is))
    (case b_sorted => (k_is))
    (case b_zip => (k_is))
    (case c_MOST_BASE => (exact ⟨_, by k_is⟩))
    (case c_MOST_FACTOR => (exact ⟨_, by k_is⟩))
    (case pgScheme => (k_is))
    (case hdScheme => (k_is))
    (case poScheme => (k_is))
    (case saScheme => (k_is))
    (case n_Scheme_radix => (k_is))
    (case n_Scheme_multiple => (k_is))
    (case f__law_mixed => (refine' Kr.topFn_mk KX G ?a ?l ?c ?k; (case a => k_is); (case l => k_is); (case c => k_is); (case k => k_is)))
    (case f__law_draw => (refine' Kr.topFn_mk KX G ?a ?l ?c ?k; (case a => k_is); (case l => k_is); (case c => k_is); (case k => k_is)))
    (case f__law_one => (refine' Kr.topFn_mk KX G ?a ?l ?c ?k; (case a => k_is); (case l => k_is); (case c => k_is); (case k => k_is)))
    (case f__law_wide => (refine' Kr.topFn_mk KX G ?a ?l ?c ?k; (case a => k_is); (case l => k_is); (case c => k_is); (case k => k_is)))
    (case f_is_integer => (refine' Kr.topFn_mk KX G ?a ?l ?c ?k; (case a => k_is); (case l => k_is); (case c => k_is); (case k => k_is)))
    (case f_is_between => (refine' Kr.topFn_mk KX G ?a ?l ?c ?k; (case a => k_is); (case l => k_is); (case c => k_is); (case k => k_is)))
    (case f_Scheme_init => (intro hC; refine' Kr.initFn_mk hC ?m ?kc ?a ?i ?l ?c ?k; (case m => k_is); (case kc => k_is); (case a => k_is); (case i => k_is); (case l => k_is); (case c => k_is); (case k => k_is)))
    (case f_check_time => (refine' Kr.topFn_mk KX G ?a ?l ?c ?k; (case a => k_is); (case l => k_is); (case c => k_is); (case k => k_is)))
    (case f_units => (refine' Kr.topFn_mk KX G ?a ?l ?c ?k; (case a => k_is); (case l => k_is); (case c => k_is); (case k => k_is)))
    (case f_Scheme_base => (refine' Kr.methFn_mk ?a ?i ?l ?c ?k; (case a => k_is); (case i => k_is); (case l => k_is); (case c => k_is); (case k => k_is)))
    (case f_Scheme_factor => (refine' Kr.methFn_mk ?a ?i ?l ?c ?k; (case a => k_is); (case i => k_is); (case l => k_is); (case c => k_is); (case k => k_is)))
    (case f_bands => (refine' Kr.topFn_mk KX G ?a ?l ?c ?k; (case a => k_is); (case l => k_is); (case c => k_is); (case k => k_is)))
    (case f_widest_gap => (refine' Kr.topFn_mk KX G ?a ?l ?c ?k; (case a => k_is); (case l => k_is); (case c => k_is); (case k => k_is)))
    (case f_check_age => (refine' Kr.topFn_mk KX G ?a ?l ?c ?k; (case a => k_is); (case l => k_is); (case c => k_is); (case k => k_is)))
    (case f_newest_up_to => (refine' Kr.topFn_mk KX G ?a ?l ?c ?k; (case a => k_is); (case l => k_is); (case c => k_is); (case k => k_is)))
    (case f_restore_point => (refine' Kr.topFn_mk KX G ?a ?l ?c ?k; (case a => k_is); (case l => k_is); (case c => k_is); (case k => k_is)))
    (case f_check_number => (refine' Kr.topFn_mk KX G ?a ?l ?c ?k; (case a => k_is); (case l => k_is); (case c => k_is); (case k => k_is)))
    (case f_Scheme_unit => (refine' Kr.methFn_mk ?a ?i ?l ?c ?k; (case a => k_is); (case i => k_is); (case l => k_is); (case c => k_is); (case k => k_is)))
    (case f_Scheme_last_time => (refine' Kr.methFn_mk ?a ?i ?l ?c ?k; (case a => k_is); (case i => k_is); (case l => k_is); (case c => k_is); (case k => k_is)))
    (case f_Scheme_is_kept => (refine' Kr.methFn_mk ?a ?i ?l ?c ?k; (case a => k_is); (case i => k_is); (case l => k_is); (case c => k_is); (case k => k_is)))
    (case f__law_powers => (refine' Kr.topFn_mk KX G ?a ?l ?c ?k; (case a => k_is); (case l => k_is); (case c => k_is); (case k => k_is)))
    (case f__law_next => (refine' Kr.topFn_mk KX G ?a ?l ?c ?k; (case a => k_is); (case l => k_is); (case c => k_is); (case k => k_is)))
    (case f__law_newest => (refine' Kr.topFn_mk KX G ?a ?l ?c ?k; (case a => k_is); (case l => k_is); (case c => k_is); (case k => k_is)))
    (case f__law_pile => (refine' Kr.topFn_mk KX G ?a ?l ?c ?k; (case a => k_is); (case l => k_is); (case c => k_is); (case k => k_is)))
    (case f__law_big => (refine' Kr.topFn_mk KX G ?a ?l ?c ?k; (case a => k_is); (case l => k_is); (case c => k_is); (case k => k_is)))
    (case f__law_far_right => (refine' Kr.topFn_mk KX G ?a ?l ?c ?k; (case a => k_is); (case l => k_is); (case c => k_is); (case k => k_is)))
    (case f__law_stock => (refine' Kr.topFn_mk KX G ?a ?l ?c ?k; (case a => k_is); (case l => k_is); (case c => k_is); (case k => k_is)))
    (case f__law_listed => (refine' Kr.topFn_mk KX G ?a ?l ?c ?k; (case a => k_is); (case l => k_is); (case c => k_is); (case k => k_is)))
    (case f__law_near => (refine' Kr.topFn_mk KX G ?a ?l ?c ?k; (case a => k_is); (case l => k_is); (case c => k_is); (case k => k_is)))
    (case f__law_right => (refine' Kr.topFn_mk KX G ?a ?l ?c ?k; (case a => k_is); (case l => k_is); (case c => k_is); (case k => k_is)))
    (case f__law_well => (refine' Kr.topFn_mk KX G ?a ?l ?c ?k; (case a => k_is); (case l => k_is); (case c => k_is); (case k => k_is)))
    (case f_law => (refine' Kr.topFn_mk KX G ?a ?l ?c ?k; (case a => k_is); (case l => k_is); (case c => k_is); (case k => k_is)))
#print axioms PySem.Challenge.cw_snapdigits_k23_widest_gaps_holds
